import PyProof.Rows.All
import Wide.All
import OpenK.AllK
import Wide.FinOn
import HandS.ForMost
import HandS.ForExc
import HandS.Wide
import HandS.Ends
import HandS.HeadEnd
import HandS.TupAny
import HandS.Defaults
import HandS.Style
import HandS.Flow
import HandS.IsInst
import HandS.ExcInit
import KE.KSuper
import KE.KExcSuper
import PyProof.AutoSeq1
import HandS.Conv
import HandS.FStr
import HandS.Text
import HandS.Star
import KE.KOpsOwn
import KE.KFmtOwn
import HandS.RaiseMore
import HandS.OwnEq
import HandS.Property
import HandS.HeadHook1
import HandS.HeadHook2
import HandS.Deep
import HandS.ExcIs
import HandS.ExcField
import KE.KExcIs
import KE.KExcInit
import HandS.Dict
import HandS.Set
import HandS.Strs
import HandS.TupSets
import PyProof.Rows.SortShellAny
import PyProof.Rows.ReprR
import HandS.Iter
import HandS.WordsDict
import KE.KDictPairs
import HandS.DictComp
import HandS.ExcValue
import KE.KStateDown
import Wide.Once
import HandS.Head0
import HandS.Head1
import HandS.Head2
import PySem.Challenge.RW_deedtrees_k01_errors_and_what_they_keep
set_option Elab.async false
set_option linter.all false
set_option maxRecDepth 100000
set_option maxHeartbeats 0
/-! S0: room and promises that also tell that no repr is under way. -/
namespace Sm
open PySem PySem.Spec PyProof.Rows L2
/-- room, and nothing is being shown -/
structure Room (k : Nat) (A : Around) : Prop extends L2.Room k A where
  gd : A.guards = some []
section
variable {j k : Nat} {A : Around}
theorem Room.mono (r : Room k A) (h : j ≤ k) : Room j A := ⟨r.toRoom.mono h, r.gd⟩
theorem Room.deeper (r : Room (k + 1) A) (e : Env) : Room k (A.deeper e) := ⟨r.toRoom.deeper e, r.gd⟩
theorem Room.in1 (r : Room (k + 1) A) : Room k A.in1 := ⟨r.toRoom.in1, r.gd⟩
theorem Room.make (r : Room (k + 1) A) (C : Addr) (us : List Value) (kw : List (Str × Value)) : Room k (A.under (.builtin "type.__call__" ⟨.ref C :: us, kw⟩)) := ⟨r.toRoom.make C us kw, by
  have g := r.gd
  first
    | exact g
    | simpa [Around.under, Code.guards, Code.isGuard, pushGuards, guardIds] using g⟩
theorem Room.depth (r : Room k A) : A.depth < recursionLimit := r.toRoom.depth
theorem Room.units (r : Room k A) : A.units + 64 < cLine := r.toRoom.units
theorem Room.units0 (r : Room k A) : A.units < cLine := r.toRoom.units0
end
/-- what a def promises, where nothing is being shown -/
structure FnOk (P : Program) (w : World) (K : PySem.W.Frag) (mg : Str → Option Value) (base : Heap) (cx : CXT) (k : Nat) (f : Addr) (fd : FuncData) (ps : List Str) (sp : Sp) : Prop where
  len : ∀ vs h q z, sp vs h q z → vs.length = ps.length
  run : ∀ (A : Around) (out : List Env) (s : Shared) (h : Hp) (ar : Args) (us : List Value) (vs : List V) (q : VK) (z : XK), Room k A → Env0 P w K mg base A out s h → BindsTo s fd ar (ps.zip us) →
    Vals vs us → sp vs h q z → codeAny (model P w) A (.call (.ref f) ar) (CR cx out P w h s q z) s
section
variable {P : Program} {w : World} {K : PySem.W.Frag} {mg : Str → Option Value} {base : Heap} {cx : CXT} {f : Addr}
theorem FnOk.mono {j k : Nat} {fd : FuncData} {ps : List Str} {sp : Sp} (F : FnOk P w K mg base cx j f fd ps sp) (h : j ≤ k) : FnOk P w K mg base cx k f fd ps sp :=
  ⟨F.len, fun A out s h0 ar us vs q z hr => F.run A out s h0 ar us vs q z (hr.mono h)⟩
theorem FnOk.imp {k : Nat} {fd : FuncData} {ps : List Str} {sp sp2 : Sp} (F : FnOk P w K mg base cx k f fd ps sp) (h : ∀ vs a q z, sp2 vs a q z → sp vs a q z) : FnOk P w K mg base cx k f fd ps sp2 :=
  ⟨fun vs a q z i => F.len vs a q z (h _ _ _ _ i), fun A out s h0 ar us vs q z hr he hb hv hs => F.run A out s h0 ar us vs q z hr he hb hv (h _ _ _ _ hs)⟩
theorem fn_of {k : Nat} {nm qual : Str} {pars : Arguments} {bdy : List Stmt} {sco : Scope} {dV kV doc pm cdv ct oc : Value} {an od : Option Addr} {osl : Array (Option Value)} {N ps : List Str} {sp : Sp}
    (lk : K.lookup f = some ⟨oc, od, .func (PySem.W.fnOf nm qual pars bdy sco dV kV doc pm an cdv ct), osl⟩) (hcd : PySem.W.codeIn K cdv qual = true) (S : FnScope N ps sco) (len : ∀ vs h q z, sp vs h q z → vs.length = ps.length)
    (hbd : ∀ (A : Around) (out : List Env) (s : Shared) (h : Hp) (vs : List V) (q : VK) (z : XK), Room k (A.deeper (envOfC qual sco s.heap.objs.size f cdv)) → sp vs h q z →
      ∃ t, PSs (cxOf cx P w K mg base N qual sco f cdv A out s h z) bdy t ∧ t { nx := fun _ h2 => q .non h2, rt := q } (start N vs) h) : FnOk P w K mg base cx (k + 1) f (PySem.W.fnOf nm qual pars bdy sco dV kV doc pm an cdv ct) ps sp := by
  refine ⟨len, fun A out s h ar us vs q z hr e0 hb rv hsp => ?_⟩
  have kx : K.In s.heap := e0.mod.kin.keeps fun b o e => (e0.bs b o e).1
  have nl : s.heap.NoLimit := e0.mod.nolimit.keeps fun b o e => (e0.bs b o e).1
  refine codeAny_call_function hr.depth (kx _ _ lk) rfl S.co S.gen rfl (PySem.W.codeRec_of kx hcd) (hb _ _ _ _ (wpAny_newFunctionEnv_cells S.kind (fun y hy => ?_) fun env he s1 x => ?_))
  · obtain ⟨n, v⟩ := y
    exact (S.par n (List.of_mem_zip hy).1).imp id fun i => ⟨i, PySem.W.cellsFrom_some _ _ _ (.inl i)⟩
  · subst he
    obtain ⟨t, ht, hq⟩ := hbd A out s h vs q z (hr.deeper _) hsp
    have i0 : Inv (cxOf cx P w K mg base N qual sco f cdv A out s h z) [] (start N vs) h s1 := inv_start S hr.hd e0 (len _ _ _ _ hsp) rv x
    refine ⟨nl.keeps x.toInCall.keep, codeAny_func (wpAny_mono (ht.run [] s1 (start N vs) h _ i0 hq) (fun fl s2 hs => ?_) fun _ _ hs => hs)⟩
    cases fl with
    | ret u =>
      obtain ⟨v, _, h2, i, rr, qq⟩ := hs
      exact ⟨v, h2, i.os, i.bare, i.base, i.hok, rr, qq⟩
    | next =>
      obtain ⟨_, h2, i, qq⟩ := hs
      exact ⟨V.non, h2, i.os, i.bare, i.base, i.hok, rfl, qq⟩
    | brk => exact hs.elim fun _ a => a.elim fun _ b => b.2.elim
    | cont => exact hs.elim fun _ a => a.elim fun _ b => b.2.elim
end
/-! ### the law's call -/
section
variable {P : Program} {w : World} {K : PySem.W.Frag} {mg mb : Str → Option Value} {cx : CXT} {k : Nat} {fa a : Addr} {fd : FuncData} {x : Str} {sp : Sp} {s1 : Shared} {vs : List Value} {ns : List Int}
abbrev Done (s1 : Shared) (r : Result) (s2 : Shared) : Prop := r = .ok (.ret (.bool true)) ∧ OldK s1.heap s2.heap ∧ s2.os = s1.os ∧ AllBare s2.gens
theorem law_run (kx : K.In s1.heap) (gm : s1.heap.Ns mainGlobals mg) (gb : s1.heap.Ns builtinsNs mb) (bb : ∀ x : Str, x ≠ "__name__" → mb x = bootBuiltins x) (nl : s1.heap.NoLimit) (ng : s1.gens = #[])
    (ha : s1.heap.get? a = some { cls := .type "list", data := .seq vs.toArray }) (hr : Room k callerA) (F : ∀ base : Heap, K.In base → base.Ns mainGlobals mg → FnOk P w K mg base cx k fa fd [x] sp)
    (bt : ∀ (s : Shared) (u : Value), BindsTo s fd ⟨[u], []⟩ [(x, u)]) (hcx : ∀ h e s2, cx [] h s1 (fun _ _ _ => False) e s2 → False)
    (H : Hp) (hO : Only H) (hq : sp [.ref a] H (fun v _ => v = .bl true) fun _ _ _ => False) (ok : HOk P w H s1.heap) (at_ : ∀ b, H b ≠ none → b = a) (na : H a ≠ none → K.lookup a = none) :
    codeAny (model P w) callerA (.call (.ref fa) ⟨[.ref a], []⟩) (Done s1) s1 := by
  have hid : ∀ {b : Addr} {o : Obj}, s1.heap.get? b = some o → H b = none → (hidT s1.heap H).get? b = some o := hidT_get
  have isa : ∀ {b : Addr} {u : HO}, H b = some u → b = a := fun {b u} e => at_ b (by rw [e]; exact fun z => nomatch z)
  have nd : ∀ {b : Addr} {o : Obj} {es : Array DictEntry} {ep : Nat}, s1.heap.get? b = some o → o.data = .dict es ep → H b = none := fun {b o es ep} e d => by
    rcases hb : H b with _ | u
    · rfl
    · cases isa hb
      rw [ha] at e
      cases e
      cases (show Data.seq vs.toArray _ = Data.dict es ep from d)
  have nsk : ∀ {b : Addr} {g : Str → Option Value}, s1.heap.Ns b g → (hidT s1.heap H).Ns b g := fun ⟨o, es, ep, e, d, r⟩ => ⟨o, es, ep, hid e (nd e d), d, r⟩
  have kb : K.In (hidT s1.heap H) := fun b o e => hid (kx b o e) (by
    rcases hb : H b with _ | u
    · rfl
    · cases isa hb
      rw [na (by rw [hb]; exact fun z => nomatch z)] at e
      cases e)
  have md : Mod K mg (hidT s1.heap H) := ⟨kb, nsk gm, ⟨mb, nsk gb, bb⟩, nl.elim fun mc z => ⟨mc, nsk z.1, z.2⟩⟩
  have e0 : Env0 P w K mg (hidT s1.heap H) callerA [] s1 H := ⟨rfl, md, fun b o e => of_hidT e, Nat.le_of_eq (hidT_size _ _), trivial, fun b hb => (List.not_mem_nil (show b ∈ ([] : List Addr) from hb)).elim, ok, .of_eq ng⟩
  refine codeAny_mono ((F _ kb (nsk gm)).run callerA [] s1 H ⟨[.ref a], []⟩ [.ref a] [.ref a] _ _ hr e0 (bt s1 (.ref a)) (.cons rfl .nil) hq) fun r s2 h => ?_
  rcases r with e | fl
  · exact (hcx H e s2 h).elim
  cases fl with
  | ret u =>
    obtain ⟨v, H2, os, bare, un, ok2, rr, q⟩ := h
    cases (show v = .bl true from q)
    cases (show u = Value.bool true from rr)
    refine ⟨rfl, OldK.of_keep fun b o e => ?_, os, bare⟩
    rcases hb : H b with _ | u
    · exact un.keep b o e hb (fun z => (List.not_mem_nil (show b ∈ ([] : List Addr) from z)).elim) (by simp)
    · obtain ⟨ob, xs, z⟩ := (hO b).resolve_left (by rw [hb]; exact fun z => nomatch z)
      have t1 := (ok b _ z).1
      have t2 := (ok2 b _ (un.frzs b ob _ z)).1
      rw [e] at t1
      cases t1
      exact t2
  | next => exact False.elim h
  | brk => exact False.elim h
  | cont => exact False.elim h
theorem law_go (kx : K.In s1.heap) (gm : s1.heap.Ns mainGlobals mg) (gb : s1.heap.Ns builtinsNs mb) (bb : ∀ x : Str, x ≠ "__name__" → mb x = bootBuiltins x) (nl : s1.heap.NoLimit) (ng : s1.gens = #[])
    (ha : s1.heap.get? a = some { cls := .type "list", data := .seq vs.toArray }) (hi : IntsAre vs ns) (hl : ns.length ≤ sizeLine) (hr : Room k callerA) (F : ∀ base : Heap, K.In base → base.Ns mainGlobals mg → FnOk P w K mg base cx k fa fd [x] sp)
    (bt : ∀ (s : Shared) (u : Value), BindsTo s fd ⟨[u], []⟩ [(x, u)]) (hcx : ∀ h e s2, cx [] h s1 (fun _ _ _ => False) e s2 → False)
    (hq : ∀ H : Hp, Only H → SqL K H a (ns.map V.int) → sp [.ref a] H (fun v _ => v = .bl true) fun _ _ _ => False) : codeAny (model P w) callerA (.call (.ref fa) ⟨[.ref a], []⟩) (Done s1) s1 := by
  have rv := vals_ints hi
  have go := fun (H : Hp) (hO : Only H) (hS : SqL K H a (ns.map V.int)) => law_run kx gm gb bb nl ng ha hr F bt hcx H hO (hq H hO hS)
  rcases hk : K.lookup a with _ | o
  · refine go (fun b => if b = a then some (.frz { cls := .type "list", data := .seq vs.toArray } (.lst (ns.map V.int))) else none) (fun b => ?_) (.inl (.inr ⟨_, if_pos rfl⟩)) (fun b u z => ?_) (fun b z => ?_) fun _ => hk
    · rcases Decidable.em (b = a) with hb | hb
      · exact .inr ⟨_, _, if_pos hb⟩
      · exact .inl (if_neg hb)
    · rcases Decidable.em (b = a) with hb | hb
      · cases (if_pos hb).symm.trans z
        cases hb
        exact ⟨ha, by rw [List.length_map]; exact hl, vs, _, rv, ha⟩
      · cases (if_neg hb).symm.trans z
    · exact Decidable.byContradiction fun hb => z (if_neg hb)
  · have e := kx a o hk
    rw [ha] at e
    cases e
    exact go (fun _ => none) (fun _ => .inl rfl) (.inr ⟨_, vs.toArray, _, hk, rfl, rfl, rfl, by rw [List.size_toArray, hi.length]; exact hl, by simpa using rv⟩) (fun b u z => nomatch (show (none : Option HO) = some u from z)) (fun b z => absurd rfl z) fun z => absurd rfl z
end
theorem walk_G {l : PySem.W.OpenLaw} {n k : Nat} {q : Program} {loose : List Str} {XP : (Str → Option Value) → Heap → Prop} {YP : World → Heap → Prop} {d : DefRec} {cx : CXT} {x : Str} (hn : l.most = some n) (hn2 : n ≤ sizeLine) (hdf : d.params.defaults = []) (hr : Room k callerA)
    (F : ∀ (w : World) (mg : Str → Option Value) (fa : Addr) (h : Heap), YP w h → h.Ns mainGlobals mg → mg d.name = some (.ref fa) → ∃ (K : PySem.W.Frag) (fd : FuncData) (sp : Sp), K.In h ∧
      (∀ (s : Shared) (u : Value), BindsTo s fd ⟨[u], []⟩ [(x, u)]) ∧ (∀ (H : Hp) (a : Addr) (ns : List Int), ns.length ≤ n → Only H → SqL K H a (ns.map V.int) → sp [.ref a] H (fun v _ => v = .bl true) fun _ _ _ => False) ∧
      ∀ base : Heap, K.In base → base.Ns mainGlobals mg → FnOk l.prog w K mg base cx k fa fd [x] sp) (hcx : ∀ (H : Hp) (s : Shared) (e : Value) (s2 : Shared), cx [] H s (fun _ _ _ => False) e s2 → False) :
    PySem.W.WalkO q loose XP YP l.row.toRowW d [] (fun f vs => PySem.call f vs) :=
  Att.attach_call hn hdf fun w s0 s1 mg mb fa o pm cd doc a vs ns G Y ho hd hcd hmg hobj hints hlen hg => by
    obtain ⟨K, fd, sp, kx, hb, hsp, hF⟩ := F w mg fa _ Y G.T.g hmg
    exact law_go kx G.T.g G.T.b G.T.builtins G.T.nolimit hg hobj hints (Nat.le_trans hlen hn2) hr hF hb (fun H e s2 => hcx H s1 e s2) fun H hO hS => hsp H a ns hlen hO hS
end Sm

/-! S1: plain values W, the store, results; how they stand for V and the abstract heap. -/
namespace Sm
open PySem PySem.Spec PyProof.Rows L2

/-- a value as plain data: what never changes any more is written out, what may change is a place of the store -/
inductive W where
  | non | bl (b : Bool) | int (i : Int) | str (x : Str)
  | tup (xs : List W) | lst (xs : List W) | dct (ks vs : List W)
  | obj (C : Str) (ns : List Str) (vs : List W)
  /-- a tree: its attributes but nodes, its parts -/
  | tree (C : Str) (ns : List Str) (vs : List W) (kids : List W)
  | ref (i : Nat) | ty (n : String) | cls (C : Str)
  /-- an exception that was caught: its class, its own attributes -/
  | exc (C : Str) (ns : List Str) (vs : List W)

/-- a thing that may change -/
inductive MO where
  | lst (xs : List W) | dK (ks vs : List W) | dT (ks vs : List W) | ins (C : Str) (ns : List Str) (vs : List W)
  /-- a tree in the making, with its nodes -/
  | tin (C : Str) (ns : List Str) (vs : List W) (kids : List W)

inductive Sl where
  | un | val (w : W) | own (o : MO)

abbrev Sto := List MO
structure Ex where
  cls : Str
  ns : List Str
  vs : List W

inductive Res (α : Type) where
  | ok (a : α) (m : Sto) | exc (x : Ex) (m : Sto) | bad

abbrev M (α : Type) := Sto → Res α
def ret {α : Type} (a : α) : M α := fun m => .ok a m
def bad {α : Type} : M α := fun _ => .bad
def bnd {α β : Type} (x : M α) (f : α → M β) : M β := fun m => match x m with
  | .ok a m' => f a m'
  | .exc x m' => .exc x m'
  | .bad => .bad
abbrev SS := List Sl
/-- an expression's worth; a list's of them -/
abbrev Fe := SS → M W
abbrev Fas := SS → M (List W)
/-- a statement's -/
inductive Out where
  | nx (σ : SS) | rt (w : W) | bk (σ : SS) | ct (σ : SS) | ex (x : Ex) (σ : SS)
abbrev Fs := SS → M Out

/-! ### what stands for what -/
structure Cn where
  K : PySem.W.Frag
  cl : Str → Addr
/-- a key of a dict -/
def keyOf : W → Option Key
  | .int i => some (.inl i)
  | .str x => some (.inr x)
  | _ => none
def keysOf : List W → Option (List Key)
  | [] => some []
  | w :: r => match keyOf w, keysOf r with
    | some k, some ks => some (k :: ks)
    | _, _ => none
def tkeyOf : W → Option (List Key)
  | .tup xs => keysOf xs
  | _ => none
/-- the attributes, that of the nodes hidden -/
def offN (gs : List (Str × V)) : List (Str × V) := gs.map fun p => if p.1 = ("nodes" : Str) then (p.1, V.non) else p

/-- at e: an exception of the class at C, its dict at d -/
def xoH (e C d : Addr) : HO := .ext fun h => ∃ (oe : Obj) (vs : Array Value), h.get? e = some oe ∧ oe.cls = .ref C ∧ oe.dict = some d ∧ oe.data = .fields vs
/-- at e: an exception of the class at C, without a dict -/
def xnH (e C : Addr) : HO := .ext fun h => ∃ (oe : Obj) (vs : Array Value), h.get? e = some oe ∧ oe.cls = .ref C ∧ oe.dict = none ∧ oe.data = .fields vs
mutual
def RW (c : Cn) (F : Hp) (ρ : List Addr) : W → V → Prop
  | .non, v => v = .non
  | .bl b, v => v = .bl b
  | .int i, v => v = .int i
  | .str x, v => v = .str x
  | .tup ws, v => ∃ a vs, v = .ref a ∧ SqT c.K F a vs ∧ RWs c F ρ ws vs
  | .lst ws, v => ∃ a vs, v = .ref a ∧ Rd F a (.lst vs) ∧ RWs c F ρ ws vs
  | .dct ks ws, v => ∃ a o kvs, v = .ref a ∧ F a = some (.frz o (.dK kvs)) ∧ ks.map keyOf = kvs.map (fun p => some p.1) ∧ RWs c F ρ ws (kvs.map (·.2))
  | .obj C ns ws, v => ∃ a dx gs, v = .ref a ∧ F a = some (.ins (c.cl C) dx gs) ∧ gs.map (·.1) = ns ∧ RWs c F ρ ws (gs.map (·.2))
  | .tree C ns ws kids, v => ∃ a dx gs t r, v = .ref a ∧ F a = some (.ins (c.cl C) dx gs) ∧ (offN gs).map (·.1) = ns ∧ RWs c F ρ ws ((offN gs).map (·.2)) ∧ gs.lookup ("nodes" : Str) = some (.ref t) ∧ SqT c.K F t (.ref a :: r) ∧ NRs c F ρ kids r
  | .ref i, v => ∃ a, v = .ref a ∧ ρ[i]? = some a
  | .ty n, v => v = .ty n
  | .cls C, v => v = .ref (c.cl C)
  | .exc C ns ws, v => (∃ a d gs, v = .ref a ∧ F a = some (xoH a (c.cl C) d) ∧ F d = some (.xd gs) ∧ gs.map (·.1) = ns ∧ RWs c F ρ ws (gs.map (·.2))) ∨ (ns = [] ∧ ws = [] ∧ ∃ a, v = .ref a ∧ F a = some (xnH a (c.cl C)))
def RWs (c : Cn) (F : Hp) (ρ : List Addr) : List W → List V → Prop
  | [], vs => vs = []
  | w :: ws, vs => ∃ v r, vs = v :: r ∧ RW c F ρ w v ∧ RWs c F ρ ws r
/-- the nodes of some trees, one after another -/
def NRs (c : Cn) (F : Hp) (ρ : List Addr) : List W → List V → Prop
  | [], r => r = []
  | .tree C ns ws kids :: ks, r => ∃ v r1 r2, r = v :: (r1 ++ r2) ∧ RW c F ρ (.tree C ns ws kids) v ∧ NRs c F ρ kids r1 ∧ NRs c F ρ ks r2
  | _ :: _, _ => False
end

theorem rd_mono {F F' : Hp} {a : Addr} {o : HO} (s : Same F F') (h : Rd F a o) : Rd F' a o := h.imp (s _ _) fun ⟨u, h⟩ => ⟨u, s _ _ h⟩
theorem sqT_mono {K : PySem.W.Frag} {F F' : Hp} {a : Addr} {xs : List V} (s : Same F F') (h : SqT K F a xs) : SqT K F' a xs := by
  rcases h with (h | ⟨o, h⟩) | h
  · exact .inl (.inl (s _ _ h))
  · exact .inl (.inr ⟨o, s _ _ h⟩)
  · exact .inr h

def Pre (ρ ρ' : List Addr) : Prop := ∀ (i : Nat) (a : Addr), ρ[i]? = some a → ρ'[i]? = some a
theorem Pre.refl (ρ : List Addr) : Pre ρ ρ := fun _ _ h => h
theorem Pre.trans {a b c : List Addr} (x : Pre a b) (y : Pre b c) : Pre a c := fun i q h => y i q (x i q h)

mutual
theorem RW.mono {c : Cn} {F F' : Hp} {ρ ρ' : List Addr} (s : Same F F') (p : Pre ρ ρ') : ∀ (w : W) (v : V), RW c F ρ w v → RW c F' ρ' w v
  | .non, _, h => h
  | .bl _, _, h => h
  | .int _, _, h => h
  | .str _, _, h => h
  | .tup ws, v, h => by
    unfold RW at h ⊢
    obtain ⟨a, vs, e, q, r⟩ := h
    exact ⟨a, vs, e, sqT_mono s q, RWs.mono s p ws vs r⟩
  | .lst ws, v, h => by
    unfold RW at h ⊢
    obtain ⟨a, vs, e, q, r⟩ := h
    exact ⟨a, vs, e, rd_mono s q, RWs.mono s p ws vs r⟩
  | .dct ks ws, v, h => by
    unfold RW at h ⊢
    obtain ⟨a, o, kvs, e, q, k, r⟩ := h
    exact ⟨a, o, kvs, e, s _ _ q, k, RWs.mono s p ws _ r⟩
  | .tree C ns ws kids, v, h => by
    unfold RW at h ⊢
    obtain ⟨a, dx, gs, t, rr, e, q, n, r, l, z, y⟩ := h
    exact ⟨a, dx, gs, t, rr, e, s _ _ q, n, RWs.mono s p ws _ r, l, sqT_mono s z, NRs.mono s p kids rr y⟩
  | .obj C ns ws, v, h => by
    unfold RW at h ⊢
    obtain ⟨a, dx, gs, e, q, n, r⟩ := h
    exact ⟨a, dx, gs, e, s _ _ q, n, RWs.mono s p ws _ r⟩
  | .ref i, v, h => by
    unfold RW at h ⊢
    obtain ⟨a, e, q⟩ := h
    exact ⟨a, e, p _ _ q⟩
  | .ty _, _, h => h
  | .cls _, _, h => h
  | .exc C ns ws, v, h => by
    unfold RW at h ⊢
    rcases h with ⟨a, d, gs, e, q, q2, n, r⟩ | ⟨n1, n2, a, e, q⟩
    · exact .inl ⟨a, d, gs, e, s _ _ q, s _ _ q2, n, RWs.mono s p ws _ r⟩
    · exact .inr ⟨n1, n2, a, e, s _ _ q⟩
theorem RWs.mono {c : Cn} {F F' : Hp} {ρ ρ' : List Addr} (s : Same F F') (p : Pre ρ ρ') : ∀ (ws : List W) (vs : List V), RWs c F ρ ws vs → RWs c F' ρ' ws vs
  | [], _, h => h
  | w :: ws, vs, h => by
    unfold RWs at h ⊢
    obtain ⟨v, r, e, q, t⟩ := h
    exact ⟨v, r, e, RW.mono s p w v q, RWs.mono s p ws r t⟩
theorem NRs.mono {c : Cn} {F F' : Hp} {ρ ρ' : List Addr} (s : Same F F') (p : Pre ρ ρ') : ∀ (ws : List W) (vs : List V), NRs c F ρ ws vs → NRs c F' ρ' ws vs
  | [], _, h => h
  | .tree C ns ws kids :: ks, vs, h => by
    unfold NRs at h ⊢
    obtain ⟨v, r1, r2, e, q, t1, t2⟩ := h
    exact ⟨v, r1, r2, e, RW.mono s p (.tree C ns ws kids) v q, NRs.mono s p kids r1 t1, NRs.mono s p ks r2 t2⟩
  | .non :: _, _, h => by unfold NRs at h; exact h.elim
  | .bl _ :: _, _, h => by unfold NRs at h; exact h.elim
  | .int _ :: _, _, h => by unfold NRs at h; exact h.elim
  | .str _ :: _, _, h => by unfold NRs at h; exact h.elim
  | .tup _ :: _, _, h => by unfold NRs at h; exact h.elim
  | .lst _ :: _, _, h => by unfold NRs at h; exact h.elim
  | .dct _ _ :: _, _, h => by unfold NRs at h; exact h.elim
  | .obj _ _ _ :: _, _, h => by unfold NRs at h; exact h.elim
  | .ref _ :: _, _, h => by unfold NRs at h; exact h.elim
  | .ty _ :: _, _, h => by unfold NRs at h; exact h.elim
  | .cls _ :: _, _, h => by unfold NRs at h; exact h.elim
  | .exc _ _ _ :: _, _, h => by unfold NRs at h; exact h.elim
end

section
variable {c : Cn} {F : Hp} {ρ : List Addr}
theorem RWs.nil : RWs c F ρ [] [] := rfl
theorem RWs.cons {w : W} {v : V} {ws : List W} {vs : List V} (h : RW c F ρ w v) (t : RWs c F ρ ws vs) : RWs c F ρ (w :: ws) (v :: vs) := by
  unfold RWs
  exact ⟨v, vs, rfl, h, t⟩
theorem RWs.inv {w : W} {ws : List W} {vs : List V} (h : RWs c F ρ (w :: ws) vs) : ∃ v r, vs = v :: r ∧ RW c F ρ w v ∧ RWs c F ρ ws r := by
  unfold RWs at h
  exact h
theorem RWs.length : ∀ {ws : List W} {vs : List V}, RWs c F ρ ws vs → vs.length = ws.length
  | [], _, h => by
    have e : _ = [] := h
    rw [e]
    rfl
  | w :: ws, vs, h => by
    obtain ⟨v, r, e, _, t⟩ := h.inv
    rw [e, List.length_cons, List.length_cons, RWs.length t]
theorem RWs.get : ∀ {ws : List W} {vs : List V} {i : Nat} {w : W}, RWs c F ρ ws vs → ws[i]? = some w → ∃ v, vs[i]? = some v ∧ RW c F ρ w v
  | [], _, _, _, _, e => by simp at e
  | x :: ws, vs, 0, w, h, e => by
    obtain ⟨v, r, rfl, q, t⟩ := h.inv
    simp at e
    subst e
    exact ⟨v, rfl, q⟩
  | x :: ws, vs, i + 1, w, h, e => by
    obtain ⟨v, r, rfl, q, t⟩ := h.inv
    obtain ⟨u, h1, h2⟩ := RWs.get (i := i) t (by simpa using e)
    exact ⟨u, by simpa using h1, h2⟩
theorem RWs.append : ∀ {ws us : List W} {vs ts : List V}, RWs c F ρ ws vs → RWs c F ρ us ts → RWs c F ρ (ws ++ us) (vs ++ ts)
  | [], us, vs, ts, h, q => by
    have e : vs = [] := h
    rw [e]
    exact q
  | w :: ws, us, vs, ts, h, q => by
    obtain ⟨v, r, rfl, h1, t⟩ := h.inv
    exact .cons h1 (RWs.append t q)
theorem RWs.take : ∀ {ws : List W} {vs : List V} (n : Nat), RWs c F ρ ws vs → RWs c F ρ (ws.take n) (vs.take n)
  | _, _, 0, _ => by simp only [List.take_zero]; exact .nil
  | [], vs, n + 1, h => by
    have e : vs = [] := h
    rw [e]
    exact .nil
  | w :: ws, vs, n + 1, h => by
    obtain ⟨v, r, rfl, h1, t⟩ := h.inv
    exact .cons h1 (RWs.take n t)
theorem RWs.drop : ∀ {ws : List W} {vs : List V} (n : Nat), RWs c F ρ ws vs → RWs c F ρ (ws.drop n) (vs.drop n)
  | _, _, 0, h => h
  | [], vs, n + 1, h => by
    have e : vs = [] := h
    rw [e]
    exact .nil
  | w :: ws, vs, n + 1, h => by
    obtain ⟨v, r, rfl, h1, t⟩ := h.inv
    exact RWs.drop n t
theorem RWs.set : ∀ {ws : List W} {vs : List V} {w : W} {v : V} (i : Nat), RWs c F ρ ws vs → RW c F ρ w v → RWs c F ρ (ws.set i w) (vs.set i v)
  | [], vs, _, _, _, h, _ => by
    have e : vs = [] := h
    rw [e]
    exact .nil
  | x :: ws, vs, w, v, 0, h, q => by
    obtain ⟨u, r, rfl, h1, t⟩ := h.inv
    exact .cons q t
  | x :: ws, vs, w, v, i + 1, h, q => by
    obtain ⟨u, r, rfl, h1, t⟩ := h.inv
    exact .cons h1 (RWs.set i t q)
theorem RWs.reverse : ∀ {ws : List W} {vs : List V}, RWs c F ρ ws vs → RWs c F ρ ws.reverse vs.reverse
  | [], vs, h => by
    have e : vs = [] := h
    rw [e]
    exact .nil
  | w :: ws, vs, h => by
    obtain ⟨v, r, rfl, h1, t⟩ := h.inv
    rw [List.reverse_cons, List.reverse_cons]
    exact (RWs.reverse t).append (.cons h1 .nil)
end

/-! ### the store -/
def OR (c : Cn) (F : Hp) (ρ : List Addr) (a : Addr) : MO → HO → Prop
  | .lst xs, o => ∃ vs, o = .lst vs ∧ RWs c F ρ xs vs
  | .dK ks ws, o => ∃ kvs, o = .dK kvs ∧ ks.map keyOf = kvs.map (fun p => some p.1) ∧ RWs c F ρ ws (kvs.map (·.2))
  | .dT _ _, _ => False
  | .ins C ns ws, o => ∃ dx gs, o = .ins (c.cl C) dx gs ∧ gs.map (·.1) = ns ∧ RWs c F ρ ws (gs.map (·.2))
  | .tin C ns ws kids, o => ∃ dx gs t r, o = .ins (c.cl C) dx gs ∧ (offN gs).map (·.1) = ns ∧ RWs c F ρ ws ((offN gs).map (·.2)) ∧ gs.lookup ("nodes" : Str) = some (.ref t) ∧ SqT c.K F t (.ref a :: r) ∧ NRs c F ρ kids r
theorem OR.mono {c : Cn} {F F' : Hp} {ρ ρ' : List Addr} {a : Addr} (s : Same F F') (p : Pre ρ ρ') {o : MO} {h : HO} (x : OR c F ρ a o h) : OR c F' ρ' a o h := by
  cases o with
  | lst xs =>
    obtain ⟨vs, e, r⟩ := x
    exact ⟨vs, e, r.mono s p⟩
  | dK ks ws =>
    obtain ⟨vs, e, k, r⟩ := x
    exact ⟨vs, e, k, r.mono s p⟩
  | dT ks ws => exact x.elim
  | ins C ns ws =>
    obtain ⟨dx, gs, e, n, r⟩ := x
    exact ⟨dx, gs, e, n, r.mono s p⟩
  | tin C ns ws kids =>
    obtain ⟨dx, gs, t, rr, e, n, r, l, z, y⟩ := x
    exact ⟨dx, gs, t, rr, e, n, r.mono s p, l, sqT_mono s z, NRs.mono s p _ _ y⟩

structure R (c : Cn) (F : Hp) (ρ : List Addr) (m : Sto) (H : Hp) : Prop where
  sub : Same F H
  len : ρ.length = m.length
  nd : ρ.Nodup
  off : ∀ a ∈ ρ, F a = none
  at_ : ∀ (i : Nat) (a : Addr) (o : MO), ρ[i]? = some a → m[i]? = some o → ∃ h, H a = some h ∧ OR c F ρ a o h

structure Go (F : Hp) (ρ : List Addr) (H F' : Hp) (ρ' : List Addr) (H' : Hp) : Prop where
  ff : Same F F'
  pre : Pre ρ ρ'
  keep : ∀ a o, H a = some o → a ∉ ρ → H' a = some o
  off : ∀ a o, H a = some o → a ∉ ρ → a ∉ ρ' ∧ (F a = none → F' a = none)
theorem Go.refl {F : Hp} {ρ : List Addr} {H : Hp} : Go F ρ H F ρ H := ⟨Same.refl _, .refl _, fun _ _ h _ => h, fun _ _ _ h => ⟨h, fun z => z⟩⟩
theorem Go.trans {F F1 F2 : Hp} {ρ ρ1 ρ2 : List Addr} {H H1 H2 : Hp} (x : Go F ρ H F1 ρ1 H1) (y : Go F1 ρ1 H1 F2 ρ2 H2) : Go F ρ H F2 ρ2 H2 :=
  ⟨x.ff.trans y.ff, x.pre.trans y.pre, fun a o h n => y.keep a o (x.keep a o h n) (x.off a o h n).1, fun a o h n =>
    ⟨(y.off a o (x.keep a o h n) (x.off a o h n).1).1, fun z => (y.off a o (x.keep a o h n) (x.off a o h n).1).2 ((x.off a o h n).2 z)⟩⟩

/-- a new frozen object -/
theorem upd_new {H : Hp} {p : Addr} {o : HO} (n : H p = none) : Same H (upd H p o) := fun b u e => by rw [upd_ne (ne_of_none e n)]; exact e
theorem same_upd2 {F H : Hp} {p : Addr} {o : HO} (s : Same F H) (n : H p = none) : Same (upd F p o) (upd H p o) := fun b u e => by
  by_cases hb : b = p
  · subst hb
    rw [upd_same] at e ⊢
    exact e
  · rw [upd_ne hb] at e ⊢
    exact s _ _ e
section
variable {c : Cn} {F : Hp} {ρ : List Addr} {m : Sto} {H : Hp}
theorem R.notin (r : R c F ρ m H) {p : Addr} (n : H p = none) : p ∉ ρ := fun q => by
  obtain ⟨i, hi⟩ := List.getElem?_of_mem q
  have hl : i < m.length := by
    rw [← r.len]
    exact (List.getElem?_eq_some_iff.mp hi).1
  obtain ⟨h, e, _⟩ := r.at_ i p m[i] hi (by simp [hl])
  rw [n] at e
  cases e
theorem R.fnone (r : R c F ρ m H) {p : Addr} (n : H p = none) : F p = none := r.sub.free n
/-- a new object that never changes -/
theorem R.new (r : R c F ρ m H) {p : Addr} (n : H p = none) (o : HO) : R c (upd F p o) ρ m (upd H p o) ∧ Go F ρ H (upd F p o) ρ (upd H p o) := by
  have fs : Same F (upd F p o) := upd_new (r.fnone n)
  have ne : ∀ {a : Addr} {u : HO}, H a = some u → a ≠ p := fun e => ne_of_none e n
  have ni := r.notin n
  refine ⟨⟨same_upd2 r.sub n, r.len, r.nd, fun a ha => ?_, fun i a ob h1 h2 => ?_⟩, ⟨fs, .refl _, fun a u e _ => ?_, fun a u e q => ⟨q, fun z => ?_⟩⟩⟩
  · rw [upd_ne (fun z => ni (by rw [← z]; exact ha))]
    exact r.off a ha
  · obtain ⟨h, e, q⟩ := r.at_ i a ob h1 h2
    exact ⟨h, by rw [upd_ne (ne e)]; exact e, q.mono fs (.refl _)⟩
  · rw [upd_ne (ne e)]
    exact e
  · rw [upd_ne (ne e)]
    exact z
/-- a new object that is not frozen (an own one) -/
theorem R.newH (r : R c F ρ m H) {p : Addr} (n : H p = none) (o : HO) : R c F ρ m (upd H p o) ∧ Go F ρ H F ρ (upd H p o) := by
  have ne : ∀ {a : Addr} {u : HO}, H a = some u → a ≠ p := fun e => ne_of_none e n
  refine ⟨⟨r.sub.trans (upd_new n), r.len, r.nd, r.off, fun i a ob h1 h2 => ?_⟩, ⟨Same.refl _, .refl _, fun a u e _ => ?_, fun a u e q => ⟨q, fun z => z⟩⟩⟩
  · obtain ⟨h, e, q⟩ := r.at_ i a ob h1 h2
    exact ⟨h, by rw [upd_ne (ne e)]; exact e, q⟩
  · rw [upd_ne (ne e)]
    exact e
end

/-! ### the slots of a frame -/
structure RS (c : Cn) (F : Hp) (ρ : List Addr) (τ : SS) (σ : L2.St) (H : Hp) : Prop where
  len : τ.length = σ.length
  val : ∀ (i : Nat) (w : W), τ[i]? = some (.val w) → ∃ v, σ[i]? = some (some v) ∧ RW c F ρ w v
  own : ∀ (i : Nat) (o : MO), τ[i]? = some (.own o) → ∃ a h, σ[i]? = some (some (.ref a)) ∧ F a = none ∧ a ∉ ρ ∧ H a = some h ∧ OR c F ρ a o h
  nd : ∀ (i j : Nat) (o o' : MO) (a : Addr), i ≠ j → τ[i]? = some (.own o) → τ[j]? = some (.own o') → σ[i]? = some (some (.ref a)) → σ[j]? = some (some (.ref a)) → False
theorem RS.go {c : Cn} {F F' : Hp} {ρ ρ' : List Addr} {τ : SS} {σ : L2.St} {H H' : Hp} (s : RS c F ρ τ σ H) (g : Go F ρ H F' ρ' H') : RS c F' ρ' τ σ H' :=
  ⟨s.len, fun i w e => by
    obtain ⟨v, h, r⟩ := s.val i w e
    exact ⟨v, h, r.mono g.ff g.pre⟩, fun i o e => by
    obtain ⟨a, h, h1, h2, h3, h4, h5⟩ := s.own i o e
    obtain ⟨q1, q2⟩ := g.off a h h4 h3
    exact ⟨a, h, h1, q2 h2, q1, g.keep a h h4 h3, h5.mono g.ff g.pre⟩, s.nd⟩

/-! ### the readings -/
section
variable (c : Cn) (F : Hp) (ρ : List Addr) (H : Hp)
def OkE (Q : VK) (w : W) (m' : Sto) : Prop := ∀ v F' ρ' H', R c F' ρ' m' H' → Go F ρ H F' ρ' H' → RW c F' ρ' w v → Q v H'
def OkB (Q : VK) (w : W) (m' : Sto) : Prop := ∀ v F' ρ' H', R c F' ρ' m' H' → Go F ρ H F' ρ' H' → RW c H' ρ' w v → Q v H'
def OkA (Q : List V → Hp → Prop) (ws : List W) (m' : Sto) : Prop := ∀ vs F' ρ' H', R c F' ρ' m' H' → Go F ρ H F' ρ' H' → RWs c F' ρ' ws vs → Q vs H'
/-- an exception: its class and its own dict -/
def XR (F' : Hp) (ρ' : List Addr) (H' : Hp) (x : Ex) (cls : Value) (d : Option Addr) : Prop := cls = .ref (c.cl x.cls) ∧
  ((d = none ∧ x.ns = [] ∧ x.vs = []) ∨ ∃ dd gs, d = some dd ∧ H' dd = some (.xd gs) ∧ gs.map (·.1) = x.ns ∧ RWs c F' ρ' x.vs (gs.map (·.2)) ∧ dd ∉ ρ' ∧ H dd = none)
def OkX (E : XK) (x : Ex) (m' : Sto) : Prop := ∀ cls d F' ρ' H', R c F' ρ' m' H' → Go F ρ H F' ρ' H' → XR c H F' ρ' H' x cls d → E cls d H'
end
def Post {α : Type} (ok : α → Sto → Prop) (ex : Ex → Sto → Prop) : Res α → Prop
  | .ok a m => ok a m
  | .exc x m => ex x m
  | .bad => False

section
variable (c : Cn) (Wx : WX)
def sE (f : Fe) : TE := fun σ H Q => ∃ F ρ m τ, R c F ρ m H ∧ RS c F ρ τ σ H ∧ Post (OkE c F ρ H Q) (OkX c F ρ H fun k d H' => Wx k d σ H') (f τ m)
def sB (f : Fe) : TE := fun σ H Q => ∃ F ρ m τ, R c F ρ m H ∧ RS c F ρ τ σ H ∧ Post (OkB c F ρ H Q) (OkX c F ρ H fun k d H' => Wx k d σ H') (f τ m)
def sA (f : Fas) : TA := fun σ H Q => ∃ F ρ m τ, R c F ρ m H ∧ RS c F ρ τ σ H ∧ Post (OkA c F ρ H Q) (OkX c F ρ H fun k d H' => Wx k d σ H') (f τ m)
end
abbrev SE (c : Cn) (X : Cx) (Wx : WX) (e : Expr) (f : Fe) : Prop := PE X e (sE c Wx f)
abbrev SB (c : Cn) (X : Cx) (Wx : WX) (e : Expr) (f : Fe) : Prop := PE X e (sB c Wx f)
abbrev SA (c : Cn) (X : Cx) (Wx : WX) (es : List Expr) (f : Fas) : Prop := PA X es (sA c Wx f)

theorem PE.weak {X : Cx} {e : Expr} {t t' : TE} (h : PE X e t') (w : ∀ σ H Q, t σ H Q → t' σ H Q) : PE X e t := ⟨fun pins s σ H Q I q => h.run pins s σ H Q I (w _ _ _ q)⟩
theorem PA.weak {X : Cx} {es : List Expr} {t t' : TA} (h : PA X es t') (w : ∀ σ H Q, t σ H Q → t' σ H Q) : PA X es t := ⟨fun pos pins s σ H Q I q => h.run pos pins s σ H Q I (w _ _ _ q)⟩
theorem PS.weak {X : Cx} {e : Stmt} {t t' : TS} (h : PS X e t') (w : ∀ D σ H, t D σ H → t' D σ H) : PS X e t := ⟨fun pins s σ H Q I q => h.run pins s σ H Q I (w _ _ _ q)⟩
theorem PSs.weak {X : Cx} {e : List Stmt} {t t' : TS} (h : PSs X e t') (w : ∀ D σ H, t D σ H → t' D σ H) : PSs X e t := ⟨fun pins s σ H Q I q => h.run pins s σ H Q I (w _ _ _ q)⟩

/-! what is behind a step, seen from ahead of it -/
section
variable {c : Cn} {F F1 : Hp} {ρ ρ1 : List Addr} {H H1 : Hp}
theorem OkE.back {Q : VK} {w : W} {m : Sto} (g : Go F ρ H F1 ρ1 H1) (h : OkE c F ρ H Q w m) : OkE c F1 ρ1 H1 Q w m := fun v F' ρ' H' r g' q => h v F' ρ' H' r (g.trans g') q
theorem OkB.back {Q : VK} {w : W} {m : Sto} (g : Go F ρ H F1 ρ1 H1) (h : OkB c F ρ H Q w m) : OkB c F1 ρ1 H1 Q w m := fun v F' ρ' H' r g' q => h v F' ρ' H' r (g.trans g') q
theorem OkA.back {Q : List V → Hp → Prop} {w : List W} {m : Sto} (g : Go F ρ H F1 ρ1 H1) (h : OkA c F ρ H Q w m) : OkA c F1 ρ1 H1 Q w m := fun v F' ρ' H' r g' q => h v F' ρ' H' r (g.trans g') q
theorem XR.back {F' : Hp} {ρ' : List Addr} {H' : Hp} {x : Ex} {cls : Value} {d : Option Addr} (g : Go F ρ H F1 ρ1 H1) (h : XR c H1 F' ρ' H' x cls d) (hn : ∀ a, H1 a = none → a ∉ ρ → H a = none) (hr : ∀ a ∈ ρ, H1 a ≠ none) : XR c H F' ρ' H' x cls d := by
  obtain ⟨h1, h2⟩ := h
  refine ⟨h1, h2.imp id fun ⟨dd, gs, a, b, e, f, g1, g2⟩ => ⟨dd, gs, a, b, e, f, g1, hn dd g2 fun z => hr dd z g2⟩⟩
theorem R.live {m : Sto} (r : R c F ρ m H) : ∀ a ∈ ρ, H a ≠ none := fun a q n => r.notin n q
theorem Go.nn (g : Go F ρ H F1 ρ1 H1) : ∀ a, H1 a = none → a ∉ ρ → H a = none := fun a n q => by
  cases e : H a with
  | none => rfl
  | some o =>
    rw [g.keep a o e q] at n
    cases n
theorem R.live1 {m : Sto} (r : R c F1 ρ1 m H1) (g : Go F ρ H F1 ρ1 H1) : ∀ a ∈ ρ, H1 a ≠ none := fun a q => by
  obtain ⟨i, hi⟩ := List.getElem?_of_mem q
  exact r.live a (List.mem_of_getElem? (g.pre i a hi))
theorem OkX.back {E : XK} {x : Ex} {m m1 : Sto} (r1 : R c F1 ρ1 m1 H1) (g : Go F ρ H F1 ρ1 H1) (h : OkX c F ρ H E x m) : OkX c F1 ρ1 H1 E x m := fun cls d F' ρ' H' r g' q => h cls d F' ρ' H' r (g.trans g') (q.back g g.nn (r1.live1 g))
end
end Sm

/-! S2: expressions. -/
namespace Sm
open PySem PySem.Spec PyProof.Rows L2

def toW : MO → W
  | .lst xs => .lst xs
  | .dK ks vs => .dct ks vs
  | .dT ks vs => .dct ks vs
  | .ins C ns vs => .obj C ns vs
  | .tin C ns vs kids => .tree C ns vs kids
/-- borrowed: frozen, or an own object as it stands -/
def RB (c : Cn) (F : Hp) (ρ : List Addr) (H : Hp) (w : W) (v : V) : Prop := RW c F ρ w v ∨ ∃ a h o, v = V.ref a ∧ w = toW o ∧ H a = some h ∧ a ∉ ρ ∧ F a = none ∧ OR c F ρ a o h
section
variable {c : Cn} {F F' : Hp} {ρ ρ' : List Addr} {H H' : Hp} {m : Sto} {v : V}
theorem RB.go {w : W} (h : RB c F ρ H w v) (g : Go F ρ H F' ρ' H') : RB c F' ρ' H' w v := by
  rcases h with h | ⟨a, u, o, h1, h2, h3, h4, h5, h6⟩
  · exact .inl (h.mono g.ff g.pre)
  · obtain ⟨q1, q2⟩ := g.off a u h3 h4
    exact .inr ⟨a, u, o, h1, h2, g.keep a u h3 h4, q1, q2 h5, h6.mono g.ff g.pre⟩
theorem RB.scal {w : W} (h : RB c F ρ H w v) (n : ∀ o, w ≠ toW o) : RW c F ρ w v := by
  rcases h with h | ⟨a, u, o, h1, h2, _⟩
  · exact h
  · exact absurd h2 (n o)
theorem RB.int {i : Int} (h : RB c F ρ H (.int i) v) : v = .int i := h.scal fun o e => by cases o <;> cases e
theorem RB.str {i : Str} (h : RB c F ρ H (.str i) v) : v = .str i := h.scal fun o e => by cases o <;> cases e
theorem RB.bl {i : Bool} (h : RB c F ρ H (.bl i) v) : v = .bl i := h.scal fun o e => by cases o <;> cases e
theorem RB.non (h : RB c F ρ H .non v) : v = .non := h.scal fun o e => by cases o <;> cases e
theorem RB.ref {i : Nat} (h : RB c F ρ H (.ref i) v) : ∃ a, v = .ref a ∧ ρ[i]? = some a := by
  have q := h.scal fun o e => by cases o <;> cases e
  unfold RW at q
  exact q
theorem RB.tup {ws : List W} (r : R c F ρ m H) (h : RB c F ρ H (.tup ws) v) : ∃ a vs, v = .ref a ∧ SqT c.K H a vs ∧ RWs c F ρ ws vs := by
  have q := h.scal fun o e => by cases o <;> cases e
  unfold RW at q
  obtain ⟨a, vs, e, s, t⟩ := q
  exact ⟨a, vs, e, sqT_mono r.sub s, t⟩
theorem RB.lst {ws : List W} (r : R c F ρ m H) (h : RB c F ρ H (.lst ws) v) : ∃ a vs, v = .ref a ∧ Rd H a (.lst vs) ∧ RWs c F ρ ws vs := by
  rcases h with h | ⟨a, u, o, h1, h2, h3, h4, h5, h6⟩
  · unfold RW at h
    obtain ⟨a, vs, e, s, t⟩ := h
    exact ⟨a, vs, e, rd_mono r.sub s, t⟩
  · cases o with
    | lst xs =>
      cases h2
      obtain ⟨vs, rfl, t⟩ := h6
      exact ⟨a, vs, h1, .of h3, t⟩
    | _ => cases h2
/-- a place of the store -/
theorem R.lst {i : Nat} {a : Addr} {xs : List W} (r : R c F ρ m H) (h : ρ[i]? = some a) (e : m[i]? = some (.lst xs)) : ∃ vs, H a = some (.lst vs) ∧ RWs c F ρ xs vs := by
  obtain ⟨o, ho, q⟩ := r.at_ i a _ h e
  obtain ⟨vs, rfl, t⟩ := q
  exact ⟨vs, ho, t⟩
end

section
variable (c : Cn) (F : Hp) (ρ : List Addr) (H : Hp)
def OkW (Q : VK) (w : W) (m' : Sto) : Prop := ∀ v F' ρ' H', R c F' ρ' m' H' → Go F ρ H F' ρ' H' → RB c F' ρ' H' w v → Q v H'
end
section
variable (c : Cn) (Wx : WX)
def sW (f : Fe) : TE := fun σ H Q => ∃ F ρ m τ, R c F ρ m H ∧ RS c F ρ τ σ H ∧ Post (OkW c F ρ H Q) (OkX c F ρ H fun k d H' => Wx k d σ H') (f τ m)
end
/-- e is read (and not kept): worth f -/
abbrev SR (c : Cn) (X : Cx) (Wx : WX) (e : Expr) (f : Fe) : Prop := PE X e (sW c Wx f)

section
variable {c : Cn} {X : Cx} {Wx : WX}
theorem SE.rd {e : Expr} {f : Fe} (h : SE c X Wx e f) : SR c X Wx e f := PE.weak h fun σ H Q ⟨F, ρ, m, τ, r, s, p⟩ => ⟨F, ρ, m, τ, r, s, by
  cases e : f τ m with
  | ok w m' =>
    rw [e] at p
    exact fun v F' ρ' H' r' g q => p v F' ρ' H' r' g (.inl q)
  | exc x m' =>
    rw [e] at p
    exact p
  | bad =>
    rw [e] at p
    exact p⟩

/-! ### names, constants -/
def eVar (i : Nat) : Fe := fun τ m => match τ[i]? with
  | some (.val w) => .ok w m
  | _ => .bad
def rVar (i : Nat) : Fe := fun τ m => match τ[i]? with
  | some (.val w) => .ok w m
  | some (.own o) => .ok (toW o) m
  | _ => .bad
def eC (w : W) : Fe := fun _ m => .ok w m
theorem s_var (i : Nat) {x : Str} {pos : Pos} (hN : X.N[i]? = some x := by rfl) (hv : Vis X.env.scope x := by first | exact Or.inl rfl | exact Or.inr (Or.inl rfl) | exact Or.inr (Or.inr rfl)) (hd : (x == ("__debug__" : Str)) = false := by decide)
    (hcd : (x == ("__classdict__" : Str)) = false := by decide) : SE c X Wx (.Name x pos) (eVar i) := PE.weak (pe_var hN hv hd hcd) fun σ H Q ⟨F, ρ, m, τ, r, s, p⟩ => by
  unfold eVar at p
  split at p
  · rename_i w e
    obtain ⟨v, h1, h2⟩ := s.val i w e
    exact ⟨v, h1, p v F ρ H r .refl h2⟩
  · exact p.elim
theorem s_rvar (i : Nat) {x : Str} {pos : Pos} (hN : X.N[i]? = some x := by rfl) (hv : Vis X.env.scope x := by first | exact Or.inl rfl | exact Or.inr (Or.inl rfl) | exact Or.inr (Or.inr rfl)) (hd : (x == ("__debug__" : Str)) = false := by decide)
    (hcd : (x == ("__classdict__" : Str)) = false := by decide) : SR c X Wx (.Name x pos) (rVar i) := PE.weak (pe_var hN hv hd hcd) fun σ H Q ⟨F, ρ, m, τ, r, s, p⟩ => by
  unfold rVar at p
  split at p
  · rename_i w e
    obtain ⟨v, h1, h2⟩ := s.val i w e
    exact ⟨v, h1, p v F ρ H r .refl (.inl h2)⟩
  · rename_i o e
    obtain ⟨a, h, h1, h2, h3, h4, h5⟩ := s.own i o e
    exact ⟨_, h1, p _ F ρ H r .refl (.inr ⟨a, h, o, rfl, rfl, h4, h3, h2, h5⟩)⟩
  · exact p.elim
theorem const {v : V} {w : W} {e : Expr} (h : PE X e (tC v)) (q : ∀ F ρ, RW c F ρ w v) : SE c X Wx e (eC w) := PE.weak h fun σ H Q ⟨F, ρ, m, τ, r, s, p⟩ => p v F ρ H r .refl (q F ρ)
theorem s_int {i : Int} {j pos} : SE c X Wx (.Constant (.int i) j pos) (eC (.int i)) := const pe_int fun _ _ => rfl
theorem s_str {i : Str} {j pos} : SE c X Wx (.Constant (.str i) j pos) (eC (.str i)) := const pe_str fun _ _ => rfl
theorem s_bl {i : Bool} {j pos} : SE c X Wx (.Constant (.bool i) j pos) (eC (.bl i)) := const pe_bl fun _ _ => rfl
theorem s_non {j pos} : SE c X Wx (.Constant .none j pos) (eC .non) := const pe_non fun _ _ => rfl

/-! ### operators -/
def lift (o : Option W) : M W := fun m => match o with
  | some w => .ok w m
  | none => .bad
def op2 (g : W → W → Sto → Option W) (fa fb : Fe) : Fe := fun τ => bnd (fa τ) fun x => bnd (fb τ) fun y m => lift (g x y m) m
def op1 (g : W → Sto → Option W) (fa : Fe) : Fe := fun τ => bnd (fa τ) fun x m => lift (g x m) m
def rS (c : Cn) (g : W → W → Sto → Option W) : R2 := fun x y H Q => ∃ F ρ m w1 w2 w, R c F ρ m H ∧ RB c F ρ H w1 x ∧ RB c F ρ H w2 y ∧ g w1 w2 m = some w ∧ OkE c F ρ H Q w m
def rS1 (c : Cn) (g : W → Sto → Option W) : V → Hp → VK → Prop := fun x H Q => ∃ F ρ m w1 w, R c F ρ m H ∧ RB c F ρ H w1 x ∧ g w1 m = some w ∧ OkE c F ρ H Q w m

theorem w_op2 {g : W → W → Sto → Option W} {fa fb : Fe} {σ : L2.St} {H : Hp} {Q : VK} (h : sE c Wx (op2 g fa fb) σ H Q) : tOp (rS c g) (sW c Wx fa) (sW c Wx fb) σ H Q := by
  obtain ⟨F, ρ, m, τ, r, s, p⟩ := h
  refine ⟨F, ρ, m, τ, r, s, ?_⟩
  unfold op2 bnd at p
  cases e : fa τ m with
  | bad =>
    rw [e] at p
    exact p
  | exc x m' =>
    rw [e] at p
    exact p
  | ok w1 m1 =>
    rw [e] at p
    intro v1 F1 ρ1 H1 r1 g1 q1
    refine ⟨F1, ρ1, m1, τ, r1, s.go g1, ?_⟩
    dsimp only at p
    cases e2 : fb τ m1 with
    | bad =>
      rw [e2] at p
      exact p
    | exc x m' =>
      rw [e2] at p
      exact OkX.back r1 g1 p
    | ok w2 m2 =>
      rw [e2] at p
      intro v2 F2 ρ2 H2 r2 g2 q2
      dsimp only at p
      cases e3 : g w1 w2 m2 with
      | none =>
        rw [e3] at p
        exact p.elim
      | some w =>
        rw [e3] at p
        exact ⟨F2, ρ2, m2, w1, w2, w, r2, q1.go g2, q2, e3, OkE.back (g1.trans g2) p⟩
theorem w_op1 {g : W → Sto → Option W} {fa : Fe} {σ : L2.St} {H : Hp} {Q : VK} (h : sE c Wx (op1 g fa) σ H Q) : tUn (rS1 c g) (sW c Wx fa) σ H Q := by
  obtain ⟨F, ρ, m, τ, r, s, p⟩ := h
  refine ⟨F, ρ, m, τ, r, s, ?_⟩
  unfold op1 bnd at p
  cases e : fa τ m with
  | bad =>
    rw [e] at p
    exact p
  | exc x m' =>
    rw [e] at p
    exact p
  | ok w1 m1 =>
    rw [e] at p
    intro v1 F1 ρ1 H1 r1 g1 q1
    dsimp only at p
    cases e3 : g w1 m1 with
    | none =>
      rw [e3] at p
      exact p.elim
    | some w =>
      rw [e3] at p
      exact ⟨F1, ρ1, m1, w1, w, r1, q1, e3, OkE.back g1 p⟩

section
variable {a b : Expr} {fa fb : Fe} {pos : Pos} {g : W → W → Sto → Option W}
theorem s_bin {op : Operator} (ho : OpR X (binaryOp op) (rS c g)) (ha : SR c X Wx a fa) (hb : SR c X Wx b fb) : SE c X Wx (.BinOp a op b pos) (op2 g fa fb) := PE.weak (pe_op ho ha hb) fun _ _ _ h => w_op2 h
theorem s_cmp {op : CmpOp} (ho : OpR X (compareOp op) (rS c g)) (ha : SR c X Wx a fa) (hb : SR c X Wx b fb) (hm : behindInMarks op b = false := by first | exact nomark _ | rfl | with_unfolding_all rfl) : SE c X Wx (.Compare a [op] [b] pos) (op2 g fa fb) := PE.weak (pe_cmpR ho ha hb hm) fun _ _ _ h => w_op2 h
theorem s_ix (ho : IxR X (rS c g)) (ha : SR c X Wx a fa) (hb : SR c X Wx b fb) (hs : PlainIx b := by exact fun _ _ => rfl) : SE c X Wx (.Subscript a b pos) (op2 g fa fb) := PE.weak (pe_ix ho ha hb hs) fun _ _ _ h => w_op2 h
theorem s_un {op : UnaryOp} {g : W → Sto → Option W} (ho : UnR X (unaryOp op) (rS1 c g)) (ha : SR c X Wx a fa) : SE c X Wx (.UnaryOp op a pos) (op1 g fa) := PE.weak (pe_un ho ha) fun _ _ _ h => w_op1 h
end
end

/-! ### worths of operators -/
def addW : W → W → Sto → Option W
  | .int i, .int j, _ => some (.int (i + j))
  | .str a, .str b, _ => if a.length + b.length ≤ sizeLine then some (.str (a ++ b)) else none
  | .tup a, .tup b, _ => if a.length + b.length ≤ sizeLine then some (.tup (a ++ b)) else none
  | .lst a, .lst b, _ => if a.length + b.length ≤ sizeLine then some (.lst (a ++ b)) else none
  | _, _, _ => none
def subW : W → W → Sto → Option W
  | .int i, .int j, _ => some (.int (i - j))
  | _, _, _ => none
def mulW : W → W → Sto → Option W
  | .int i, .int j, _ => if (-(2 ^ 64) < i ∧ i < 2 ^ 64) ∨ (-(2 ^ 64) < j ∧ j < 2 ^ 64) then some (.int (i * j)) else none
  | _, _, _ => none
def modW : W → W → Sto → Option W
  | .int i, .int j, _ => if 0 < j then some (.int (i % j)) else none
  | _, _, _ => none
def fdivW : W → W → Sto → Option W
  | .int i, .int j, _ => if 0 < j ∧ j < 1073741824 then some (.int (i / j)) else none
  | _, _, _ => none
def powW : W → W → Sto → Option W
  | .int i, .int j, _ => if 0 ≤ j ∧ j ≤ 1000000 ∧ i.natAbs < 2 ^ 64 then some (.int (i ^ j.toNat)) else none
  | _, _, _ => none
def cmpI (p : Int → Int → Bool) : W → W → Sto → Option W
  | .int i, .int j, _ => some (.bl (p i j))
  | _, _, _ => none

section
variable {c : Cn} {X : Cx}
theorem op_intI {f : Value → Value → Sem Value} {p : Int → Int → Prop} {q : Int → Int → V} (h : OpR X f (rI p q)) {g : W → W → Sto → Option W}
    (hg : ∀ w1 w2 m w, g w1 w2 m = some w → ∃ i j, w1 = .int i ∧ w2 = .int j ∧ p i j ∧ ∀ F ρ, RW c F ρ w (q i j)) : OpR X f (rS c g) := by
  intro pins s σ H x y v u Q I rx ry hr
  obtain ⟨F, ρ, m, w1, w2, w, r, q1, q2, e, k⟩ := hr
  obtain ⟨i, j, rfl, rfl, hp, hw⟩ := hg _ _ _ _ e
  exact h pins s σ H x y v u Q I rx ry ⟨i, j, q1.int, q2.int, hp, k _ F ρ H r .refl (hw F ρ)⟩
theorem op_intI0 {f : Value → Value → Sem Value} {q : Int → Int → V} (h : OpR X f (rI0 q)) {g : W → W → Sto → Option W}
    (hg : ∀ w1 w2 m w, g w1 w2 m = some w → ∃ i j, w1 = .int i ∧ w2 = .int j ∧ ∀ F ρ, RW c F ρ w (q i j)) : OpR X f (rS c g) := by
  intro pins s σ H x y v u Q I rx ry hr
  obtain ⟨F, ρ, m, w1, w2, w, r, q1, q2, e, k⟩ := hr
  obtain ⟨i, j, rfl, rfl, hw⟩ := hg _ _ _ _ e
  exact h pins s σ H x y v u Q I rx ry ⟨i, j, q1.int, q2.int, k _ F ρ H r .refl (hw F ρ)⟩
theorem o_sub : OpR X (binaryOp .Sub) (rS c subW) := op_intI0 op_sub fun w1 w2 m w e => by
  unfold subW at e
  split at e
  · cases e
    exact ⟨_, _, rfl, rfl, fun _ _ => rfl⟩
  · cases e
theorem o_mul : OpR X (binaryOp .Mult) (rS c mulW) := op_intI op_mul fun w1 w2 m w e => by
  unfold mulW at e
  split at e
  · split at e
    · rename_i hc
      cases e
      exact ⟨_, _, rfl, rfl, hc, fun _ _ => rfl⟩
    · cases e
  · cases e
theorem o_mod : OpR X (binaryOp .Mod) (rS c modW) := op_intI op_mod fun w1 w2 m w e => by
  unfold modW at e
  split at e
  · split at e
    · rename_i hc
      cases e
      exact ⟨_, _, rfl, rfl, hc, fun _ _ => rfl⟩
    · cases e
  · cases e
theorem o_fdiv : OpR X (binaryOp .FloorDiv) (rS c fdivW) := op_intI op_fdiv fun w1 w2 m w e => by
  unfold fdivW at e
  split at e
  · split at e
    · rename_i hc
      cases e
      exact ⟨_, _, rfl, rfl, hc, fun _ _ => rfl⟩
    · cases e
  · cases e
theorem o_pow : OpR X (binaryOp .Pow) (rS c powW) := op_intI op_pow fun w1 w2 m w e => by
  unfold powW at e
  split at e
  · split at e
    · rename_i hc
      cases e
      exact ⟨_, _, rfl, rfl, hc, fun _ _ => rfl⟩
    · cases e
  · cases e
theorem cmp_int {f : Value → Value → Sem Value} {p : Int → Int → Bool} (h : OpR X f (rI0 fun i j => .bl (p i j))) : OpR X f (rS c (cmpI p)) := op_intI0 h fun w1 w2 m w e => by
  unfold cmpI at e
  split at e
  · cases e
    exact ⟨_, _, rfl, rfl, fun _ _ => rfl⟩
  · cases e
theorem o_lt : OpR X (compareOp .Lt) (rS c (cmpI fun i j => decide (i < j))) := cmp_int op_lt
theorem o_le : OpR X (compareOp .LtE) (rS c (cmpI fun i j => decide (i ≤ j))) := cmp_int op_le
theorem o_gt : OpR X (compareOp .Gt) (rS c (cmpI fun i j => decide (j < i))) := cmp_int op_gt
theorem o_ge : OpR X (compareOp .GtE) (rS c (cmpI fun i j => decide (j ≤ i))) := cmp_int op_ge

/-- a list, a tuple newly made, never to change -/
theorem OkE.newT {F : Hp} {ρ : List Addr} {H : Hp} {m : Sto} {Q : VK} {ws : List W} {vs : List V} (k : OkE c F ρ H Q (.tup ws) m) (r : R c F ρ m H) (h : RWs c F ρ ws vs) (p : Addr) (n : H p = none) : Q (.ref p) (upd H p (.tup vs)) := by
  obtain ⟨r1, g1⟩ := r.new n (.tup vs)
  refine k _ _ _ _ r1 g1 ?_
  unfold RW
  exact ⟨p, vs, rfl, .of upd_same, h.mono g1.ff g1.pre⟩
theorem OkE.newL {F : Hp} {ρ : List Addr} {H : Hp} {m : Sto} {Q : VK} {ws : List W} {vs : List V} (k : OkE c F ρ H Q (.lst ws) m) (r : R c F ρ m H) (h : RWs c F ρ ws vs) (p : Addr) (n : H p = none) : Q (.ref p) (upd H p (.lst vs)) := by
  obtain ⟨r1, g1⟩ := r.new n (.lst vs)
  refine k _ _ _ _ r1 g1 ?_
  unfold RW
  exact ⟨p, vs, rfl, .of upd_same, h.mono g1.ff g1.pre⟩
theorem Rd.raw {pins : List (Addr × Obj)} {s : Shared} {σ : L2.St} {H : Hp} {a : Addr} {xs : List V} (I : Inv X pins σ H s) (h : Rd H a (.lst xs)) : xs.length ≤ sizeLine ∧ ∃ (its : List Value) (n : Nat), Vals xs its ∧ s.heap.get? a = some { cls := .type "list", data := .seq its.toArray n } := h.ok I.hok
theorem cat_lists {pins : List (Addr × Obj)} {s : Shared} {σ : L2.St} {H : Hp} {a b : Addr} {xs ys : List V} {Q : VK} (I : Inv X pins σ H s) (ha : Rd H a (.lst xs)) (hb : Rd H b (.lst ys)) (hz : xs.length + ys.length ≤ sizeLine)
    (q : ∀ p, H p = none → Q (.ref p) (upd H p (.lst (xs ++ ys)))) : wpAny (model X.prog X.w) X.A (binaryOp .Add (.ref a) (.ref b)) (EP X pins σ Q) X.xe s := by
  obtain ⟨_, its, n, r, e⟩ := Rd.raw I ha
  obtain ⟨_, its2, n2, r2, e2⟩ := Rd.raw I hb
  have h1 := r.length
  have h2 := r2.length
  refine PySem.P.add_list e e2 ?_ (by rw [List.size_toArray, List.size_toArray]; omega)
  have ea : its.toArray ++ its2.toArray = (its ++ its2).toArray := by simp
  rw [ea]
  exact ⟨.ref _, _, I.lnew (t' := s.toks) (r.append r2) (by rw [List.length_append]; omega), rfl, q _ I.fresh⟩
theorem o_add {cl : Str → Addr} : OpR X (binaryOp .Add) (rS ⟨X.K, cl⟩ addW) := by
  intro pins s σ H x y v u Q I rx ry hr
  obtain ⟨F, ρ, m, w1, w2, w, r, q1, q2, e, k⟩ := hr
  unfold addW at e
  split at e
  · cases e
    exact op_add pins s σ H x y v u Q I rx ry ⟨_, _, q1.int, q2.int, k _ F ρ H r .refl rfl⟩
  · split at e
    · rename_i hz
      cases e
      exact op_add_str pins s σ H x y v u Q I rx ry ⟨_, _, q1.str, q2.str, hz, k _ F ρ H r .refl rfl⟩
    · cases e
  · split at e
    · rename_i a b hz
      cases e
      obtain ⟨a1, vs1, rfl, s1, t1⟩ := q1.tup r
      obtain ⟨a2, vs2, rfl, s2, t2⟩ := q2.tup r
      have l1 := t1.length
      have l2 := t2.length
      cases rx
      cases ry
      obtain ⟨its, z1, p1, _⟩ := I.tuple s1
      obtain ⟨its2, z2, p2, _⟩ := I.tuple s2
      by_cases hx : vs1 = []
      · subst hx
        cases z1
        have ea : a = [] := List.length_eq_zero_iff.mp (by simpa using l1.symm)
        subst ea
        refine cat_tup0 p1 p2 ⟨.ref a2, H, I, rfl, k _ F ρ H r .refl ?_⟩
        exact (q2.scal fun o e => by cases o <;> cases e)
      · by_cases hy : vs2 = []
        · have eb : b = [] := List.length_eq_zero_iff.mp (by rw [← l2, hy]; rfl)
          refine op_catT pins s σ H (.ref a1) (.ref a2) _ _ Q I rfl rfl ⟨a1, a2, vs1, vs2, rfl, rfl, s1, s2, hx, by omega, fun _ => k _ F ρ H r .refl ?_, fun z => absurd hy z⟩
          rw [eb, List.append_nil]
          exact (q1.scal fun o e => by cases o <;> cases e)
        · exact op_catT pins s σ H (.ref a1) (.ref a2) _ _ Q I rfl rfl ⟨a1, a2, vs1, vs2, rfl, rfl, s1, s2, hx, by omega, fun z => absurd z hy, fun _ p n => k.newT r (t1.append t2) p n⟩
    · cases e
  · split at e
    · rename_i a b hz
      cases e
      obtain ⟨a1, vs1, rfl, s1, t1⟩ := q1.lst r
      obtain ⟨a2, vs2, rfl, s2, t2⟩ := q2.lst r
      have l1 := t1.length
      have l2 := t2.length
      cases rx
      cases ry
      exact cat_lists I s1 s2 (by omega) fun p n => k.newL r (t1.append t2) p n
    · cases e
  · cases e
end
end Sm

/-! S3: tests, statements. -/
namespace Sm
open PySem PySem.Spec PyProof.Rows L2

/-! ### tests -/
abbrev Ft := SS → M Bool
section
variable (c : Cn) (Wx : WX)
def OkT (F : Hp) (ρ : List Addr) (H : Hp) (Q : Bool → Hp → Prop) (b : Bool) (m' : Sto) : Prop := ∀ F' ρ' H', R c F' ρ' m' H' → Go F ρ H F' ρ' H' → Q b H'
def sT (f : Ft) : TT := fun σ H Q => ∃ F ρ m τ, R c F ρ m H ∧ RS c F ρ τ σ H ∧ Post (OkT c F ρ H Q) (OkX c F ρ H fun k d H' => Wx k d σ H') (f τ m)
end
abbrev ST (c : Cn) (X : Cx) (Wx : WX) (e : Expr) (f : Ft) : Prop := PT X e (sT c Wx f)
theorem PT.weak {X : Cx} {e : Expr} {t t' : TT} (h : PT X e t') (w : ∀ σ H Q, t σ H Q → t' σ H Q) : PT X e t := ⟨fun pins s σ H Q I q => h.run pins s σ H Q I (w _ _ _ q)⟩
theorem PW.weak {X : Cx} {e : Expr} {t t' : TT} (h : PW X e t') (w : ∀ σ H Q, t σ H Q → t' σ H Q) : PW X e t := ⟨fun wh pins s σ H Q I q => h.run wh pins s σ H Q I (w _ _ _ q)⟩
def truW : W → Sto → Option Bool
  | .non, _ => some false
  | .bl b, _ => some b
  | .int i, _ => some (i != 0)
  | .str x, _ => if x.length ≤ sizeLine then some ((x.length : Int) != 0) else none
  | .tup xs, _ => some (!xs.isEmpty)
  | .lst xs, _ => some (!xs.isEmpty)
  | _, _ => none
def tTru (f : Fe) : Ft := fun τ => bnd (f τ) fun w m => match truW w m with
  | some b => .ok b m
  | none => .bad
def blW : W → Option Bool
  | .bl b => some b
  | _ => none
def tBl (f : Fe) : Ft := fun τ => bnd (f τ) fun w m => match blW w with
  | some b => .ok b m
  | none => .bad
def tNt (f : Ft) : Ft := fun τ => bnd (f τ) fun b m => .ok (!b) m
def tAn (f g : Ft) : Ft := fun τ => bnd (f τ) fun b m => if b = true then g τ m else .ok false m
def tOrr (f g : Ft) : Ft := fun τ => bnd (f τ) fun b m => if b = true then .ok true m else g τ m

theorem isEmpty_RWs {c : Cn} {F : Hp} {ρ : List Addr} {ws : List W} {vs : List V} (h : RWs c F ρ ws vs) : ws.isEmpty = vs.isEmpty := by
  cases ws with
  | nil =>
    have e : vs = [] := h
    rw [e]
    rfl
  | cons w ws =>
    obtain ⟨v, r, rfl, _⟩ := h.inv
    rfl
section
variable {cl : Str → Addr} {X : Cx} {Wx : WX}
theorem tru_of {F : Hp} {ρ : List Addr} {H : Hp} {m : Sto} {w : W} {v : V} {b : Bool} (r : R ⟨X.K, cl⟩ F ρ m H) (q : RB ⟨X.K, cl⟩ F ρ H w v) (e : truW w m = some b) : TruV X.K v H b := by
  unfold truW at e
  split at e
  · cases e
    rw [q.non]
    rfl
  · cases e
    rw [q.bl]
    rfl
  · cases e
    rw [q.int]
    rfl
  · split at e
    · cases e
      rw [q.str]
      exact ⟨by assumption, rfl⟩
    · cases e
  · cases e
    obtain ⟨a, vs, rfl, s, t⟩ := q.tup r
    exact .inr (.inl ⟨vs, s, by rw [isEmpty_RWs t]⟩)
  · cases e
    obtain ⟨a, vs, rfl, s, t⟩ := q.lst r
    exact .inl ⟨vs, .inl s, by rw [isEmpty_RWs t]⟩
  · cases e
variable {a b : Expr} {fa : Fe} {f g : Ft} {pos : Pos} {rest : List Expr}
theorem t_truth (ha : SR ⟨X.K, cl⟩ X Wx a fa) (he : ∀ whole, isTrue a X.env whole = (do let v ← whole; standAt a.pos; holding [v] (truthy v)) := by intro _; rfl) : ST ⟨X.K, cl⟩ X Wx a (tTru fa) := by
  refine PT.weak (pt_truth ha he) fun σ H Q ⟨F, ρ, m, τ, r, s, p⟩ => ⟨F, ρ, m, τ, r, s, ?_⟩
  unfold tTru bnd at p
  cases e : fa τ m with
  | bad =>
    rw [e] at p
    exact p
  | exc x m' =>
    rw [e] at p
    exact p
  | ok w m1 =>
    rw [e] at p
    dsimp only at p
    intro v F1 ρ1 H1 r1 g1 q1
    cases e2 : truW w m1 with
    | none =>
      rw [e2] at p
      exact p.elim
    | some k =>
      rw [e2] at p
      exact ⟨k, tru_of r1 q1 e2, p F1 ρ1 H1 r1 g1⟩
/-- a comparison as a test -/
theorem t_of_cmp {c : Cn} {op : CmpOp} {gg : W → W → Sto → Option W} {fb : Fe} (ho : OpR X (compareOp op) (rS c gg)) (ha : SR c X Wx a fa) (hb : SR c X Wx b fb) (hm : behindInMarks op b = false := by first | exact nomark _ | rfl | with_unfolding_all rfl) :
    ST c X Wx (.Compare a [op] [b] pos) (tBl (op2 gg fa fb)) := by
  refine PT.weak (pt_cmpR ho ha hb hm) fun σ H Q ⟨F, ρ, m, τ, r, s, p⟩ => ?_
  refine w_op2 (Wx := Wx) (Q := fun x H' => ∃ k, x = V.bl k ∧ Q k H') ⟨F, ρ, m, τ, r, s, ?_⟩
  unfold tBl bnd at p
  cases e : op2 gg fa fb τ m with
  | bad =>
    rw [e] at p
    exact p
  | exc x m' =>
    rw [e] at p
    exact p
  | ok w m1 =>
    rw [e] at p
    dsimp only at p
    cases w with
    | bl k => exact fun v F1 ρ1 H1 r1 g1 q1 => ⟨k, q1, p F1 ρ1 H1 r1 g1⟩
    | _ => exact p.elim
variable {c : Cn}
theorem t_not (ha : ST c X Wx a f) : ST c X Wx (.UnaryOp .Not a pos) (tNt f) := PT.weak (pt_not ha) fun σ H Q ⟨F, ρ, m, τ, r, s, p⟩ => ⟨F, ρ, m, τ, r, s, by
  unfold tNt bnd at p
  cases e : f τ m <;> (rw [e] at p; exact p)⟩
theorem t_and1 (ha : ST c X Wx a f) : PW X (.BoolOp .And [a] pos) (sT c Wx f) := pw_and1 ha
theorem t_or1 (ha : ST c X Wx a f) : PW X (.BoolOp .Or [a] pos) (sT c Wx f) := pw_or1 ha
theorem t_and (ha : ST c X Wx a f) (hb : PW X (.BoolOp .And (b :: rest) pos) (sT c Wx g)) : PW X (.BoolOp .And (a :: b :: rest) pos) (sT c Wx (tAn f g)) := PW.weak (pw_and ha hb) fun σ H Q ⟨F, ρ, m, τ, r, s, p⟩ => ⟨F, ρ, m, τ, r, s, by
  unfold tAn bnd at p
  cases e : f τ m with
  | bad =>
    rw [e] at p
    exact p
  | exc x m' =>
    rw [e] at p
    exact p
  | ok k m1 =>
    rw [e] at p
    dsimp only at p
    intro F1 ρ1 H1 r1 g1
    cases k with
    | true =>
      rw [if_pos rfl] at p ⊢
      refine ⟨F1, ρ1, m1, τ, r1, s.go g1, ?_⟩
      cases e2 : g τ m1 with
      | ok k2 m2 =>
        rw [e2] at p
        exact fun F2 ρ2 H2 r2 g2 => p F2 ρ2 H2 r2 (g1.trans g2)
      | exc x m' =>
        rw [e2] at p
        exact OkX.back r1 g1 p
      | bad =>
        rw [e2] at p
        exact p
    | false =>
      rw [if_neg Bool.false_ne_true] at p ⊢
      exact p F1 ρ1 H1 r1 g1⟩
theorem t_or (ha : ST c X Wx a f) (hb : PW X (.BoolOp .Or (b :: rest) pos) (sT c Wx g)) : PW X (.BoolOp .Or (a :: b :: rest) pos) (sT c Wx (tOrr f g)) := PW.weak (pw_or ha hb) fun σ H Q ⟨F, ρ, m, τ, r, s, p⟩ => ⟨F, ρ, m, τ, r, s, by
  unfold tOrr bnd at p
  cases e : f τ m with
  | bad =>
    rw [e] at p
    exact p
  | exc x m' =>
    rw [e] at p
    exact p
  | ok k m1 =>
    rw [e] at p
    dsimp only at p
    intro F1 ρ1 H1 r1 g1
    cases k with
    | false =>
      rw [if_neg Bool.false_ne_true] at p ⊢
      refine ⟨F1, ρ1, m1, τ, r1, s.go g1, ?_⟩
      cases e2 : g τ m1 with
      | ok k2 m2 =>
        rw [e2] at p
        exact fun F2 ρ2 H2 r2 g2 => p F2 ρ2 H2 r2 (g1.trans g2)
      | exc x m' =>
        rw [e2] at p
        exact OkX.back r1 g1 p
      | bad =>
        rw [e2] at p
        exact p
    | true =>
      rw [if_pos rfl] at p ⊢
      exact p F1 ρ1 H1 r1 g1⟩
end

/-! ### statements -/
structure Bs where
  F : Hp
  ρ : List Addr
  H : Hp
  self : Option Addr
structure Fr (c : Cn) (B : Bs) (F : Hp) (ρ : List Addr) (m : Sto) (τ : SS) (σ : L2.St) (H : Hp) : Prop where
  r : R c F ρ m H
  s : RS c F ρ τ σ H
  g : Go B.F B.ρ B.H F ρ H
  fresh : ∀ (i : Nat) (o : MO) (a : Addr), τ[i]? = some (.own o) → σ[i]? = some (some (V.ref a)) → B.H a = none
  slf : ∀ (o : MO) (a : Addr), B.self = some a → τ[0]? = some (.own o) → σ[0]? = some (some (V.ref a))
section
variable (c : Cn) (Wx : WX) (B : Bs)
def okS (D : Ends) : Out → Sto → Prop
  | .nx τ', m' => ∀ σ' F' ρ' H', Fr c B F' ρ' m' τ' σ' H' → D.nx σ' H'
  | .rt w, m' => ∀ v F' ρ' H', R c F' ρ' m' H' → Go B.F B.ρ B.H F' ρ' H' → RW c F' ρ' w v → D.rt v H'
  | .bk τ', m' => ∀ σ' F' ρ' H', Fr c B F' ρ' m' τ' σ' H' → D.bk σ' H'
  | .ct τ', m' => ∀ σ' F' ρ' H', Fr c B F' ρ' m' τ' σ' H' → D.ct σ' H'
  | .ex x τ', m' => ∀ k d σ' F' ρ' H', Fr c B F' ρ' m' τ' σ' H' → XR c B.H F' ρ' H' x k d → Wx k d σ' H'
def sS (f : Fs) : TS := fun D σ H => ∃ F ρ m τ, Fr c B F ρ m τ σ H ∧ Post (okS c Wx B D) (fun _ _ => False) (f τ m)
end
abbrev SX (c : Cn) (X : Cx) (Wx : WX) (B : Bs) (st : Stmt) (f : Fs) : Prop := PS X st (sS c Wx B f)
abbrev SXs (c : Cn) (X : Cx) (Wx : WX) (B : Bs) (st : List Stmt) (f : Fs) : Prop := PSs X st (sS c Wx B f)

section
variable {c : Cn} {X : Cx} {Wx : WX} {B : Bs} {F F' : Hp} {ρ ρ' : List Addr} {m m' : Sto} {τ : SS} {σ : L2.St} {H H' : Hp}
theorem Fr.go (x : Fr c B F ρ m τ σ H) (r : R c F' ρ' m' H') (g : Go F ρ H F' ρ' H') : Fr c B F' ρ' m' τ σ H' := ⟨r, x.s.go g, x.g.trans g, x.fresh, x.slf⟩
theorem XR.base {F1 : Hp} {ρ1 : List Addr} {H1 : Hp} {x : Ex} {k : Value} {d : Option Addr} (fr : Fr c B F ρ m τ σ H) (h : XR c H F1 ρ1 H1 x k d) : XR c B.H F1 ρ1 H1 x k d := by
  refine h.back fr.g fr.g.nn (fun a q => ?_)
  obtain ⟨i, hi⟩ := List.getElem?_of_mem q
  exact fr.r.live a (List.mem_of_getElem? (fr.g.pre i a hi))
/-- an expression within a statement -/
theorem Fr.ex {D : Ends} {x : Ex} (fr : Fr c B F ρ m τ σ H) (h : okS c Wx B D (.ex x τ) m') : OkX c F ρ H (fun k d H' => Wx k d σ H') x m' := fun k d F1 ρ1 H1 r1 g1 q => h k d σ F1 ρ1 H1 (fr.go r1 g1) (XR.base fr q)

def exS {α : Type} (r : Res α) (τ : SS) (k : α → Sto → Res Out) : Res Out := match r with
  | .ok a m => k a m
  | .exc x m => .ok (.ex x τ) m
  | .bad => .bad

def sNil : Fs := fun τ m => .ok (.nx τ) m
def sSeq (f g : Fs) : Fs := fun τ m => match f τ m with
  | .ok (.nx τ') m' => g τ' m'
  | r => r
theorem x_nil : SXs c X Wx B [] sNil := PSs.weak pss_nil fun D σ H ⟨F, ρ, m, τ, fr, p⟩ => p σ F ρ H fr
theorem x_cons {st : Stmt} {rest : List Stmt} {f g : Fs} (h1 : SX c X Wx B st f) (h2 : SXs c X Wx B rest g) : SXs c X Wx B (st :: rest) (sSeq f g) := PSs.weak (pss_cons h1 h2) fun D σ H ⟨F, ρ, m, τ, fr, p⟩ => by
  refine ⟨F, ρ, m, τ, fr, ?_⟩
  unfold sSeq at p
  cases e : f τ m with
  | bad =>
    rw [e] at p
    exact p
  | exc x m' =>
    rw [e] at p
    exact p
  | ok o m1 =>
    rw [e] at p
    cases o with
    | nx τ1 => exact fun σ1 F1 ρ1 H1 fr1 => ⟨F1, ρ1, m1, τ1, fr1, p⟩
    | rt w => exact p
    | bk τ1 => exact p
    | ct τ1 => exact p
    | ex x τ1 => exact p
theorem x_one {st : Stmt} {f : Fs} (h1 : SX c X Wx B st f) : SXs c X Wx B [st] f := pss_one h1
theorem x_pass {pos : Pos} : SX c X Wx B (.Pass pos) sNil := PS.weak ps_pass fun D σ H ⟨F, ρ, m, τ, fr, p⟩ => p σ F ρ H fr
theorem x_doc {x j pos pos'} : SX c X Wx B (.Expr (.Constant (.str x) j pos) pos') sNil := PS.weak ps_doc fun D σ H ⟨F, ρ, m, τ, fr, p⟩ => p σ F ρ H fr
def sBrk : Fs := fun τ m => .ok (.bk τ) m
def sCnt : Fs := fun τ m => .ok (.ct τ) m
theorem x_break {pos : Pos} : SX c X Wx B (.Break pos) sBrk := PS.weak ps_break fun D σ H ⟨F, ρ, m, τ, fr, p⟩ => p σ F ρ H fr
theorem x_cont {pos : Pos} : SX c X Wx B (.Continue pos) sCnt := PS.weak ps_continue fun D σ H ⟨F, ρ, m, τ, fr, p⟩ => p σ F ρ H fr

/-- the worth of an expression, then k -/
theorem useE {f : Fe} {k : W → Sto → Res Out} {Q : VK} {D : Ends} (fr : Fr c B F ρ m τ σ H) (p : Post (okS c Wx B D) (fun _ _ => False) (exS (f τ m) τ k))
    (h : ∀ w m' v F' ρ' H', Fr c B F' ρ' m' τ σ H' → RW c F' ρ' w v → Post (okS c Wx B D) (fun _ _ => False) (k w m') → Q v H') : sE c Wx f σ H Q := by
  refine ⟨F, ρ, m, τ, fr.r, fr.s, ?_⟩
  unfold exS at p
  cases e : f τ m with
  | bad =>
    rw [e] at p
    exact p
  | exc x m' =>
    rw [e] at p
    exact Fr.ex (D := D) fr p
  | ok w m1 =>
    rw [e] at p
    exact fun v F1 ρ1 H1 r1 g1 q => h w m1 v F1 ρ1 H1 (fr.go r1 g1) q p
theorem useR {f : Fe} {k : W → Sto → Res Out} {Q : VK} {D : Ends} (fr : Fr c B F ρ m τ σ H) (p : Post (okS c Wx B D) (fun _ _ => False) (exS (f τ m) τ k))
    (h : ∀ w m' v F' ρ' H', Fr c B F' ρ' m' τ σ H' → RB c F' ρ' H' w v → Post (okS c Wx B D) (fun _ _ => False) (k w m') → Q v H') : sW c Wx f σ H Q := by
  refine ⟨F, ρ, m, τ, fr.r, fr.s, ?_⟩
  unfold exS at p
  cases e : f τ m with
  | bad =>
    rw [e] at p
    exact p
  | exc x m' =>
    rw [e] at p
    exact Fr.ex (D := D) fr p
  | ok w m1 =>
    rw [e] at p
    exact fun v F1 ρ1 H1 r1 g1 q => h w m1 v F1 ρ1 H1 (fr.go r1 g1) q p
theorem useT {f : Ft} {k : Bool → Sto → Res Out} {Q : Bool → Hp → Prop} {D : Ends} (fr : Fr c B F ρ m τ σ H) (p : Post (okS c Wx B D) (fun _ _ => False) (exS (f τ m) τ k))
    (h : ∀ b m' F' ρ' H', Fr c B F' ρ' m' τ σ H' → Post (okS c Wx B D) (fun _ _ => False) (k b m') → Q b H') : sT c Wx f σ H Q := by
  refine ⟨F, ρ, m, τ, fr.r, fr.s, ?_⟩
  unfold exS at p
  cases e : f τ m with
  | bad =>
    rw [e] at p
    exact p
  | exc x m' =>
    rw [e] at p
    exact Fr.ex (D := D) fr p
  | ok w m1 =>
    rw [e] at p
    exact fun F1 ρ1 H1 r1 g1 => h w m1 F1 ρ1 H1 (fr.go r1 g1) p
variable {e : Expr} {f : Fe} {pos : Pos}
def sExp (f : Fe) : Fs := fun τ m => exS (f τ m) τ fun _ m' => .ok (.nx τ) m'
def sRet (f : Fe) : Fs := fun τ m => exS (f τ m) τ fun w m' => .ok (.rt w) m'
def sRetN : Fs := fun τ m => .ok (.rt .non) m
def sIf (f : Ft) (g h : Fs) : Fs := fun τ m => exS (f τ m) τ fun b m' => if b = true then g τ m' else h τ m'
theorem x_expr (he : SE c X Wx e f) (hs : swapsWith e none pos.line X.env = pure false := by rfl) : SX c X Wx B (.Expr e pos) (sExp f) := PS.weak (ps_expr he hs) fun D σ H ⟨F, ρ, m, τ, fr, p⟩ =>
  useE fr p fun w m' v F' ρ' H' fr' _ q => q σ F' ρ' H' fr'
theorem x_ret (he : SE c X Wx e f) : SX c X Wx B (.Return (some e) pos) (sRet f) := PS.weak (ps_ret he) fun D σ H ⟨F, ρ, m, τ, fr, p⟩ =>
  useE fr p fun w m' v F' ρ' H' fr' r q => q v F' ρ' H' fr'.r fr'.g r
theorem x_retN : SX c X Wx B (.Return none pos) sRetN := PS.weak ps_retN fun D σ H ⟨F, ρ, m, τ, fr, p⟩ => p _ F ρ H fr.r fr.g rfl
theorem x_if {t : Expr} {ft : Ft} {a b : List Stmt} {g h : Fs} (ht : ST c X Wx t ft) (ha : SXs c X Wx B a g) (hb : SXs c X Wx B b h) : SX c X Wx B (.If t a b pos) (sIf ft g h) := PS.weak (ps_if ht ha hb) fun D σ H ⟨F, ρ, m, τ, fr, p⟩ =>
  useT fr p fun k m' F' ρ' H' fr' q => by
    cases k with
    | true =>
      rw [if_pos rfl] at q ⊢
      exact ⟨F', ρ', m', τ, fr', q⟩
    | false =>
      rw [if_neg Bool.false_ne_true] at q ⊢
      exact ⟨F', ρ', m', τ, fr', q⟩

/-! ### stores of names -/
theorem get_set {α : Type} {l : List α} {i j : Nat} {x y : α} (h : (l.set i x)[j]? = some y) : (i = j ∧ x = y) ∨ (i ≠ j ∧ l[j]? = some y) := by
  by_cases e : i = j
  · subst e
    rw [List.getElem?_set_self'] at h
    cases q : l[i]? with
    | none =>
      rw [q] at h
      cases h
    | some z =>
      rw [q] at h
      exact .inl ⟨rfl, Option.some.inj h⟩
  · rw [List.getElem?_set_ne e] at h
    exact .inr ⟨e, h⟩
theorem set_get {α : Type} {l : List α} {i : Nat} {x : α} (h : i < l.length) : (l.set i x)[i]? = some x := by simp [h]
theorem RS.setv {i : Nat} {w : W} {v : V} (s : RS c F ρ τ σ H) (hw : RW c F ρ w v) : RS c F ρ (τ.set i (.val w)) (σ.set i (some v)) H := by
  refine ⟨by rw [List.length_set, List.length_set, s.len], fun j u h => ?_, fun j o h => ?_, fun j k o o' a n h1 h2 h3 h4 => ?_⟩
  · rcases get_set h with ⟨rfl, e⟩ | ⟨ne, h⟩
    · cases e
      have hl : i < (τ.set i (Sl.val w)).length := (List.getElem?_eq_some_iff.mp h).1
      rw [List.length_set, s.len] at hl
      exact ⟨v, set_get hl, hw⟩
    · obtain ⟨v', q, r⟩ := s.val j u h
      exact ⟨v', by rw [List.getElem?_set_ne ne]; exact q, r⟩
  · rcases get_set h with ⟨rfl, e⟩ | ⟨ne, h⟩
    · cases e
    · obtain ⟨a, u, q, r⟩ := s.own j o h
      exact ⟨a, u, by rw [List.getElem?_set_ne ne]; exact q, r⟩
  · rcases get_set h1 with ⟨_, e⟩ | ⟨n1, h1⟩
    · cases e
    · rcases get_set h2 with ⟨_, e⟩ | ⟨n2, h2⟩
      · cases e
      · rw [List.getElem?_set_ne n1] at h3
        rw [List.getElem?_set_ne n2] at h4
        exact s.nd j k o o' a n h1 h2 h3 h4
theorem RS.seto {i : Nat} {o : MO} {a : Addr} {u : HO} (s : RS c F ρ τ σ H) (h1 : F a = none) (h2 : a ∉ ρ) (h3 : H a = some u) (h4 : OR c F ρ a o u)
    (h5 : ∀ (j : Nat) (o' : MO), j ≠ i → τ[j]? = some (.own o') → σ[j]? ≠ some (some (V.ref a))) : RS c F ρ (τ.set i (.own o)) (σ.set i (some (.ref a))) H := by
  refine ⟨by rw [List.length_set, List.length_set, s.len], fun j u h => ?_, fun j o h => ?_, fun j k o1 o2 b n q1 q2 q3 q4 => ?_⟩
  · rcases get_set h with ⟨rfl, e⟩ | ⟨ne, h⟩
    · cases e
    · obtain ⟨v', q, r⟩ := s.val j u h
      exact ⟨v', by rw [List.getElem?_set_ne ne]; exact q, r⟩
  · rcases get_set h with ⟨rfl, e⟩ | ⟨ne, h⟩
    · cases e
      have hl : i < (τ.set i (Sl.own o)).length := (List.getElem?_eq_some_iff.mp h).1
      rw [List.length_set, s.len] at hl
      exact ⟨a, u, set_get hl, h1, h2, h3, h4⟩
    · obtain ⟨a, u, q, r⟩ := s.own j o h
      exact ⟨a, u, by rw [List.getElem?_set_ne ne]; exact q, r⟩
  · rcases get_set q1 with ⟨e1, _⟩ | ⟨n1, q1⟩
    · subst e1
      rcases get_set q2 with ⟨e2, _⟩ | ⟨n2, q2⟩
      · exact n e2
      · rw [List.getElem?_set_ne n2] at q4
        have hl : i < (σ.set i (some (V.ref a))).length := (List.getElem?_eq_some_iff.mp q3).1
        rw [List.length_set] at hl
        rw [set_get hl] at q3
        cases q3
        exact h5 k o2 (Ne.symm n) q2 q4
    · rw [List.getElem?_set_ne n1] at q3
      rcases get_set q2 with ⟨e2, _⟩ | ⟨n2, q2⟩
      · subst e2
        have hl : i < (σ.set i (some (V.ref a))).length := (List.getElem?_eq_some_iff.mp q4).1
        rw [List.length_set] at hl
        rw [set_get hl] at q4
        cases q4
        exact h5 j o1 n q1 q3
      · rw [List.getElem?_set_ne n2] at q4
        exact s.nd j k o1 o2 b n q1 q2 q3 q4
theorem Fr.setv {i : Nat} {w : W} {v : V} (x : Fr c B F ρ m τ σ H) (hw : RW c F ρ w v) : Fr c B F ρ m (τ.set i (.val w)) (σ.set i (some v)) H := by
  refine ⟨x.r, x.s.setv hw, x.g, fun j o a h1 h2 => ?_, fun o a e h1 => ?_⟩
  · rcases get_set h1 with ⟨_, e⟩ | ⟨ne, h1⟩
    · cases e
    · rw [List.getElem?_set_ne ne] at h2
      exact x.fresh j o a h1 h2
  · rcases get_set h1 with ⟨_, e⟩ | ⟨ne, h1⟩
    · cases e
    · rw [List.getElem?_set_ne ne]
      exact x.slf o a e h1
def sSet (i : Nat) (f : Fe) : Fs := fun τ m => exS (f τ m) τ fun w m' => .ok (.nx (τ.set i (.val w))) m'
theorem x_set {i : Nat} {x : Str} {pos' : Pos} (hN : X.N.Nodup) (hi : X.N[i]? = some x) (hx : Loc X.env.scope x) (he : SE c X Wx e f) (hs : swapsWith e (some (.Name x pos')) pos.line X.env = pure false := by rfl)
    (hf : X.fn x = true ∨ X.env.scope.names.lookup x = some .local := by first | exact .inl rfl | exact .inr rfl | assumption) : SX c X Wx B (.Assign [.Name x pos'] e pos) (sSet i f) := PS.weak (ps_set hN hi hx he hs hf) fun D σ H ⟨F, ρ, m, τ, fr, p⟩ =>
  useE fr p fun w m' v F' ρ' H' fr' r q => q _ F' ρ' H' (fr'.setv r)
end
end Sm

/-! S4: argument lists, displays, loops, calls, defs. -/
namespace Sm
open PySem PySem.Spec PyProof.Rows L2

/-- what a body may lean on -/
structure Ctx (X : Cx) (Wx : WX) (k : Nat) : Prop where
  calm : X.calm = true
  tk : Takes X Wx
  po : PassesOwn (model X.prog X.w) X.A X.env X.xe
  hr : Room k X.A
  nd : X.N.Nodup

/-! ### argument lists, displays -/
def aNil : Fas := fun _ m => .ok [] m
def aCons (f : Fe) (g : Fas) : Fas := fun τ => bnd (f τ) fun w => bnd (g τ) fun ws m => .ok (w :: ws) m
section
variable {c : Cn} {X : Cx} {Wx : WX} {e : Expr} {es : List Expr} {f : Fe} {g : Fas} {pos : Pos}
theorem a_nil : SA c X Wx [] aNil := PA.weak pa_nil fun σ H Q ⟨F, ρ, m, τ, r, s, p⟩ => p [] F ρ H r .refl rfl
theorem w_acons {σ : L2.St} {H : Hp} {Q : List V → Hp → Prop} (h : sA c Wx (aCons f g) σ H Q) : tCons (sE c Wx f) (sA c Wx g) σ H Q := by
  obtain ⟨F, ρ, m, τ, r, s, p⟩ := h
  refine ⟨F, ρ, m, τ, r, s, ?_⟩
  unfold aCons bnd at p
  cases e : f τ m with
  | bad =>
    rw [e] at p
    exact p
  | exc x m' =>
    rw [e] at p
    exact p
  | ok w m1 =>
    rw [e] at p
    dsimp only at p
    intro v F1 ρ1 H1 r1 g1 q1
    refine ⟨F1, ρ1, m1, τ, r1, s.go g1, ?_⟩
    cases e2 : g τ m1 with
    | bad =>
      rw [e2] at p
      exact p
    | exc x m' =>
      rw [e2] at p
      exact OkX.back r1 g1 p
    | ok ws m2 =>
      rw [e2] at p
      exact fun vs F2 ρ2 H2 r2 g2 q2 => p (v :: vs) F2 ρ2 H2 r2 (g1.trans g2) (.cons (q1.mono g2.ff g2.pre) q2)
theorem a_cons (he : SE c X Wx e f) (hs : SA c X Wx es g) (hst : starEach (e :: es) X.env = (false, eval e X.env) :: starEach es X.env := by rfl) : SA c X Wx (e :: es) (aCons f g) := PA.weak (pa_cons he hs hst) fun _ _ _ h => w_acons h
def eTup (g : Fas) : Fe := fun τ => bnd (g τ) fun ws m => if ws.length ≤ sizeLine then .ok (.tup ws) m else .bad
def eLst (g : Fas) : Fe := fun τ => bnd (g τ) fun ws m => if ws.length ≤ sizeLine then .ok (.lst ws) m else .bad
theorem w_disp {mk : List W → W} {σ : L2.St} {H : Hp} {Q : VK} {Q2 : List V → Hp → Prop} (h : sE c Wx (fun τ => bnd (g τ) fun ws m => if ws.length ≤ sizeLine then .ok (mk ws) m else .bad) σ H Q)
    (hk : ∀ ws m F' ρ' H' vs, R c F' ρ' m H' → RWs c F' ρ' ws vs → ws.length ≤ sizeLine → OkE c F' ρ' H' Q (mk ws) m → Q2 vs H') : sA c Wx g σ H Q2 := by
  obtain ⟨F, ρ, m, τ, r, s, p⟩ := h
  refine ⟨F, ρ, m, τ, r, s, ?_⟩
  unfold bnd at p
  dsimp only at p
  cases e : g τ m with
  | bad =>
    rw [e] at p
    exact p
  | exc x m' =>
    rw [e] at p
    exact p
  | ok ws m1 =>
    rw [e] at p
    dsimp only at p
    intro vs F1 ρ1 H1 r1 g1 q1
    split at p
    · exact hk ws m1 F1 ρ1 H1 vs r1 q1 (by assumption) (OkE.back g1 p)
    · exact p.elim
theorem s_tup {x1} (h : SA c X Wx es g) : SE c X Wx (.Tuple es x1 pos) (eTup g) := PE.weak (pe_tup h) fun σ H Q p => w_disp p fun ws m F' ρ' H' vs r q hl k => ⟨by rw [q.length]; exact hl, fun a n => k.newT r q a n⟩
theorem s_lst (h : SA c X Wx es g) : SE c X Wx (.List es pos) (eLst g) := PE.weak (pe_lst h) fun σ H Q p => w_disp p fun ws m F' ρ' H' vs r q hl k => ⟨by rw [q.length]; exact hl, fun a n => k.newL r q a n⟩
end

/-! ### an own list -/
section
variable {c : Cn} {X : Cx} {Wx : WX} {B : Bs} {F F' : Hp} {ρ ρ' : List Addr} {m m' : Sto} {τ : SS} {σ : L2.St} {H H' : Hp} {e : Expr} {es : List Expr} {f : Fe} {g : Fas} {pos : Pos}
theorem useA {k : List W → Sto → Res Out} {Q : List V → Hp → Prop} {D : Ends} (fr : Fr c B F ρ m τ σ H) (p : Post (okS c Wx B D) (fun _ _ => False) (exS (g τ m) τ k))
    (h : ∀ w m' v F' ρ' H', Fr c B F' ρ' m' τ σ H' → RWs c F' ρ' w v → Post (okS c Wx B D) (fun _ _ => False) (k w m') → Q v H') : sA c Wx g σ H Q := by
  refine ⟨F, ρ, m, τ, fr.r, fr.s, ?_⟩
  unfold exS at p
  cases e : g τ m with
  | bad =>
    rw [e] at p
    exact p
  | exc x m' =>
    rw [e] at p
    exact Fr.ex (D := D) fr p
  | ok w m1 =>
    rw [e] at p
    exact fun v F1 ρ1 H1 r1 g1 q => h w m1 v F1 ρ1 H1 (fr.go r1 g1) q p
/-- a new own object at a free place -/
theorem Fr.seto {i : Nat} {o : MO} {a : Addr} {u : HO} (x : Fr c B F ρ m τ σ H) (i0 : i ≠ 0) (n : H a = none) (q : OR c F ρ a o u) : Fr c B F ρ m (τ.set i (.own o)) (σ.set i (some (.ref a))) (upd H a u) := by
  obtain ⟨r1, g1⟩ := x.r.newH n u
  have y := x.go r1 g1
  have nb : B.H a = none := by
    cases e : B.H a with
    | none => rfl
    | some z =>
      have hn : a ∉ B.ρ := fun w => by
        obtain ⟨j, hj⟩ := List.getElem?_of_mem w
        exact x.r.live a (List.mem_of_getElem? (x.g.pre j a hj)) n
      rw [x.g.keep a z e hn] at n
      cases n
  refine ⟨r1, y.s.seto (x.r.fnone n) (x.r.notin n) upd_same q fun j o' ne h1 h2 => ?_, y.g, fun j o' b h1 h2 => ?_, fun o' b e h1 => ?_⟩
  · obtain ⟨b, h, e1, _, _, e2, _⟩ := x.s.own j o' h1
    rw [h2] at e1
    cases e1
    rw [n] at e2
    cases e2
  · rcases get_set h1 with ⟨e1, _⟩ | ⟨ne, h1⟩
    · subst e1
      have hl : i < (σ.set i (some (V.ref a))).length := (List.getElem?_eq_some_iff.mp h2).1
      rw [List.length_set] at hl
      rw [set_get hl] at h2
      cases h2
      exact nb
    · rw [List.getElem?_set_ne ne] at h2
      exact x.fresh j o' b h1 h2
  · rcases get_set h1 with ⟨e1, _⟩ | ⟨ne, h1⟩
    · exact absurd e1 i0
    · rw [List.getElem?_set_ne ne]
      exact x.slf o' b e h1
/-- x = [..], a list that x alone holds -/
def sSetL (i : Nat) (g : Fas) : Fs := fun τ m => exS (g τ m) τ fun ws m' => if ws.length ≤ sizeLine then .ok (.nx (τ.set i (.own (.lst ws)))) m' else .bad
theorem x_setL {i : Nat} {x : Str} {pos' pos2 : Pos} (hN : X.N.Nodup) (hi : X.N[i]? = some x) (hx : Loc X.env.scope x) (h : SA c X Wx es g) (i0 : i ≠ 0 := by decide) (hs : swapsWith (.List es pos2) (some (.Name x pos')) pos.line X.env = pure false := by rfl)
    (hf : X.fn x = true ∨ X.env.scope.names.lookup x = some .local := by first | exact .inl rfl | exact .inr rfl | assumption) : SX c X Wx B (.Assign [.Name x pos'] (.List es pos2) pos) (sSetL i g) :=
  PS.weak (ps_set hN hi hx (pe_lst h) hs hf) fun D σ H ⟨F, ρ, m, τ, fr, p⟩ => useA fr p fun ws m' vs F' ρ' H' fr' r q => by
    split at q
    · rename_i hl
      refine ⟨by rw [r.length]; exact hl, fun a n => ?_⟩
      exact q _ _ _ _ (fr'.seto i0 n ⟨vs, rfl, r⟩)
    · exact q.elim
/-- an own object changes -/
theorem Fr.upd_own {i : Nat} {o o' : MO} {a : Addr} {u : HO} (x : Fr c B F ρ m τ σ H) (h : τ[i]? = some (.own o)) (hs : σ[i]? = some (some (V.ref a))) (q : OR c F ρ a o' u) : Fr c B F ρ m (τ.set i (.own o')) σ (upd H a u) := by
  obtain ⟨b, h0, e1, e2, e3, e4, e5⟩ := x.s.own i o h
  rw [hs] at e1
  cases e1
  have nb := x.fresh i o a h hs
  have lenτ : i < τ.length := (List.getElem?_eq_some_iff.mp h).1
  refine ⟨⟨fun b z e => ?_, x.r.len, x.r.nd, x.r.off, fun j b oo h1 h2 => ?_⟩, ⟨by rw [List.length_set]; exact x.s.len, fun j w h1 => ?_, fun j oo h1 => ?_, fun j k o1 o2 b n h1 h2 h3 h4 => ?_⟩, ⟨x.g.ff, x.g.pre, fun b z e hn => ?_, fun b z e hn => x.g.off b z e hn⟩, fun j oo b h1 h2 => ?_, fun oo b e h1 => ?_⟩
  · rw [upd_ne (fun z => by rw [z, e2] at e; cases e)]
    exact x.r.sub b z e
  · obtain ⟨ho, h5, h6⟩ := x.r.at_ j b oo h1 h2
    exact ⟨ho, by rw [upd_ne (fun z => e3 (by rw [← z]; exact List.mem_of_getElem? h1))]; exact h5, h6⟩
  · rcases get_set h1 with ⟨_, e⟩ | ⟨ne, h1⟩
    · cases e
    · exact x.s.val j w h1
  · rcases get_set h1 with ⟨e, e'⟩ | ⟨ne, h1⟩
    · subst e
      cases e'
      exact ⟨a, u, hs, e2, e3, upd_same, q⟩
    · obtain ⟨b, hb, k1, k2, k3, k4, k5⟩ := x.s.own j oo h1
      exact ⟨b, hb, k1, k2, k3, by rw [upd_ne (fun z => by subst z; exact x.s.nd i j o oo b ne h h1 hs k1)]; exact k4, k5⟩
  · have old : ∀ {k : Nat} {oo : MO}, (τ.set i (.own o'))[k]? = some (.own oo) → ∃ o2, τ[k]? = some (.own o2) := fun {k oo} hk => by
      rcases get_set hk with ⟨e, _⟩ | ⟨ne, hk⟩
      · subst e
        exact ⟨o, h⟩
      · exact ⟨oo, hk⟩
    obtain ⟨p1, g1⟩ := old h1
    obtain ⟨p2, g2⟩ := old h2
    exact x.s.nd j k p1 p2 b n g1 g2 h3 h4
  · rw [upd_ne (fun z => by rw [z, nb] at e; cases e)]
    exact x.g.keep b z e hn
  · rcases get_set h1 with ⟨e, _⟩ | ⟨ne, h1⟩
    · subst e
      rw [hs] at h2
      cases h2
      exact nb
    · exact x.fresh j oo b h1 h2
  · rcases get_set h1 with ⟨e1, _⟩ | ⟨ne, h1⟩
    · subst e1
      exact x.slf o b e h
    · exact x.slf oo b e h1
/-- a dict is locked otherwise -/
def frzb : MO → Bool
  | .dK _ _ => false
  | .dT _ _ => false
  | _ => true
/-- from now on it does not change -/
theorem Fr.freeze {i : Nat} {o : MO} (x : Fr c B F ρ m τ σ H) (hz : frzb o = true) (h : τ[i]? = some (.own o)) : ∃ F', Fr c B F' ρ m (τ.set i (.val (toW o))) σ H := by
  obtain ⟨a, u, e1, e2, e3, e4, e5⟩ := x.s.own i o h
  have fs : Same F (upd F a u) := upd_new e2
  have nb := x.fresh i o a h e1
  have lenτ : i < τ.length := (List.getElem?_eq_some_iff.mp h).1
  refine ⟨upd F a u, ⟨fun b z e => ?_, x.r.len, x.r.nd, fun b hb => ?_, fun j b oo h1 h2 => ?_⟩, ⟨by rw [List.length_set]; exact x.s.len, fun j w h1 => ?_, fun j oo h1 => ?_, fun j k o1 o2 b n h1 h2 h3 h4 => ?_⟩, ⟨x.g.ff.trans fs, x.g.pre, x.g.keep, fun b z e hn => ⟨(x.g.off b z e hn).1, fun w => ?_⟩⟩, fun j oo b h1 h2 => ?_, fun oo b e h1 => ?_⟩
  · by_cases hb : b = a
    · subst hb
      rw [upd_same] at e
      cases e
      exact e4
    · rw [upd_ne hb] at e
      exact x.r.sub b z e
  · rw [upd_ne (fun z => e3 (by rw [← z]; exact hb))]
    exact x.r.off b hb
  · obtain ⟨ho, h5, h6⟩ := x.r.at_ j b oo h1 h2
    exact ⟨ho, h5, h6.mono fs (.refl _)⟩
  · rcases get_set h1 with ⟨e, e'⟩ | ⟨ne, h1⟩
    · subst e
      cases e'
      refine ⟨_, e1, ?_⟩
      cases o with
      | lst xs =>
        obtain ⟨vs, rfl, t⟩ := e5
        show RW c _ ρ (.lst xs) _
        unfold RW
        exact ⟨a, vs, rfl, .inl upd_same, t.mono fs (.refl _)⟩
      | ins C ns vs =>
        obtain ⟨dx, gs, rfl, n, t⟩ := e5
        show RW c _ ρ (.obj C ns vs) _
        unfold RW
        exact ⟨a, dx, gs, rfl, upd_same, n, t.mono fs (.refl _)⟩
      | tin C ns vs kids =>
        obtain ⟨dx, gs, t, rr, rfl, n, z, l, y, k⟩ := e5
        show RW c _ ρ (.tree C ns vs kids) _
        unfold RW
        exact ⟨a, dx, gs, t, rr, rfl, upd_same, n, z.mono fs (.refl _), l, sqT_mono fs y, NRs.mono fs (.refl _) _ _ k⟩
      | dK _ _ => cases hz
      | dT _ _ => cases hz
    · obtain ⟨v, q1, q2⟩ := x.s.val j w h1
      exact ⟨v, q1, q2.mono fs (.refl _)⟩
  · rcases get_set h1 with ⟨_, e⟩ | ⟨ne, h1⟩
    · cases e
    · obtain ⟨b, hb, k1, k2, k3, k4, k5⟩ := x.s.own j oo h1
      exact ⟨b, hb, k1, by rw [upd_ne (fun z => by subst z; exact x.s.nd i j o oo b ne h h1 e1 k1)]; exact k2, k3, k4, k5.mono fs (.refl _)⟩
  · rcases get_set h1 with ⟨_, e⟩ | ⟨n1, h1⟩
    · cases e
    · rcases get_set h2 with ⟨_, e⟩ | ⟨n2, h2⟩
      · cases e
      · exact x.s.nd j k o1 o2 b n h1 h2 h3 h4
  · rw [upd_ne (fun q => by rw [q, nb] at e; cases e)]
    exact (x.g.off b z e hn).2 w
  · rcases get_set h1 with ⟨_, e⟩ | ⟨ne, h1⟩
    · cases e
    · exact x.fresh j oo b h1 h2
  · rcases get_set h1 with ⟨_, e'⟩ | ⟨ne, h1⟩
    · cases e'
    · exact x.slf oo b e h1
def sFrz (i : Nat) (f : Fs) : Fs := fun τ m => match τ[i]? with
  | some (.own o) => if frzb o then f (τ.set i (.val (toW o))) m else .bad
  | _ => f τ m
theorem w_frz {i : Nat} {f : Fs} {D : Ends} (h : sS c Wx B (sFrz i f) D σ H) : sS c Wx B f D σ H := by
  obtain ⟨F, ρ, m, τ, fr, p⟩ := h
  unfold sFrz at p
  split at p
  · rename_i o e
    split at p
    · rename_i hz
      obtain ⟨F', fr'⟩ := fr.freeze hz e
      exact ⟨F', ρ, m, _, fr', p⟩
    · exact p.elim
  · exact ⟨F, ρ, m, τ, fr, p⟩
theorem x_frz {i : Nat} {st : Stmt} {f : Fs} (h : SX c X Wx B st f) : SX c X Wx B st (sFrz i f) := PS.weak h fun _ _ _ q => w_frz q
theorem x_frzs {i : Nat} {st : List Stmt} {f : Fs} (h : SXs c X Wx B st f) : SXs c X Wx B st (sFrz i f) := PSs.weak h fun _ _ _ q => w_frz q
end
end Sm

/-! S5: loops, targets, calls, defs. -/
namespace Sm
open PySem PySem.Spec PyProof.Rows L2

/-! ### what a loop walks -/
structure Wk (c : Cn) (J : It) (ws : List W) (F : Hp) (ρ : List Addr) : Prop where
  go : ∀ (i : Nat) F2 ρ2 m2 H2, Same F F2 → Pre ρ ρ2 → R c F2 ρ2 m2 H2 → i < ws.length → J.go i H2
  stop : ∀ F2 ρ2 m2 H2, Same F F2 → Pre ρ ρ2 → R c F2 ρ2 m2 H2 → J.stop ws.length H2
  yld : ∀ (i : Nat) F2 ρ2 m2 H2 x H3, Same F F2 → Pre ρ ρ2 → R c F2 ρ2 m2 H2 → i < ws.length → J.yld i H2 x H3 → ∃ F3 w, R c F3 ρ2 m2 H3 ∧ Go F2 ρ2 H2 F3 ρ2 H3 ∧ ws[i]? = some w ∧ RW c F3 ρ2 w x
section
variable (c : Cn) (Wx : WX)
def OkI (F : Hp) (ρ : List Addr) (H : Hp) (Rr : It → Hp → Prop) (ws : List W) (m' : Sto) : Prop := ∀ J F' ρ' H', R c F' ρ' m' H' → Go F ρ H F' ρ' H' → Wk c J ws F' ρ' → Rr J H'
def sI (f : Fas) : TI := fun σ H Rr => ∃ F ρ m τ, R c F ρ m H ∧ RS c F ρ τ σ H ∧ Post (OkI c F ρ H Rr) (OkX c F ρ H fun k d H' => Wx k d σ H') (f τ m)
end
abbrev SI (c : Cn) (X : Cx) (Wx : WX) (tg iter : Expr) (f : Fas) : Prop := PI X tg iter (sI c Wx f)
section
variable {cl : Str → Addr} {X : Cx} {Wx : WX}
theorem wk_list {F : Hp} {ρ : List Addr} {a : Addr} {ws : List W} {vs : List V} (h : Rd F a (.lst vs)) (t : RWs ⟨X.K, cl⟩ F ρ ws vs) : Wk ⟨X.K, cl⟩ (Itl X.K a) ws F ρ := by
  have hl := t.length
  refine ⟨fun i F2 ρ2 m2 H2 s p r hi => ⟨vs, vs[i]'(by omega), .inl (rd_mono (s.trans r.sub) h), by simp⟩, fun F2 ρ2 m2 H2 s p r => ⟨vs, .inl (rd_mono (s.trans r.sub) h), by omega⟩, fun i F2 ρ2 m2 H2 x H3 s p r hi y => ?_⟩
  obtain ⟨rfl, y⟩ := y
  obtain ⟨v, e1, e2⟩ := t.get (i := i) (w := ws[i]) (by simp)
  have e3 := y vs (.inl (rd_mono (s.trans r.sub) h))
  rw [e1] at e3
  cases e3
  exact ⟨F2, ws[i], r, .refl, by simp, e2.mono s p⟩
theorem wk_tup {F : Hp} {ρ : List Addr} {a : Addr} {ws : List W} {vs : List V} (h : SqT X.K F a vs) (t : RWs ⟨X.K, cl⟩ F ρ ws vs) : Wk ⟨X.K, cl⟩ (Itt X.K a) ws F ρ := by
  have hl := t.length
  refine ⟨fun i F2 ρ2 m2 H2 s p r hi => ⟨vs, vs[i]'(by omega), sqT_mono (s.trans r.sub) h, by simp⟩, fun F2 ρ2 m2 H2 s p r => ⟨vs, sqT_mono (s.trans r.sub) h, by omega⟩, fun i F2 ρ2 m2 H2 x H3 s p r hi y => ?_⟩
  obtain ⟨rfl, y⟩ := y
  obtain ⟨v, e1, e2⟩ := t.get (i := i) (w := ws[i]) (by simp)
  have e3 := y vs (sqT_mono (s.trans r.sub) h)
  rw [e1] at e3
  cases e3
  exact ⟨F2, ws[i], r, .refl, by simp, e2.mono s p⟩
def chW (x : Str) : List W := x.cps.toList.map fun c => .str ⟨#[c]⟩
theorem wk_str {F : Hp} {ρ : List Addr} {x : Str} {c : Cn} : Wk c (Its x) (chW x) F ρ := by
  have hl : (chW x).length = x.cps.size := by simp [chW]
  refine ⟨fun i F2 ρ2 m2 H2 s p r hi => ?_, fun F2 ρ2 m2 H2 s p r => ?_, fun i F2 ρ2 m2 H2 y H3 s p r hi q => ?_⟩
  · show i < x.cps.size
    omega
  · show x.cps.size ≤ (chW x).length
    omega
  · obtain ⟨rfl, c, e, rfl⟩ := q
    refine ⟨F2, .str ⟨#[c]⟩, r, .refl, ?_, rfl⟩
    simp [chW, e]
def itW : W → Option (List W)
  | .tup xs => some xs
  | .lst xs => some xs
  | .str x => some (chW x)
  | _ => none
def iSeq (f : Fe) : Fas := fun τ => bnd (f τ) fun w m => match itW w with
  | some ws => .ok ws m
  | none => .bad
/-- for .. in a list, a tuple, a text -/
theorem i_seq {tg e : Expr} {f : Fe} (he : SE ⟨X.K, cl⟩ X Wx e f) : SI ⟨X.K, cl⟩ X Wx tg e (iSeq f) := by
  refine ⟨fun pins s σ H Rr I h => ?_⟩
  obtain ⟨F, ρ, m, τ, r, hs, p⟩ := h
  unfold iSeq bnd at p
  cases e1 : f τ m with
  | bad =>
    rw [e1] at p
    exact p.elim
  | exc x m' =>
    rw [e1] at p
    exact (pi_list he).run pins s σ H Rr I ⟨F, ρ, m, τ, r, hs, by rw [e1]; exact p⟩
  | ok w m1 =>
    rw [e1] at p
    dsimp only at p
    cases w with
    | lst ws =>
      refine (pi_list he).run pins s σ H Rr I ⟨F, ρ, m, τ, r, hs, ?_⟩
      rw [e1]
      intro v F1 ρ1 H1 r1 g1 q1
      unfold RW at q1
      obtain ⟨a, vs, rfl, h1, t⟩ := q1
      exact ⟨a, rfl, ⟨vs, .inl (rd_mono r1.sub h1)⟩, p _ F1 ρ1 H1 r1 g1 (wk_list h1 t)⟩
    | tup ws =>
      refine (pi_tup he).run pins s σ H Rr I ⟨F, ρ, m, τ, r, hs, ?_⟩
      rw [e1]
      intro v F1 ρ1 H1 r1 g1 q1
      unfold RW at q1
      obtain ⟨a, vs, rfl, h1, t⟩ := q1
      exact ⟨a, rfl, ⟨vs, sqT_mono r1.sub h1⟩, p _ F1 ρ1 H1 r1 g1 (wk_tup h1 t)⟩
    | str x =>
      refine (pi_str he).run pins s σ H Rr I ⟨F, ρ, m, τ, r, hs, ?_⟩
      rw [e1]
      intro v F1 ρ1 H1 r1 g1 q1
      exact ⟨x, q1, p _ F1 ρ1 H1 r1 g1 wk_str⟩
    | _ => exact p.elim
theorem wk_rng {c : Cn} {F : Hp} {ρ : List Addr} {lo : Int} {n : Nat} : Wk c (Itr lo n) ((List.range n).map fun i : Nat => .int (lo + i)) F ρ := by
  have hl : ((List.range n).map fun i : Nat => W.int (lo + i)).length = n := by simp
  refine ⟨fun i F2 ρ2 m2 H2 s p r hi => ?_, fun F2 ρ2 m2 H2 s p r => ?_, fun i F2 ρ2 m2 H2 y H3 s p r hi q => ?_⟩
  · show i < n
    omega
  · show n ≤ _
    omega
  · obtain ⟨rfl, rfl⟩ := q
    rw [hl] at hi
    exact ⟨F2, .int (lo + i), r, .refl, by simp [hi], rfl⟩
def rng1 : List W → Option (List W)
  | [.int j] => if j.natAbs < 4611686018427387904 then some ((List.range j.toNat).map fun i : Nat => .int i) else none
  | _ => none
def rng2 : List W → Option (List W)
  | [.int i, .int j] => if i.natAbs < 4611686018427387904 ∧ j.natAbs < 4611686018427387904 then some ((List.range (j - i).toNat).map fun k : Nat => .int (i + k)) else none
  | _ => none
def iRng (rg : List W → Option (List W)) (g : Fas) : Fas := fun τ => bnd (g τ) fun ws m => match rg ws with
  | some l => .ok l m
  | none => .bad
theorem RWs.ints {c : Cn} {F : Hp} {ρ : List Addr} {j : Int} {vs : List V} (h : RWs c F ρ [.int j] vs) : vs = [.int j] := by
  obtain ⟨v, r, rfl, h1, h2⟩ := h.inv
  have e : r = [] := h2
  have e' : v = .int j := h1
  rw [e, e']
theorem RWs.ints2 {c : Cn} {F : Hp} {ρ : List Addr} {i j : Int} {vs : List V} (h : RWs c F ρ [.int i, .int j] vs) : vs = [.int i, .int j] := by
  obtain ⟨v, r, rfl, h1, h2⟩ := h.inv
  have e' : v = .int i := h1
  rw [h2.ints, e']
theorem i_range1 {c : Cn} {tg a : Expr} {g : Fas} {p pos : Pos} (ha : SA c X Wx [a] g) (hm : X.mg "range" = none) (hg : Gl X "range" := by rfl) (hs : starEach [a] X.env = [(false, eval a X.env)] := by rfl) : SI c X Wx tg (.Call (.Name "range" p) [a] [] pos) (iRng rng1 g) := by
  refine ⟨fun pins s σ H Rr I h => (pi_range1 hg hm ha hs).run pins s σ H Rr I ?_⟩
  obtain ⟨F, ρ, m, τ, r, hs, p⟩ := h
  refine ⟨F, ρ, m, τ, r, hs, ?_⟩
  unfold iRng bnd at p
  cases e : g τ m with
  | bad =>
    rw [e] at p
    exact p
  | exc x m' =>
    rw [e] at p
    exact p
  | ok ws m1 =>
    rw [e] at p
    dsimp only at p
    intro vs F1 ρ1 H1 r1 g1 q1
    cases e2 : rng1 ws with
    | none =>
      rw [e2] at p
      exact p.elim
    | some l =>
      rw [e2] at p
      unfold rng1 at e2
      split at e2
      · split at e2
        · rename_i j hb
          cases e2
          have hw : Wk c (Itr 0 j.toNat) ((List.range j.toNat).map fun i : Nat => W.int i) F1 ρ1 := by
            have := wk_rng (c := c) (F := F1) (ρ := ρ1) (lo := 0) (n := j.toNat)
            simpa only [Int.zero_add] using this
          exact ⟨j, q1.ints, by omega, by omega, p _ F1 ρ1 H1 r1 g1 hw⟩
        · cases e2
      · cases e2
theorem i_range2 {c : Cn} {tg a b : Expr} {g : Fas} {p pos : Pos} (ha : SA c X Wx [a, b] g) (hm : X.mg "range" = none) (hg : Gl X "range" := by rfl) (hs : starEach [a, b] X.env = [(false, eval a X.env), (false, eval b X.env)] := by rfl) (hs2 : starEach [b] X.env = [(false, eval b X.env)] := by rfl) : SI c X Wx tg (.Call (.Name "range" p) [a, b] [] pos) (iRng rng2 g) := by
  refine ⟨fun pins s σ H Rr I h => (pi_range2 hg hm ha hs hs2).run pins s σ H Rr I ?_⟩
  obtain ⟨F, ρ, m, τ, r, hs, p⟩ := h
  refine ⟨F, ρ, m, τ, r, hs, ?_⟩
  unfold iRng bnd at p
  cases e : g τ m with
  | bad =>
    rw [e] at p
    exact p
  | exc x m' =>
    rw [e] at p
    exact p
  | ok ws m1 =>
    rw [e] at p
    dsimp only at p
    intro vs F1 ρ1 H1 r1 g1 q1
    cases e2 : rng2 ws with
    | none =>
      rw [e2] at p
      exact p.elim
    | some l =>
      rw [e2] at p
      unfold rng2 at e2
      split at e2
      · split at e2
        · rename_i i j hb
          cases e2
          exact ⟨i, j, q1.ints2, ⟨by omega, by omega, by omega, by omega⟩, p _ F1 ρ1 H1 r1 g1 wk_rng⟩
        · cases e2
      · cases e2
end

/-! ### targets -/
abbrev Bd := W → SS → Option SS
/-- what a store to names leaves: own objects stay at their places, slots but those of `is` are as they were -/
def Sta (is : List Nat) (τ τ' : SS) (σ σ' : L2.St) : Prop := (∀ (j : Nat) (o : MO), τ'[j]? = some (.own o) → τ[j]? = some (.own o) ∧ σ'[j]? = σ[j]?) ∧ (∀ j : Nat, j ∉ is → σ'[j]? = σ[j]?) ∧ σ'.length = σ.length
theorem Sta.refl {τ : SS} {σ : L2.St} : Sta [] τ τ σ σ := ⟨fun _ _ h => ⟨h, rfl⟩, fun _ _ => rfl, rfl⟩
theorem Sta.trans {i1 i2 : List Nat} {τ τ1 τ2 : SS} {σ σ1 σ2 : L2.St} (a : Sta i1 τ τ1 σ σ1) (b : Sta i2 τ1 τ2 σ1 σ2) : Sta (i1 ++ i2) τ τ2 σ σ2 := by
  refine ⟨fun j o h => ?_, fun j h => ?_, b.2.2.trans a.2.2⟩
  · obtain ⟨h3, h4⟩ := b.1 j o h
    obtain ⟨h5, h6⟩ := a.1 j o h3
    exact ⟨h5, h4.trans h6⟩
  · rw [List.mem_append, not_or] at h
    exact (b.2.1 j h.2).trans (a.2.1 j h.1)
def sG (c : Cn) (is : List Nat) (bd : Bd) : TG := fun v σ H Q => ∃ F ρ m τ w τ', R c F ρ m H ∧ RS c F ρ τ σ H ∧ RW c F ρ w v ∧ bd w τ = some τ' ∧ ∀ σ', RS c F ρ τ' σ' H → Sta is τ τ' σ σ' → Q σ' H
abbrev SG (c : Cn) (X : Cx) (tg : Expr) (is : List Nat) (bd : Bd) : Prop := PG X tg (sG c is bd)
theorem PG.weak {X : Cx} {e : Expr} {t t' : TG} (h : PG X e t') (w : ∀ v σ H Q, t v σ H Q → t' v σ H Q) : PG X e t := ⟨fun pins s σ H v u Q I r q => h.run pins s σ H v u Q I r (w _ _ _ _ q)⟩
theorem PGs.weak {X : Cx} {e : List Expr} {t t' : TGs} (h : PGs X e t') (w : ∀ v σ H Q, t v σ H Q → t' v σ H Q) : PGs X e t := ⟨fun pins s σ H v u Q I r q => h.run pins s σ H v u Q I r (w _ _ _ _ q)⟩
def bName (i : Nat) : Bd := fun w τ => some (τ.set i (.val w))
def bAll : List Bd → List W → SS → Option SS
  | [], [], τ => some τ
  | b :: bs, w :: ws, τ => (b w τ).bind fun τ' => bAll bs ws τ'
  | _, _, _ => none
def bTup (bs : List Bd) : Bd := fun w τ => match w with
  | .tup ws => bAll bs ws τ
  | .lst ws => bAll bs ws τ
  | _ => none
def sGs (c : Cn) (is : List Nat) (bs : List Bd) : TGs := fun vs σ H Q => ∃ F ρ m τ ws τ', R c F ρ m H ∧ RS c F ρ τ σ H ∧ RWs c F ρ ws vs ∧ bAll bs ws τ = some τ' ∧ ∀ σ', RS c F ρ τ' σ' H → Sta is τ τ' σ σ' → Q σ' H
abbrev SGs (c : Cn) (X : Cx) (tg : List Expr) (is : List Nat) (bs : List Bd) : Prop := PGs X tg (sGs c is bs)
section
variable {c : Cn} {X : Cx} {pos : Pos}
theorem g_name {i : Nat} {x : Str} (hN : X.N.Nodup) (hi : X.N[i]? = some x) (hx : Loc X.env.scope x) (hf : X.fn x = true ∨ X.env.scope.names.lookup x = some .local := by first | exact .inl rfl | exact .inr rfl | assumption) : SG c X (.Name x pos) [i] (bName i) :=
  PG.weak (pg_name hN hi hx hf) fun v σ H Q ⟨F, ρ, m, τ, w, τ', r, s, q, e, k⟩ => by
    cases e
    refine k _ (s.setv q) ⟨fun j o h => ?_, fun j h => ?_, by rw [List.length_set]⟩
    · rcases get_set h with ⟨_, e⟩ | ⟨ne, h⟩
      · cases e
      · exact ⟨h, by rw [List.getElem?_set_ne ne]⟩
    · rw [List.getElem?_set_ne (fun z => h (by rw [z]; simp))]
theorem gs_nil : SGs c X [] [] [] := PGs.weak pgs_nil fun vs σ H Q ⟨F, ρ, m, τ, ws, τ', r, s, q, e, k⟩ => by
  cases ws with
  | nil =>
    cases e
    exact ⟨q, k σ s .refl⟩
  | cons _ _ => cases e
theorem gs_cons {e : Expr} {es : List Expr} {i1 i2 : List Nat} {b : Bd} {bs : List Bd} (h1 : SG c X e i1 b) (h2 : SGs c X es i2 bs) (hs : (assignEach (e :: es) X.env).map (·.2) = assign e X.env :: (assignEach es X.env).map (·.2) := by rfl) : SGs c X (e :: es) (i1 ++ i2) (b :: bs) :=
  PGs.weak (pgs_cons h1 h2 hs) fun vs σ H Q ⟨F, ρ, m, τ, ws, τ', r, s, q, e, k⟩ => by
    cases ws with
    | nil => cases e
    | cons w ws =>
      obtain ⟨v, vr, rfl, q1, q2⟩ := q.inv
      have e1 : (b w τ).bind (fun t => bAll bs ws t) = some τ' := e
      obtain ⟨τ1, e2, e3⟩ := Option.bind_eq_some_iff.mp e1
      refine ⟨v, vr, rfl, F, ρ, m, τ, w, τ1, r, s, q1, e2, fun σ1 s1 k1 => ?_⟩
      exact ⟨F, ρ, m, τ1, ws, τ', r, s1, q2, e3, fun σ2 s2 k2 => k σ2 s2 (k1.trans k2)⟩
end
theorem bAll_len : ∀ {bs : List Bd} {ws : List W} {τ τ' : SS}, bAll bs ws τ = some τ' → ws.length = bs.length
  | [], [], _, _, _ => rfl
  | [], _ :: _, _, _, h => by cases h
  | _ :: _, [], _, _, h => by cases h
  | b :: bs, w :: ws, τ, τ', h => by
    have e1 : (b w τ).bind (fun t => bAll bs ws t) = some τ' := h
    obtain ⟨τ1, e2, e3⟩ := Option.bind_eq_some_iff.mp e1
    rw [List.length_cons, List.length_cons, bAll_len e3]
section
variable {cl : Str → Addr} {X : Cx} {pos : Pos}
theorem g_tup {es : List Expr} {k : Nat} {is : List Nat} {bs : List Bd} {n : Nat} (hc : X.calm = true) (h : SGs ⟨X.K, cl⟩ X es is bs) (hb : bs.length = n := by rfl) (hn : (assignEach es X.env).length = n := by rfl) (hst : (assignEach es X.env).findIdx? (·.1) = none := by rfl) : SG ⟨X.K, cl⟩ X (.Tuple es k pos) is (bTup bs) := by
  refine ⟨fun pins s σ H v u Q I r hw => ?_⟩
  obtain ⟨F, ρ, m, τ, w, τ', r0, s0, q, e, k⟩ := hw
  cases w with
  | tup ws =>
    unfold RW at q
    obtain ⟨a, vs, rfl, h1, t⟩ := q
    have hl := t.length
    have hl2 := bAll_len (show bAll bs ws τ = some τ' from e)
    exact (pg_tup hc h hn hst).run pins s σ H _ u Q I r ⟨a, vs, rfl, sqT_mono r0.sub h1, by omega, F, ρ, m, τ, ws, τ', r0, s0, t, e, k⟩
  | lst ws =>
    unfold RW at q
    obtain ⟨a, vs, rfl, h1, t⟩ := q
    have hl := t.length
    have hl2 := bAll_len (show bAll bs ws τ = some τ' from e)
    exact (pg_lst hc h hn hst).run pins s σ H _ u Q I r ⟨a, vs, rfl, .inl (rd_mono r0.sub h1), by omega, F, ρ, m, τ, ws, τ', r0, s0, t, e, k⟩
  | _ => cases e
end
end Sm

/-! S6: for, while, calls, defs. -/
namespace Sm
open PySem PySem.Spec PyProof.Rows L2

/-! ### for -/
def forW (bd : Bd) (g : Fs) : List W → Fs
  | [] => sNil
  | x :: r => fun τ m => match bd x τ with
    | none => .bad
    | some τ1 => match g τ1 m with
      | .ok (.nx τ2) m2 => forW bd g r τ2 m2
      | .ok (.ct τ2) m2 => forW bd g r τ2 m2
      | .ok (.bk τ2) m2 => .ok (.nx τ2) m2
      | q => q
def sFor (fi : Fas) (bd : Bd) (g : Fs) : Fs := fun τ m => exS (fi τ m) τ fun ws m' => forW bd g ws τ m'
section
variable {c : Cn} {X : Cx} {Wx : WX} {B : Bs} {F F' : Hp} {ρ ρ' : List Addr} {m m' : Sto} {τ : SS} {σ : L2.St} {H H' : Hp} {pos : Pos}
theorem useI {g : Fas} {k : List W → Sto → Res Out} {Q : It → Hp → Prop} {D : Ends} (fr : Fr c B F ρ m τ σ H) (p : Post (okS c Wx B D) (fun _ _ => False) (exS (g τ m) τ k))
    (h : ∀ ws m' J F' ρ' H', Fr c B F' ρ' m' τ σ H' → Wk c J ws F' ρ' → Post (okS c Wx B D) (fun _ _ => False) (k ws m') → Q J H') : sI c Wx g σ H Q := by
  refine ⟨F, ρ, m, τ, fr.r, fr.s, ?_⟩
  unfold exS at p
  cases e : g τ m with
  | bad =>
    rw [e] at p
    exact p
  | exc x m' =>
    rw [e] at p
    exact Fr.ex (D := D) fr p
  | ok w m1 =>
    rw [e] at p
    exact fun J F1 ρ1 H1 r1 g1 q => h w m1 J F1 ρ1 H1 (fr.go r1 g1) q p
theorem Fr.mid (x : Fr c B F ρ m τ σ H) : Fr c ⟨F, ρ, B.H, B.self⟩ F ρ m τ σ H := by
  refine ⟨x.r, x.s, ⟨Same.refl _, .refl _, fun a o h n => x.g.keep a o h fun z => ?_, fun a o h n => ⟨n, fun z => z⟩⟩, x.fresh, x.slf⟩
  obtain ⟨i, hi⟩ := List.getElem?_of_mem z
  exact n (List.mem_of_getElem? (x.g.pre i a hi))
theorem Go.up {F2 : Hp} {ρ2 : List Addr} {H2 : Hp} (x : Go B.F B.ρ B.H F ρ H) (y : Go F ρ B.H F2 ρ2 H2) : Go B.F B.ρ B.H F2 ρ2 H2 :=
  ⟨x.ff.trans y.ff, x.pre.trans y.pre, fun a o h n => y.keep a o h (x.off a o h n).1, fun a o h n => ⟨(y.off a o h (x.off a o h n).1).1, fun z => (y.off a o h (x.off a o h n).1).2 ((x.off a o h n).2 z)⟩⟩
theorem Fr.up {F2 : Hp} {ρ2 : List Addr} {m2 : Sto} {τ2 : SS} {σ2 : L2.St} {H2 : Hp} (x : Go B.F B.ρ B.H F ρ H) (y : Fr c ⟨F, ρ, B.H, B.self⟩ F2 ρ2 m2 τ2 σ2 H2) : Fr c B F2 ρ2 m2 τ2 σ2 H2 := ⟨y.r, y.s, Go.up x y.g, y.fresh, y.slf⟩
theorem drop_cons {ws : List W} {i : Nat} (h : i < ws.length) : ws.drop i = ws[i] :: ws.drop (i + 1) := by rw [List.drop_eq_getElem_cons h]
theorem x_for {k : Nat} {tg iter : Expr} {body : List Stmt} {fi : Fas} {is : List Nat} {bd : Bd} {g : Fs} (x : Ctx X Wx k) (hi : SI c X Wx tg iter fi) (hg : SG c X tg is bd) (hb : ∀ B, SXs c X Wx B body g) (hs : ∀ x, foldedSetIterable iter X.env x = pure x := by intro _; rfl) :
    SX c X Wx B (.For tg iter body [] pos) (sFor fi bd g) := by
  have hbE : PSs X body (fun D σ H => ∃ B', sS c Wx B' g D σ H) := ⟨fun pins s σ H D I ⟨B', q⟩ => (hb B').run pins s σ H D I q⟩
  refine PS.weak (ps_for x.po x.calm hi hg hbE hs) fun D σ H ⟨F, ρ, m, τ, fr, p⟩ => useI fr p fun ws m0 J F0 ρ0 H0 fr0 wk q => ?_
  refine ⟨fun i n σ' H' => n = ws.length - i ∧ i ≤ ws.length ∧ ∃ F1 ρ1 m1 τ1, Fr c B F1 ρ1 m1 τ1 σ' H' ∧ Same F0 F1 ∧ Pre ρ0 ρ1 ∧ Post (okS c Wx B D) (fun _ _ => False) (forW bd g (ws.drop i) τ1 m1), ⟨ws.length, by simp, Nat.zero_le _, F0, ρ0, m0, τ, fr0, Same.refl _, .refl _, by simpa using q⟩, ?_⟩
  rintro i n σ1 H1 ⟨rfl, hi, F1, ρ1, m1, τ1, fr1, s1, p1, q1⟩
  by_cases hlt : i < ws.length
  · refine .inr ⟨wk.go i F1 ρ1 m1 H1 s1 p1 fr1.r hlt, fun σ' H' => ∃ F2 ρ2 m2 τ2, Fr c B F2 ρ2 m2 τ2 σ' H' ∧ Same F0 F2 ∧ Pre ρ0 ρ2 ∧ Post (okS c Wx B D) (fun _ _ => False) (forW bd g (ws.drop (i + 1)) τ2 m2), fun σ' H' h => ⟨ws.length - (i + 1), by omega, rfl, hlt, h⟩, fun v H2 y => ?_⟩
    obtain ⟨F2, w, r2, g2, ew, rw2⟩ := wk.yld i F1 ρ1 m1 H1 v H2 s1 p1 fr1.r hlt y
    have fr2 := fr1.go r2 g2
    have ew' : ws[i] = w := by
      rw [List.getElem?_eq_getElem hlt] at ew
      exact Option.some.inj ew
    rw [drop_cons hlt, ew'] at q1
    unfold forW at q1
    cases eb : bd w τ1 with
    | none =>
      rw [eb] at q1
      exact q1.elim
    | some τ2 =>
      rw [eb] at q1
      dsimp only at q1
      refine ⟨F2, ρ1, m1, τ1, w, τ2, r2, fr2.s, rw2, eb, fun σ2 s2 k2 => ?_⟩
      have fr3 : Fr c B F2 ρ1 m1 τ2 σ2 H2 := ⟨r2, s2, fr2.g, fun j o a h1 h2 => by
        obtain ⟨h3, h4⟩ := k2.1 j o h1
        rw [h4] at h2
        exact fr2.fresh j o a h3 h2, fun o a e h1 => by
        obtain ⟨h3, h4⟩ := k2.1 0 o h1
        rw [h4]
        exact fr2.slf o a e h3⟩
      refine ⟨⟨F2, ρ1, B.H, B.self⟩, F2, ρ1, m1, τ2, fr3.mid, ?_⟩
      have hF : Same F0 F2 := s1.trans g2.ff
      cases e3 : g τ2 m1 with
      | bad =>
        rw [e3] at q1
        exact q1
      | exc z m' =>
        rw [e3] at q1
        exact q1
      | ok o m3 =>
        rw [e3] at q1
        cases o with
        | nx τ3 => exact fun σ' F' ρ' H' f => ⟨F', ρ', m3, τ3, Fr.up fr3.g f, hF.trans f.g.ff, p1.trans f.g.pre, q1⟩
        | ct τ3 => exact fun σ' F' ρ' H' f => ⟨F', ρ', m3, τ3, Fr.up fr3.g f, hF.trans f.g.ff, p1.trans f.g.pre, q1⟩
        | bk τ3 => exact fun σ' F' ρ' H' f => q1 σ' F' ρ' H' (Fr.up fr3.g f)
        | rt w => exact fun v F' ρ' H' r g q => q1 v F' ρ' H' r (Go.up fr3.g g) q
        | ex z τ3 => exact fun k d σ' F' ρ' H' f q => q1 k d σ' F' ρ' H' (Fr.up fr3.g f) q
  · have e : i = ws.length := by omega
    subst e
    refine .inl ⟨wk.stop F1 ρ1 m1 H1 s1 p1 fr1.r, ?_⟩
    rw [List.drop_length] at q1
    exact q1 σ1 F1 ρ1 H1 fr1

/-! ### while -/
def whW (ft : Ft) (g : Fs) : Nat → Fs
  | 0 => fun _ _ => .bad
  | n + 1 => fun τ m => exS (ft τ m) τ fun b m1 => if b = true then
      (match g τ m1 with
      | .ok (.nx τ2) m2 => whW ft g n τ2 m2
      | .ok (.ct τ2) m2 => whW ft g n τ2 m2
      | .ok (.bk τ2) m2 => .ok (.nx τ2) m2
      | q => q) else .ok (.nx τ) m1
theorem x_while {k n : Nat} {t : Expr} {body : List Stmt} {ft : Ft} {g : Fs} (x : Ctx X Wx k) (ht : ST c X Wx t ft) (hb : SXs c X Wx B body g) : SX c X Wx B (.While t body [] pos) (whW ft g n) := by
  refine PS.weak (ps_while x.po ht hb) fun D σ H ⟨F, ρ, m, τ, fr, p⟩ => ?_
  refine ⟨fun n σ' H' => ∃ F1 ρ1 m1 τ1, Fr c B F1 ρ1 m1 τ1 σ' H' ∧ Post (okS c Wx B D) (fun _ _ => False) (whW ft g n τ1 m1), ⟨n, F, ρ, m, τ, fr, p⟩, ?_⟩
  rintro n σ1 H1 ⟨F1, ρ1, m1, τ1, fr1, q1⟩
  cases n with
  | zero => exact q1.elim
  | succ n =>
    unfold whW at q1
    refine useT fr1 q1 fun b m2 F2 ρ2 H2 fr2 q2 => ?_
    cases b with
    | false =>
      rw [if_neg Bool.false_ne_true] at q2 ⊢
      exact q2 _ _ _ _ fr2
    | true =>
      rw [if_pos rfl] at q2 ⊢
      refine ⟨fun σ' H' => ∃ F1 ρ1 m1 τ1, Fr c B F1 ρ1 m1 τ1 σ' H' ∧ Post (okS c Wx B D) (fun _ _ => False) (whW ft g n τ1 m1), fun σ' H' h => ⟨n, Nat.lt_succ_self _, h⟩, F2, ρ2, m2, τ1, fr2, ?_⟩
      cases e3 : g τ1 m2 with
      | bad =>
        rw [e3] at q2
        exact q2
      | exc z m' =>
        rw [e3] at q2
        exact q2
      | ok o m3 =>
        rw [e3] at q2
        cases o with
        | nx τ3 => exact fun σ' F' ρ' H' f => ⟨F', ρ', m3, τ3, f, q2⟩
        | ct τ3 => exact fun σ' F' ρ' H' f => ⟨F', ρ', m3, τ3, f, q2⟩
        | bk τ3 => exact q2
        | rt w => exact q2
        | ex z τ3 => exact q2
end

/-! ### defs and calls -/
def spF (c : Cn) (n : Nat) (γ : List W → M W) : Sp := fun vs H Q E => vs.length = n ∧ ∃ F ρ m ws, R c F ρ m H ∧ RWs c F ρ ws vs ∧ Post (OkE c F ρ H Q) (OkX c F ρ H E) (γ ws m)
/-- a body as a function -/
def runB (n : Nat) (g : Fs) (ws : List W) : M W := fun m => match g (ws.map .val ++ List.replicate (n - ws.length) .un) m with
  | .ok (.nx _) m' => .ok .non m'
  | .ok (.rt w) m' => .ok w m'
  | .ok (.ex x _) m' => .exc x m'
  | _ => .bad
theorem start_RS {c : Cn} {F : Hp} {ρ : List Addr} {H : Hp} {N : List Str} {ws : List W} {vs : List V} (h : RWs c F ρ ws vs) : RS c F ρ (ws.map .val ++ List.replicate (N.length - ws.length) .un) (L2.start N vs) H := by
  have hl := h.length
  have no : ∀ (i : Nat) (o : MO), (ws.map Sl.val ++ List.replicate (N.length - ws.length) Sl.un)[i]? ≠ some (.own o) := fun i o e => by
    by_cases hi : i < ws.length
    · rw [List.getElem?_append_left (by simpa using hi), List.getElem?_map] at e
      cases q : ws[i]? with
      | none =>
        rw [q] at e
        cases e
      | some w =>
        rw [q] at e
        cases e
    · rw [List.getElem?_append_right (by simpa using hi), List.getElem?_replicate] at e
      split at e <;> cases e
  refine ⟨by unfold L2.start; simp [hl], fun i w e => ?_, fun i o e => absurd e (no i o), fun i j o o' a _ e => absurd e (no i o)⟩
  by_cases hi : i < ws.length
  · rw [List.getElem?_append_left (by simpa using hi), List.getElem?_map] at e
    cases q : ws[i]? with
    | none =>
      rw [q] at e
      cases e
    | some w' =>
      rw [q] at e
      cases e
      obtain ⟨v, h1, h2⟩ := h.get q
      refine ⟨v, ?_, h2⟩
      unfold L2.start
      rw [List.getElem?_append_left (by simp; omega), List.getElem?_map, h1]
      rfl
  · rw [List.getElem?_append_right (by simpa using hi), List.getElem?_replicate] at e
    split at e <;> cases e

section
variable {P : Program} {w : World} {K : PySem.W.Frag} {mg : Str → Option Value} {base : Heap} {cl : Str → Addr}
/-- a def by its body -/
theorem fn_ok {x qual : Str} {params : Arguments} {body : List Stmt} {scope : Scope} {dvs : List V} {kws : List (Str × V)} {f : Addr} {fd : FuncData} {N ps : List Str} {k : Nat} {g : Fs} (Fd : FunD K x qual params body scope dvs kws f fd) (S : FnScope N ps scope)
    (hb : ∀ (cdv : Value) (A : Around) (outer : List Env) (s : Shared) (H : Hp) (E : XK) (B : Bs), Ctx (cxOf (CX P w) P w K mg base N qual scope f cdv A outer s H E) (fun cls d _ H => E cls d H) k → SXs ⟨K, cl⟩ (cxOf (CX P w) P w K mg base N qual scope f cdv A outer s H E) (fun cls d _ H => E cls d H) B body g) :
    FnOk P w K mg base (CX P w) (k + 1) f fd ps (spF ⟨K, cl⟩ ps.length (runB N.length g)) := by
  obtain ⟨⟨oc, od, dV, kV, doc, pm, an, cdv, ct, osl, rfl, lk, hcd, _, _⟩, _⟩ := Fd
  refine fn_of lk hcd S (fun vs H Q E h => h.1) fun A outer s H vs Q E hr hsp => ?_
  obtain ⟨hl, F, ρ, m, ws, r, q, p⟩ := hsp
  have tk : Takes (cxOf (CX P w) P w K mg base N qual scope f cdv A outer s H E) (fun cls d _ H => E cls d H) := takes_of rfl rfl rfl rfl
  refine ⟨sS ⟨K, cl⟩ (fun cls d _ H => E cls d H) ⟨F, ρ, H, none⟩ g, hb cdv A outer s H E _ ⟨rfl, tk, passes_of rfl, hr, S.nd⟩, ?_⟩
  refine ⟨F, ρ, m, _, ⟨r, start_RS q, .refl, fun i o a h1 => ?_, fun _ _ e => nomatch e⟩, ?_⟩
  · exact absurd h1 (fun e => by
      by_cases hi : i < ws.length
      · rw [List.getElem?_append_left (by simpa using hi), List.getElem?_map] at e
        cases q : ws[i]? with
        | none =>
          rw [q] at e
          cases e
        | some w =>
          rw [q] at e
          cases e
      · rw [List.getElem?_append_right (by simpa using hi), List.getElem?_replicate] at e
        split at e <;> cases e)
  · unfold runB at p
    cases e : g (ws.map .val ++ List.replicate (N.length - ws.length) .un) m with
    | bad =>
      rw [e] at p
      exact p
    | exc x m' =>
      rw [e] at p
      exact p.elim
    | ok o m' =>
      rw [e] at p
      cases o with
      | nx τ => exact fun σ' F' ρ' H' fr => p _ F' ρ' H' fr.r fr.g rfl
      | rt v => exact p
      | ex z τ => exact fun k d σ' F' ρ' H' fr q => p k d F' ρ' H' fr.r fr.g q
      | bk τ => exact p.elim
      | ct τ => exact p.elim
end
end Sm

/-! S7: calls of defs, the table of all defs. -/
namespace Sm
open PySem PySem.Spec PyProof.Rows L2

abbrev Gm := Str → List W → M W
/-- the def that the module's name x holds is worth γ; n parameters, the last ones by default dws -/
structure Cal (P : Program) (w : World) (K : PySem.W.Frag) (mg : Str → Option Value) (base : Heap) (cl : Str → Addr) (k : Nat) (x : Str) (n : Nat) (dws : List W) (γ : List W → M W) : Prop where
  ex : ∃ f fd ps ds dvs, FnOk P w K mg base (CX P w) k f fd ps (spF ⟨K, cl⟩ ps.length γ) ∧ ps.length = n ∧ mg x = some (.ref f) ∧ PySem.W.keepIn K (.ref f) = true ∧ Binds K fd ps ds ∧ Vals dvs ds ∧ ∀ F ρ, RWs ⟨K, cl⟩ F ρ dws dvs
def eCall (n : Nat) (γ : List W → M W) (dws : List W) (g : Fas) : Fe := fun τ => bnd (g τ) fun ws m => if (ws ++ dws).length = n then γ (ws ++ dws) m else .bad

section
variable {X : Cx} {Wx : WX} {cl : Str → Addr} {k : Nat} {x : Str} {n : Nat} {dws : List W} {γ : List W → M W} {e : Expr} {es : List Expr} {g : Fas} {p pos : Pos}
/-- the callee runs, its exceptions are taken with the slots as they stand -/
theorem run_fnS {k : Nat} {f : Addr} {fd : FuncData} {ps : List Str} {sp : Sp} {ds : List Value} {dvs : List V} {pins : List (Addr × Obj)} {σ : L2.St} {H : Hp} {s : Shared} {Q : VK} {us : List Value} {vs : List V} (F : FnOk X.prog X.w X.K X.mg X.base (CX X.prog X.w) k f fd ps sp) (hr : Room k X.A) (hb : Binds X.K fd ps ds) (hd : Vals dvs ds) (tk : Takes X Wx)
    (I : Inv X pins σ H s) (r : Vals vs us) (h : sp (vs ++ dvs) H Q fun c d H' => Wx c d σ H') : wpAny (model X.prog X.w) X.A (call (.ref f) us) (EP X pins σ Q) X.xe s := by
  have r2 : Vals (vs ++ dvs) (us ++ ds) := r.append hd
  have hl : (us ++ ds).length = ps.length := by rw [← r2.length]; exact F.len _ _ _ _ h
  refine wpAny_call (codeAny_mono (F.run X.A X.stack s H ⟨us, []⟩ (us ++ ds) (vs ++ dvs) Q _ hr I.env0 (hb s us I.kIn hl) r2 h) fun r s' hq => ?_)
  cases r with
  | error e => exact tk e s' (XE.of_call I (fun _ _ _ z => z) hq)
  | ok fl =>
    cases fl with
    | ret u => exact I.after hq
    | next => exact False.elim hq
    | brk => exact False.elim hq
    | cont => exact False.elim hq
theorem w_call {c : Cn} {σ : L2.St} {H : Hp} {Q : VK} {dvs : List V} (hd : ∀ F ρ, RWs c F ρ dws dvs) (h : sE c Wx (eCall n γ dws g) σ H Q) : sA c Wx g σ H (fun vs H1 => spF c n γ (vs ++ dvs) H1 Q fun k d H' => Wx k d σ H') := by
  obtain ⟨F, ρ, m, τ, r, s, p⟩ := h
  refine ⟨F, ρ, m, τ, r, s, ?_⟩
  unfold eCall bnd at p
  cases e : g τ m with
  | bad =>
    rw [e] at p
    exact p
  | exc x m' =>
    rw [e] at p
    exact p
  | ok ws m1 =>
    rw [e] at p
    dsimp only at p
    intro vs F1 ρ1 H1 r1 g1 q1
    split at p
    · rename_i hl
      have h2 := q1.append (hd F1 ρ1)
      refine ⟨by rw [h2.length]; exact hl, F1, ρ1, m1, ws ++ dws, r1, h2, ?_⟩
      cases e2 : γ (ws ++ dws) m1 with
      | bad =>
        rw [e2] at p
        exact p
      | exc x m' =>
        rw [e2] at p
        exact OkX.back r1 g1 p
      | ok w m2 =>
        rw [e2] at p
        exact OkE.back g1 p
    · exact p.elim
theorem s_call (C : Cal X.prog X.w X.K X.mg X.base cl k x n dws γ) (hr : Room k X.A) (tk : Takes X Wx) (ha : SA ⟨X.K, cl⟩ X Wx (e :: es) g) (hg : Gl X x := by rfl) (hdb : (x == ("__debug__" : Str)) = false := by decide)
    (he : starEach (e :: es) X.env = (false, eval e X.env) :: starEach es X.env := by rfl) (hpl : (backTo pos (starEach es X.env)).any (·.1) = false := by rfl) : SE ⟨X.K, cl⟩ X Wx (.Call (.Name x p) (e :: es) [] pos) (eCall n γ dws g) := by
  obtain ⟨f, fd, ps, ds, dvs, F, rfl, hm, hk, hb, hd, hw⟩ := C.ex
  refine ⟨fun pins s σ H Q I h => ?_⟩
  refine wpAny_Call_Name_kw (ld_glob I hg hm ?_ hdb)
  refine PySem.W.callWith_K (h₀ := X.base) I.ok.mod.kin hk (thn (ha.run pos pins s σ H _ I (w_call hw h)) fun us s1 ⟨vs, H1, I1, r, q⟩ => ⟨I1.kIn, ?_⟩) he hpl
  exact run_fnS F hr hb hd tk I1 r q
theorem s_call0 (C : Cal X.prog X.w X.K X.mg X.base cl k x n dws γ) (hr : Room k X.A) (tk : Takes X Wx) (hg : Gl X x := by rfl) (hdb : (x == ("__debug__" : Str)) = false := by decide) : SE ⟨X.K, cl⟩ X Wx (.Call (.Name x p) [] [] pos) (eCall n γ dws aNil) := by
  obtain ⟨f, fd, ps, ds, dvs, F, rfl, hm, hk, hb, hd, hw⟩ := C.ex
  refine ⟨fun pins s σ H Q I h => ?_⟩
  refine wpAny_Call_Name_kw (ld_glob I hg hm ?_ hdb)
  obtain ⟨F0, ρ, m, τ, r, hs, p⟩ := w_call hw h
  exact PySem.W.callWith_K0 I.kIn hk (run_fnS (us := []) F hr hb hd tk I .nil (p [] F0 ρ H r .refl rfl))
end

/-! ### the table -/
section
variable (P : Program) (w : World) (K : PySem.W.Frag) (mg : Str → Option Value) (base : Heap) (cl : Str → Addr)
abbrev Ent := Str × Nat × List W
def Tab (k : Nat) (L : List Ent) (Γ : Gm) : Prop := ∀ p ∈ L, Cal P w K mg base cl k p.1 p.2.1 p.2.2 (Γ p.1)
end
section
variable {P : Program} {w : World} {K : PySem.W.Frag} {mg : Str → Option Value} {base : Heap} {cl : Str → Addr}
theorem Tab.at {k : Nat} {L : List Ent} {Γ : Gm} (h : Tab P w K mg base cl k L Γ) (i : Nat) {x : Str} {n : Nat} {d : List W} (e : L[i]? = some (x, n, d) := by rfl) : Cal P w K mg base cl k x n d (Γ x) := h _ (List.mem_of_getElem? e)
/-- how a def becomes a row of the table -/
theorem cal_mk {x : Str} {k : Nat} {f : Addr} {fd : FuncData} {ps : List Str} {γ : List W → M W} {qual : Str} {params : Arguments} {body : List Stmt} {scope : Scope} {dvs0 : List V} {kws : List (Str × V)} (Fd : FunD K x qual params body scope dvs0 kws f fd) (F : FnOk P w K mg base (CX P w) k f fd ps (spF ⟨K, cl⟩ ps.length γ))
    (hm : mg x = some (.ref f)) {dws : List W} {ds : List Value} {dvs : List V} (hb : Binds K fd ps ds) (hd : Vals dvs ds) (hw : ∀ F ρ, RWs ⟨K, cl⟩ F ρ dws dvs) : Cal P w K mg base cl k x ps.length dws γ := ⟨f, fd, ps, ds, dvs, F, rfl, hm, Fd.kp, hb, hd, hw⟩
theorem fnOk_bad {k : Nat} {f : Addr} {fd : FuncData} {ps : List Str} : FnOk P w K mg base (CX P w) k f fd ps (spF ⟨K, cl⟩ ps.length fun _ => bad) := ⟨fun _ _ _ _ h => h.1, fun A outer s H args us vs Q E hr e0 hb r h => by
  obtain ⟨_, F, ρ, m, ws, _, _, p⟩ := h
  exact p.elim⟩
end
end Sm

/-! S8: new lists, comprehensions. -/
namespace Sm
open PySem PySem.Spec PyProof.Rows L2

section
variable (c : Cn) (Wx : WX)
/-- a new list, held by nobody yet -/
def OkN (F : Hp) (ρ : List Addr) (H : Hp) (Q : VK) (ws : List W) (m' : Sto) : Prop := ∀ a vs F' ρ' H', R c F' ρ' m' H' → Go F ρ H F' ρ' H' → H a = none → F' a = none → a ∉ ρ' → H' a = some (.lst vs) → RWs c F' ρ' ws vs → Q (.ref a) H'
def sN (f : Fas) : TE := fun σ H Q => ∃ F ρ m τ, R c F ρ m H ∧ RS c F ρ τ σ H ∧ Post (OkN c F ρ H Q) (OkX c F ρ H fun k d H' => Wx k d σ H') (f τ m)
end
abbrev SN (c : Cn) (X : Cx) (Wx : WX) (e : Expr) (f : Fas) : Prop := PE X e (sN c Wx f)
def eL (f : Fas) : Fe := fun τ => bnd (f τ) fun ws m => .ok (.lst ws) m
section
variable {c : Cn} {F F1 : Hp} {ρ ρ1 : List Addr} {m : Sto} {H H1 : Hp}
theorem R.frz {a : Addr} {u : HO} (r : R c F ρ m H) (h : H a = some u) (hf : F a = none) (hn : a ∉ ρ) : R c (upd F a u) ρ m H := by
  have fs : Same F (upd F a u) := upd_new hf
  refine ⟨fun b z e => ?_, r.len, r.nd, fun b hb => ?_, fun j b oo h1 h2 => ?_⟩
  · by_cases hb : b = a
    · subst hb
      rw [upd_same] at e
      cases e
      exact h
    · rw [upd_ne hb] at e
      exact r.sub b z e
  · rw [upd_ne (fun z => hn (by rw [← z]; exact hb))]
    exact r.off b hb
  · obtain ⟨ho, h5, h6⟩ := r.at_ j b oo h1 h2
    exact ⟨ho, h5, h6.mono fs (.refl _)⟩
theorem Go.frz {a : Addr} {u : HO} (g : Go F ρ H F1 ρ1 H1) (hf : F1 a = none) (h0 : H a = none) : Go F ρ H (upd F1 a u) ρ1 H1 :=
  ⟨g.ff.trans (upd_new hf), g.pre, g.keep, fun b o e n => ⟨(g.off b o e n).1, fun z => by rw [upd_ne (fun w => by rw [w, h0] at e; cases e)]; exact (g.off b o e n).2 z⟩⟩
theorem Go.back_none (g : Go F ρ H F1 ρ1 H1) {m1 : Sto} (r : R c F1 ρ1 m1 H1) {a : Addr} (n : H1 a = none) : H a = none := g.nn a n fun z => r.live1 g a z n
/-- an object that is neither frozen nor of the store changes -/
theorem R.updO {a : Addr} {u : HO} (r : R c F ρ m H) (hf : F a = none) (hn : a ∉ ρ) : R c F ρ m (upd H a u) := by
  refine ⟨fun b z e => ?_, r.len, r.nd, r.off, fun j b oo h1 h2 => ?_⟩
  · rw [upd_ne (fun w => by rw [w, hf] at e; cases e)]
    exact r.sub b z e
  · obtain ⟨ho, h5, h6⟩ := r.at_ j b oo h1 h2
    exact ⟨ho, by rw [upd_ne (fun w => hn (by rw [← w]; exact List.mem_of_getElem? h1))]; exact h5, h6⟩
theorem Go.updO {a : Addr} {u : HO} (g : Go F ρ H F1 ρ1 H1) (h0 : H a = none) : Go F ρ H F1 ρ1 (upd H1 a u) :=
  ⟨g.ff, g.pre, fun b o e n => by rw [upd_ne (fun w => by rw [w, h0] at e; cases e)]; exact g.keep b o e n, g.off⟩
end
section
variable {c : Cn} {X : Cx} {Wx : WX} {B : Bs} {e : Expr} {es : List Expr} {f g : Fas} {pos : Pos}
theorem SN.se (h : SN c X Wx e f) : SE c X Wx e (eL f) := PE.weak h fun σ H Q ⟨F, ρ, m, τ, r, s, p⟩ => ⟨F, ρ, m, τ, r, s, by
  unfold eL bnd at p
  cases e : f τ m with
  | bad =>
    rw [e] at p
    exact p
  | exc x m' =>
    rw [e] at p
    exact p
  | ok ws m1 =>
    rw [e] at p
    intro a vs F1 ρ1 H1 r1 g1 h0 hf hn ha q
    refine p _ _ _ _ (r1.frz ha hf hn) (g1.frz hf h0) ?_
    unfold RW
    exact ⟨a, vs, rfl, .inl upd_same, q.mono (upd_new hf) (.refl _)⟩⟩
def nLst (g : Fas) : Fas := fun τ => bnd (g τ) fun ws m => if ws.length ≤ sizeLine then .ok ws m else .bad
theorem OkN.fresh {F : Hp} {ρ : List Addr} {H : Hp} {F1 : Hp} {ρ1 : List Addr} {H1 : Hp} {m1 : Sto} {Q : VK} {ws : List W} {vs : List V} (k : OkN c F ρ H Q ws m1) (r1 : R c F1 ρ1 m1 H1) (g1 : Go F ρ H F1 ρ1 H1) (q : RWs c F1 ρ1 ws vs) (p : Addr) (n : H1 p = none) : Q (.ref p) (upd H1 p (.lst vs)) := by
  obtain ⟨r2, g2⟩ := r1.newH n (.lst vs)
  exact k p vs _ _ _ r2 (g1.trans g2) (g1.back_none r1 n) (r1.fnone n) (r1.notin n) upd_same q
theorem n_lst (h : SA c X Wx es g) : SN c X Wx (.List es pos) (nLst g) := PE.weak (pe_lst h) fun σ H Q ⟨F, ρ, m, τ, r, s, p⟩ => ⟨F, ρ, m, τ, r, s, by
  unfold nLst bnd at p
  cases e : g τ m with
  | bad =>
    rw [e] at p
    exact p
  | exc x m' =>
    rw [e] at p
    exact p
  | ok ws m1 =>
    rw [e] at p
    dsimp only at p
    intro vs F1 ρ1 H1 r1 g1 q1
    split at p
    · rename_i hl
      exact ⟨by rw [q1.length]; exact hl, fun a n => OkN.fresh p r1 g1 q1 a n⟩
    · exact p.elim⟩
theorem useN {F : Hp} {ρ : List Addr} {m : Sto} {τ : SS} {σ : L2.St} {H : Hp} {k : List W → Sto → Res Out} {Q : VK} {D : Ends} (fr : Fr c B F ρ m τ σ H) (p : Post (okS c Wx B D) (fun _ _ => False) (exS (f τ m) τ k))
    (h : ∀ ws m' a vs F' ρ' H', Fr c B F' ρ' m' τ σ H' → H a = none → F' a = none → a ∉ ρ' → H' a = some (.lst vs) → RWs c F' ρ' ws vs → Post (okS c Wx B D) (fun _ _ => False) (k ws m') → Q (.ref a) H') : sN c Wx f σ H Q := by
  refine ⟨F, ρ, m, τ, fr.r, fr.s, ?_⟩
  unfold exS at p
  cases e : f τ m with
  | bad =>
    rw [e] at p
    exact p
  | exc x m' =>
    rw [e] at p
    exact Fr.ex (D := D) fr p
  | ok w m1 =>
    rw [e] at p
    exact fun a vs F1 ρ1 H1 r1 g1 h0 hf hn ha q => h w m1 a vs F1 ρ1 H1 (fr.go r1 g1) h0 hf hn ha q p
theorem Fr.bnone {F : Hp} {ρ : List Addr} {m : Sto} {τ : SS} {σ : L2.St} {H : Hp} (x : Fr c B F ρ m τ σ H) {a : Addr} (n : H a = none) : B.H a = none := x.g.back_none x.r n
/-- an object that nobody holds yet is now held by slot i -/
theorem Fr.take {F F' : Hp} {ρ ρ' : List Addr} {m m' : Sto} {τ : SS} {σ : L2.St} {H H' : Hp} {i : Nat} {o : MO} {a : Addr} {u : HO} (x0 : Fr c B F ρ m τ σ H) (x : Fr c B F' ρ' m' τ σ H') (i0 : i ≠ 0) (h0 : H a = none) (hf : F' a = none) (hn : a ∉ ρ') (ha : H' a = some u) (q : OR c F' ρ' a o u) :
    Fr c B F' ρ' m' (τ.set i (.own o)) (σ.set i (some (.ref a))) H' := by
  refine ⟨x.r, x.s.seto hf hn ha q fun j o' ne h1 h2 => ?_, x.g, fun j o' b h1 h2 => ?_, fun o' b e h1 => ?_⟩
  · obtain ⟨b, h, e1, _, _, e2, _⟩ := x0.s.own j o' h1
    rw [h2] at e1
    cases e1
    rw [h0] at e2
    cases e2
  · rcases get_set h1 with ⟨e1, _⟩ | ⟨ne, h1⟩
    · subst e1
      have hl : i < (σ.set i (some (V.ref a))).length := (List.getElem?_eq_some_iff.mp h2).1
      rw [List.length_set] at hl
      rw [set_get hl] at h2
      cases h2
      exact x0.bnone h0
    · rw [List.getElem?_set_ne ne] at h2
      exact x.fresh j o' b h1 h2
  · rcases get_set h1 with ⟨e1, _⟩ | ⟨ne, h1⟩
    · exact absurd e1 i0
    · rw [List.getElem?_set_ne ne]
      exact x.slf o' b e h1
def sSetN (i : Nat) (f : Fas) : Fs := fun τ m => exS (f τ m) τ fun ws m' => .ok (.nx (τ.set i (.own (.lst ws)))) m'
theorem x_setN {i : Nat} {x : Str} {pos' : Pos} (hN : X.N.Nodup) (hi : X.N[i]? = some x) (hx : Loc X.env.scope x) (h : SN c X Wx e f) (i0 : i ≠ 0 := by decide) (hs : swapsWith e (some (.Name x pos')) pos.line X.env = pure false := by rfl)
    (hf : X.fn x = true ∨ X.env.scope.names.lookup x = some .local := by first | exact .inl rfl | exact .inr rfl | assumption) : SX c X Wx B (.Assign [.Name x pos'] e pos) (sSetN i f) :=
  PS.weak (ps_set hN hi hx h hs hf) fun D σ H ⟨F, ρ, m, τ, fr, p⟩ => useN fr p fun ws m' a vs F' ρ' H' fr' h0 hf hn ha r q => q _ _ _ _ (fr.take fr' i0 h0 hf hn ha ⟨vs, rfl, r⟩)

/-! ### comprehensions -/
abbrev W0 : WX := fun _ _ _ _ => False
def wipeS (τ : SS) : List Nat → SS
  | [] => τ
  | v :: vs => (wipeS τ vs).set v .un
theorem RS.setu {F : Hp} {ρ : List Addr} {τ : SS} {σ : L2.St} {H : Hp} {i : Nat} (s : RS c F ρ τ σ H) : RS c F ρ (τ.set i .un) (σ.set i none) H := by
  refine ⟨by rw [List.length_set, List.length_set, s.len], fun j u h => ?_, fun j o h => ?_, fun j k o o' a n h1 h2 h3 h4 => ?_⟩
  · rcases get_set h with ⟨_, e⟩ | ⟨ne, h⟩
    · cases e
    · obtain ⟨v', q, r⟩ := s.val j u h
      exact ⟨v', by rw [List.getElem?_set_ne ne]; exact q, r⟩
  · rcases get_set h with ⟨_, e⟩ | ⟨ne, h⟩
    · cases e
    · obtain ⟨a, u, q, r⟩ := s.own j o h
      exact ⟨a, u, by rw [List.getElem?_set_ne ne]; exact q, r⟩
  · rcases get_set h1 with ⟨_, e⟩ | ⟨n1, h1⟩
    · cases e
    · rcases get_set h2 with ⟨_, e⟩ | ⟨n2, h2⟩
      · cases e
      · rw [List.getElem?_set_ne n1] at h3
        rw [List.getElem?_set_ne n2] at h4
        exact s.nd j k o o' a n h1 h2 h3 h4
theorem RS.wipe {F : Hp} {ρ : List Addr} {τ : SS} {σ : L2.St} {H : Hp} (s : RS c F ρ τ σ H) : ∀ vs : List Nat, RS c F ρ (wipeS τ vs) (L2.wipe σ vs) H
  | [] => s
  | v :: vs => (RS.wipe s vs).setu
theorem wipe_get {σ : L2.St} {j : Nat} : ∀ {vs : List Nat}, j ∉ vs → (L2.wipe σ vs)[j]? = σ[j]?
  | [], _ => rfl
  | v :: vs, h => by
    rw [List.mem_cons, not_or] at h
    unfold L2.wipe
    rw [List.getElem?_set_ne (Ne.symm h.1), wipe_get h.2]
theorem wipe_in {σ : L2.St} {j : Nat} : ∀ {vs : List Nat}, j ∈ vs → j < σ.length → (L2.wipe σ vs)[j]? = some none
  | v :: vs, h, hl => by
    unfold L2.wipe
    by_cases e : v = j
    · subst e
      exact set_get (by rw [wipe_length]; exact hl)
    · rw [List.getElem?_set_ne e]
      exact wipe_in ((List.mem_cons.mp h).resolve_left (Ne.symm e)) hl
theorem wipe_sta {is vs : List Nat} {τ τ' : SS} {σ σ2 : L2.St} (hs : ∀ i ∈ is, i ∈ vs) (k : Sta is τ τ' (L2.wipe σ vs) σ2) : L2.wipe σ2 vs = L2.wipe σ vs := by
  have hl : σ2.length = σ.length := by rw [k.2.2, wipe_length]
  apply List.ext_getElem?
  intro j
  by_cases hj : j ∈ vs
  · by_cases hb : j < σ.length
    · rw [wipe_in hj (by omega), wipe_in hj hb]
    · rw [List.getElem?_eq_none (by rw [wipe_length]; omega), List.getElem?_eq_none (by rw [wipe_length]; omega)]
  · rw [wipe_get hj, k.2.1 j fun z => hj (hs j z)]
def lcM (bd : Bd) (ft : Ft) (fe : Fe) (τ : SS) : List W → M (List W)
  | [] => ret []
  | x :: r => match bd x τ with
    | none => bad
    | some τ1 => bnd (ft τ1) fun b => if b = true then bnd (fe τ1) fun w => bnd (lcM bd ft fe τ r) fun ws => ret (w :: ws) else lcM bd ft fe τ r
def nLc (fi : Fas) (vs : List Nat) (bd : Bd) (ft : Ft) (fe : Fe) : Fas := fun τ => bnd (fi τ) fun xs m => match lcM bd ft fe (wipeS τ vs) xs m with
  | .ok ws m' => if ws.length ≤ sizeLine then .ok ws m' else .bad
  | _ => .bad
theorem lcM_cons {bd : Bd} {ft : Ft} {fe : Fe} {τ : SS} {x : W} {r : List W} {m m' : Sto} {ws : List W} (h : lcM bd ft fe τ (x :: r) m = .ok ws m') : ∃ τ1 b m1, bd x τ = some τ1 ∧ ft τ1 m = .ok b m1 ∧
    ((b = true ∧ ∃ w m2 ws', fe τ1 m1 = .ok w m2 ∧ lcM bd ft fe τ r m2 = .ok ws' m' ∧ ws = w :: ws') ∨ (b = false ∧ lcM bd ft fe τ r m1 = .ok ws m')) := by
  unfold lcM at h
  cases e1 : bd x τ with
  | none =>
    rw [e1] at h
    cases h
  | some τ1 =>
    rw [e1] at h
    dsimp only at h
    unfold bnd at h
    cases e2 : ft τ1 m with
    | bad =>
      rw [e2] at h
      cases h
    | exc _ _ =>
      rw [e2] at h
      cases h
    | ok b m1 =>
      rw [e2] at h
      dsimp only at h
      refine ⟨τ1, b, m1, rfl, e2, ?_⟩
      cases b with
      | false => exact .inr ⟨rfl, h⟩
      | true =>
        rw [if_pos rfl] at h
        cases e3 : fe τ1 m1 with
        | bad =>
          rw [e3] at h
          cases h
        | exc _ _ =>
          rw [e3] at h
          cases h
        | ok w m2 =>
          rw [e3] at h
          dsimp only at h
          cases e4 : lcM bd ft fe τ r m2 with
          | bad =>
            rw [e4] at h
            cases h
          | exc _ _ =>
            rw [e4] at h
            cases h
          | ok ws' m3 =>
            rw [e4] at h
            cases h
            exact .inl ⟨rfl, w, m2, ws', rfl, e4, rfl⟩
theorem w_lc {fi : Fas} {is vs : List Nat} {bd : Bd} {ft : Ft} {fe : Fe} {σ : L2.St} {H : Hp} {Q : VK} (hss : ∀ i ∈ is, i ∈ vs) (h : sN c Wx (nLc fi vs bd ft fe) σ H Q) : tLc (sI c Wx fi) (sG c is bd) (sT c W0 ft) (sE c W0 fe) vs σ H Q := by
  obtain ⟨F, ρ, m, τ, r, s, p⟩ := h
  refine ⟨F, ρ, m, τ, r, s, ?_⟩
  unfold nLc bnd at p
  cases e0 : fi τ m with
  | bad =>
    rw [e0] at p
    exact p
  | exc x m' =>
    rw [e0] at p
    exact p
  | ok xs m0 =>
    rw [e0] at p
    dsimp only at p
    intro J F0 ρ0 H0 r0 g0 wk D hD
    cases e1 : lcM bd ft fe (wipeS τ vs) xs m0 with
    | bad =>
      rw [e1] at p
      exact p.elim
    | exc _ _ =>
      rw [e1] at p
      exact p.elim
    | ok ws mE =>
      rw [e1] at p
      dsimp only at p
      split at p
      case isFalse => exact p.elim
      rename_i hlen
      have hD0 : H D = none := g0.back_none r0 hD
      obtain ⟨rn, gn⟩ := r0.newH hD (.lst [])
      refine ⟨fun i n H' => n = xs.length - i ∧ i ≤ xs.length ∧ ∃ F1 ρ1 m1 acc accV ws', R c F1 ρ1 m1 H' ∧ Go F ρ H F1 ρ1 H' ∧ Same F0 F1 ∧ Pre ρ0 ρ1 ∧ F1 D = none ∧ D ∉ ρ1 ∧ H' D = some (.lst accV) ∧ RWs c F1 ρ1 acc accV ∧ lcM bd ft fe (wipeS τ vs) (xs.drop i) m1 = .ok ws' mE ∧ ws = acc ++ ws',
        ⟨xs.length, by simp, Nat.zero_le _, F0, ρ0, m0, [], [], ws, rn, g0.trans gn, Same.refl _, .refl _, r0.fnone hD, r0.notin hD, upd_same, .nil, by simpa using e1, rfl⟩, ?_⟩
      rintro i n H1 ⟨rfl, hi, F1, ρ1, m1, acc, accV, ws', r1, g1, s1, p1, hf1, hn1, hd1, q1, el, ew⟩
      by_cases hlt : i < xs.length
      · refine .inr ⟨wk.go i F1 ρ1 m1 H1 s1 p1 r1 hlt, fun H' => ∃ F1 ρ1 m1 acc accV ws', R c F1 ρ1 m1 H' ∧ Go F ρ H F1 ρ1 H' ∧ Same F0 F1 ∧ Pre ρ0 ρ1 ∧ F1 D = none ∧ D ∉ ρ1 ∧ H' D = some (.lst accV) ∧ RWs c F1 ρ1 acc accV ∧ lcM bd ft fe (wipeS τ vs) (xs.drop (i + 1)) m1 = .ok ws' mE ∧ ws = acc ++ ws',
          fun H' h => ⟨xs.length - (i + 1), by omega, rfl, hlt, h⟩, fun v H2 y => ?_⟩
        obtain ⟨F2, w, r2, g2, ew2, rw2⟩ := wk.yld i F1 ρ1 m1 H1 v H2 s1 p1 r1 hlt y
        have ew' : xs[i] = w := by
          rw [List.getElem?_eq_getElem hlt] at ew2
          exact Option.some.inj ew2
        rw [drop_cons hlt, ew'] at el
        obtain ⟨τ1, b, m2, eb, et, hcase⟩ := lcM_cons el
        have g02 := g1.trans g2
        have hd2 : H2 D = some (.lst accV) := g2.keep D _ hd1 hn1
        have hf2 : F2 D = none := (g2.off D _ hd1 hn1).2 hf1
        refine ⟨F2, ρ1, m1, wipeS τ vs, w, τ1, r2, (s.go g02).wipe vs, rw2, eb, fun σ2 s2 k2 => ⟨wipe_sta hss k2, F2, ρ1, m1, τ1, r2, s2, ?_⟩⟩
        rw [et]
        intro F3 ρ3 H3 r3 g3
        have hd3 : H3 D = some (.lst accV) := g3.keep D _ hd2 hn1
        have hn3 : D ∉ ρ3 := (g3.off D _ hd2 hn1).1
        have hf3 : F3 D = none := (g3.off D _ hd2 hn1).2 hf2
        rcases hcase with ⟨rfl, w2, m3, ws2, ee, er, rfl⟩ | ⟨rfl, er⟩
        · rw [if_pos rfl]
          refine ⟨F3, ρ3, m2, τ1, r3, s2.go g3, ?_⟩
          rw [ee]
          intro v2 F4 ρ4 H4 r4 g4 q4
          have hd4 : H4 D = some (.lst accV) := g4.keep D _ hd3 hn3
          have hn4 : D ∉ ρ4 := (g4.off D _ hd3 hn3).1
          have hf4 : F4 D = none := (g4.off D _ hd3 hn3).2 hf3
          have gA := g2.trans (g3.trans g4)
          have ql := q1.length
          have hl2 : ws.length = acc.length + (ws2.length + 1) := by rw [ew, List.length_append, List.length_cons]
          refine ⟨accV, hd4, by omega, F4, ρ4, m3, acc ++ [w2], accV ++ [v2], ws2, r4.updO hf4 hn4, (g1.trans gA).updO hD0, s1.trans gA.ff, p1.trans gA.pre, hf4, hn4, upd_same, (q1.mono gA.ff gA.pre).append (.cons q4 .nil), er, by rw [ew, List.append_assoc]; rfl⟩
        · rw [if_neg Bool.false_ne_true]
          have gA := g2.trans g3
          exact ⟨F3, ρ3, m2, acc, accV, ws', r3, g1.trans gA, s1.trans gA.ff, p1.trans gA.pre, hf3, hn3, hd3, q1.mono gA.ff gA.pre, er, ew⟩
      · have e : i = xs.length := by omega
        subst e
        refine .inl ⟨wk.stop F1 ρ1 m1 H1 s1 p1 r1, ?_⟩
        rw [List.drop_length] at el
        cases el
        rw [List.append_nil] at ew
        subst ew
        exact p D accV F1 ρ1 H1 r1 g1 hD0 hf1 hn1 hd1 q1
def tYesM : Ft := fun _ m => .ok true m
theorem ts_nil : PTs X [] (sT c Wx tYesM) := ⟨fun pins s σ H Q I h => by
  obtain ⟨F, ρ, m, τ, r, hs, p⟩ := h
  exact pts_nil.run pins s σ H Q I (p F ρ H r .refl)⟩
theorem ts_one {t : Expr} {ft : Ft} (h : ST c X Wx t ft) : PTs X [t] (sT c Wx ft) := pts_one h
theorem n_lc {k : Nat} {elt tg iter : Expr} {ifs : List Expr} {scope : Scope} {own : List (Str × Nat)} {fi : Fas} {is : List Nat} {bd : Bd} {ft : Ft} {fe : Fe} (x : Ctx X Wx k) (hi : SI c X Wx tg iter fi) (ok : BlkOk X.N X.env.scope scope own) (hss : ∀ i ∈ is, i ∈ own.map (·.2))
    (hg : ∀ (s : Shared) (H : Hp) (C : Addr) (cl : List (Str × Addr)) (fp : List Addr), SG c (X.blk s H scope (compEnvC scope cl C X.env) fp) tg is bd) (ht : ∀ (s : Shared) (H : Hp) (C : Addr) (cl : List (Str × Addr)) (fp : List Addr), PTs (X.blk s H scope (compEnvC scope cl C X.env) fp) ifs (sT c W0 ft))
    (he : ∀ (s : Shared) (H : Hp) (C : Addr) (cl : List (Str × Addr)) (fp : List Addr), SE c (X.blk s H scope (compEnvC scope cl C X.env) fp) W0 elt fe) (hs : ∀ x, foldedSetIterable iter X.env x = pure x := by intro _; rfl) :
    SN c X Wx (.ListComp elt [⟨tg, iter, ifs, 0⟩] scope pos) (nLc fi (own.map (·.2)) bd ft fe) := PE.weak (pe_lc x.calm x.nd hi ok hg ht he hs) fun _ _ _ h => w_lc hss h
/-- name = [.. for ..] on one line -/
theorem x_setLc {k i : Nat} {y : Str} {py spos : Pos} {elt tg iter : Expr} {ifs : List Expr} {scope : Scope} {own : List (Str × Nat)} {fi : Fas} {is : List Nat} {bd : Bd} {ft : Ft} {fe : Fe} (x : Ctx X Wx k) (hy : X.N[i]? = some y) (hyl : X.env.scope.names.lookup y = some .local) (hsw : swapsWith (.ListComp elt [⟨tg, iter, ifs, 0⟩] scope pos) (some (.Name y py)) spos.line X.env = pure true)
    (hi : SI c X Wx tg iter fi) (ok : BlkOk X.N X.env.scope scope own) (hss : ∀ i ∈ is, i ∈ own.map (·.2))
    (hg : ∀ (s : Shared) (H : Hp) (C : Addr) (cl : List (Str × Addr)) (fp : List Addr), SG c (X.blk s H scope (compEnvC scope cl C X.env) fp) tg is bd) (ht : ∀ (s : Shared) (H : Hp) (C : Addr) (cl : List (Str × Addr)) (fp : List Addr), PTs (X.blk s H scope (compEnvC scope cl C X.env) fp) ifs (sT c W0 ft))
    (he : ∀ (s : Shared) (H : Hp) (C : Addr) (cl : List (Str × Addr)) (fp : List Addr), SE c (X.blk s H scope (compEnvC scope cl C X.env) fp) W0 elt fe) (i0 : i ≠ 0 := by decide) (hs : ∀ x, foldedSetIterable iter X.env x = pure x := by intro _; rfl) :
    SX c X Wx B (.Assign [.Name y py] (.ListComp elt [⟨tg, iter, ifs, 0⟩] scope pos) spos) (sSetN i (nLc fi (own.map (·.2)) bd ft fe)) :=
  PS.weak (ps_setLc x.calm x.nd hy hyl hsw hi ok hg ht he hs) fun D σ H ⟨F, ρ, m, τ, fr, p⟩ => w_lc (Wx := Wx) hss (useN (B := B) (Wx := Wx) fr p fun ws m' a vs F' ρ' H' fr' h0 hf hn ha r q => q _ _ _ _ (fr.take fr' i0 h0 hf hn ha ⟨vs, rfl, r⟩))
end
end Sm

/-! S9: items, comparisons, built-in calls. -/
namespace Sm
open PySem PySem.Spec PyProof.Rows L2

/-! ### items -/
def charW (x : Str) (i : Int) : Option W := if x.length ≤ sizeLine then (atI x.cps.toList i).map fun c => .str ⟨#[c]⟩ else none
def ixW : W → W → Sto → Option W
  | .tup xs, .int i, _ => atI xs i
  | .lst xs, .int i, _ => atI xs i
  | .str x, .int i, _ => charW x i
  | .ref r, .int i, m => match m[r]? with
    | some (.lst xs) => atI xs i
    | _ => none
  | _, _, _ => none
section
variable {c : Cn} {F : Hp} {ρ : List Addr}
theorem RWs.atI {ws : List W} {vs : List V} {i : Int} {w : W} (h : RWs c F ρ ws vs) (e : L2.atI ws i = some w) : ∃ v, L2.atI vs i = some v ∧ RW c F ρ w v := by
  have hl := h.length
  unfold L2.atI at e ⊢
  rw [hl]
  cases q : ixN ws.length i with
  | none =>
    rw [q] at e
    cases e
  | some j =>
    rw [q] at e
    exact h.get e
end
section
variable {cl : Str → Addr} {X : Cx} {Wx : WX}
theorem i_x : IxR X (rS ⟨X.K, cl⟩ ixW) := by
  intro value slice pins s σ H x y v u Q I rx ry h hs
  obtain ⟨F, ρ, m, w1, w2, w, r, q1, q2, e, k⟩ := h
  unfold ixW at e
  split at e
  · obtain ⟨a, vs, rfl, h1, t⟩ := q1.tup r
    obtain ⟨v', e1, e2⟩ := t.atI e
    exact ix_tup value slice pins s σ H _ y v u Q I rx ry ⟨a, vs, _, v', rfl, q2.int, h1, e1, k _ F ρ H r .refl e2⟩ hs
  · obtain ⟨a, vs, rfl, h1, t⟩ := q1.lst r
    obtain ⟨v', e1, e2⟩ := t.atI e
    exact ix_list value slice pins s σ H _ y v u Q I rx ry ⟨a, vs, _, v', rfl, q2.int, .inl h1, e1, k _ F ρ H r .refl e2⟩ hs
  · rename_i z i
    unfold charW at e
    split at e
    · rename_i hz
      cases e1 : atI z.cps.toList i with
      | none =>
        rw [e1] at e
        cases e
      | some ch =>
        rw [e1] at e
        cases e
        exact ix_str value slice pins s σ H x y v u Q I rx ry ⟨z, i, ch, q1.str, q2.int, hz, e1, k _ F ρ H r .refl rfl⟩ hs
    · cases e
  · obtain ⟨a, rfl, h1⟩ := q1.ref
    split at e
    · rename_i xs hx
      obtain ⟨vs, h2, t⟩ := r.lst h1 hx
      obtain ⟨v', e1, e2⟩ := t.atI e
      exact ix_list value slice pins s σ H _ y v u Q I rx ry ⟨a, vs, _, v', rfl, q2.int, .of h2, e1, k _ F ρ H r .refl e2⟩ hs
    · cases e
  · cases e

/-! ### == and != of data -/
mutual
def toD : W → Option PyData
  | .non => some .none
  | .bl b => some (.bool b)
  | .int i => some (.int i)
  | .str x => some (.str x)
  | .tup xs => (toDs xs).map .tuple
  | .lst xs => (toDs xs).map .list
  | _ => none
def toDs : List W → Option (List PyData)
  | [] => some []
  | x :: r => match toD x, toDs r with
    | some d, some ds => some (d :: ds)
    | _, _ => none
end
mutual
theorem toD_dp {F : Hp} {ρ : List Addr} {H : Hp} (s : Same F H) : ∀ (w : W) (v : V) (d : PyData), RW ⟨X.K, cl⟩ F ρ w v → toD w = some d → Dp X.K H v d
  | .non, v, d, h, e => by
    have h' : v = .non := h
    unfold toD at e
    cases e
    rw [h']
    exact .non
  | .bl b, v, d, h, e => by
    have h' : v = .bl b := h
    unfold toD at e
    cases e
    rw [h']
    exact .bl b
  | .int b, v, d, h, e => by
    have h' : v = .int b := h
    unfold toD at e
    cases e
    rw [h']
    exact .int b
  | .str b, v, d, h, e => by
    have h' : v = .str b := h
    unfold toD at e
    cases e
    rw [h']
    exact .str b
  | .tup xs, v, d, h, e => by
    unfold RW at h
    obtain ⟨a, vs, rfl, h1, t⟩ := h
    unfold toD at e
    obtain ⟨ds, e1, rfl⟩ := Option.map_eq_some_iff.mp e
    exact .tup (sqT_mono s h1) (toDs_dp s xs vs ds t e1)
  | .lst xs, v, d, h, e => by
    unfold RW at h
    obtain ⟨a, vs, rfl, h1, t⟩ := h
    unfold toD at e
    obtain ⟨ds, e1, rfl⟩ := Option.map_eq_some_iff.mp e
    exact .lst (.inl (rd_mono s h1)) (toDs_dp s xs vs ds t e1)
  | .dct _ _, v, d, h, e => by
    unfold toD at e
    cases e
  | .obj _ _ _, v, d, h, e => by
    unfold toD at e
    cases e
  | .tree _ _ _ _, v, d, h, e => by
    unfold toD at e
    cases e
  | .ref _, v, d, h, e => by
    unfold toD at e
    cases e
  | .ty _, v, d, h, e => by
    unfold toD at e
    cases e
  | .cls _, v, d, h, e => by
    unfold toD at e
    cases e
  | .exc _ _ _, v, d, h, e => by
    unfold toD at e
    cases e
theorem toDs_dp {F : Hp} {ρ : List Addr} {H : Hp} (s : Same F H) : ∀ (ws : List W) (vs : List V) (ds : List PyData), RWs ⟨X.K, cl⟩ F ρ ws vs → toDs ws = some ds → DpAll X.K H vs ds
  | [], vs, ds, h, e => by
    have h' : vs = [] := h
    unfold toDs at e
    cases e
    rw [h']
    exact .nil
  | w :: ws, vs, ds, h, e => by
    obtain ⟨v, r, rfl, h1, t⟩ := h.inv
    unfold toDs at e
    cases e1 : toD w with
    | none =>
      rw [e1] at e
      cases e
    | some d =>
      cases e2 : toDs ws with
      | none =>
        rw [e1, e2] at e
        cases e
      | some ds' =>
        rw [e1, e2] at e
        cases e
        exact .cons (toD_dp s w v d h1 e1) (toDs_dp s ws r ds' t e2)
end
/-- what stands at a place of the store, as data -/
def deref : W → Sto → W
  | .ref i, m => match m[i]? with
    | some o => toW o
    | none => .ref i
  | w, _ => w
def eqB (w1 w2 : W) (m : Sto) : Option Bool := match toD (deref w1 m), toD (deref w2 m) with
  | some d, some e => if SeqAt.shaped d = true ∧ SeqAt.shaped e = true then some (PyData.eqv d e) else none
  | _, _ => none
def eqW (w1 w2 : W) (m : Sto) : Option W := (eqB w1 w2 m).map .bl
def neW (w1 w2 : W) (m : Sto) : Option W := (eqB w1 w2 m).map fun b => .bl (!b)
theorem deref_dp {F : Hp} {ρ : List Addr} {H : Hp} {m : Sto} {w : W} {v : V} {d : PyData} (r : R ⟨X.K, cl⟩ F ρ m H) (q : RB ⟨X.K, cl⟩ F ρ H w v) (e : toD (deref w m) = some d) : Dp X.K H v d := by
  cases w with
  | ref i =>
    obtain ⟨a, rfl, h1⟩ := q.ref
    unfold deref at e
    dsimp only at e
    cases e2 : m[i]? with
    | none =>
      rw [e2] at e
      cases e
    | some o =>
      rw [e2] at e
      cases o with
      | lst xs =>
        obtain ⟨vs, h2, t⟩ := r.lst h1 e2
        have e' : toD (.lst xs) = some d := e
        unfold toD at e'
        obtain ⟨ds, e1, rfl⟩ := Option.map_eq_some_iff.mp e'
        exact .lst (.of h2) (toDs_dp r.sub xs vs ds t e1)
      | _ => cases e
  | lst xs =>
    obtain ⟨a, vs, rfl, h1, t⟩ := q.lst r
    have e' : toD (.lst xs) = some d := e
    unfold toD at e'
    obtain ⟨ds, e1, rfl⟩ := Option.map_eq_some_iff.mp e'
    exact .lst (.inl h1) (toDs_dp r.sub xs vs ds t e1)
  | obj _ _ _ => cases e
  | non => exact toD_dp r.sub _ v d (q.scal fun o e => by cases o <;> cases e) e
  | bl _ => exact toD_dp r.sub _ v d (q.scal fun o e => by cases o <;> cases e) e
  | int _ => exact toD_dp r.sub _ v d (q.scal fun o e => by cases o <;> cases e) e
  | str _ => exact toD_dp r.sub _ v d (q.scal fun o e => by cases o <;> cases e) e
  | tup _ => exact toD_dp r.sub _ v d (q.scal fun o e => by cases o <;> cases e) e
  | dct _ _ => cases e
  | tree _ _ _ _ => cases e
  | ty _ => cases e
  | cls _ => cases e
  | exc _ _ _ => cases e
theorem eqB_dp {F : Hp} {ρ : List Addr} {H : Hp} {m : Sto} {w1 w2 : W} {x y : V} {b : Bool} (r : R ⟨X.K, cl⟩ F ρ m H) (q1 : RB ⟨X.K, cl⟩ F ρ H w1 x) (q2 : RB ⟨X.K, cl⟩ F ρ H w2 y) (e : eqB w1 w2 m = some b) :
    ∃ d e, Dp X.K H x d ∧ Dp X.K H y e ∧ SeqAt.shaped d = true ∧ SeqAt.shaped e = true ∧ PyData.eqv d e = b := by
  unfold eqB at e
  split at e
  · rename_i d1 d2 h1 h2
    split at e
    · rename_i hs
      cases e
      exact ⟨d1, d2, deref_dp r q1 h1, deref_dp r q2 h2, hs.1, hs.2, rfl⟩
    · cases e
  · cases e
theorem o_eq {k : Nat} (hr : Room k X.A) : OpR X (compareOp .Eq) (rS ⟨X.K, cl⟩ eqW) := by
  intro pins s σ H x y v u Q I rx ry h
  obtain ⟨F, ρ, m, w1, w2, w, r, q1, q2, e, kk⟩ := h
  obtain ⟨b, e1, rfl⟩ := Option.map_eq_some_iff.mp e
  obtain ⟨d1, d2, p1, p2, s1, s2, rfl⟩ := eqB_dp r q1 q2 e1
  exact op_eqD hr.units pins s σ H x y v u Q I rx ry ⟨d1, d2, p1, p2, s1, s2, kk _ F ρ H r .refl rfl⟩
theorem o_ne {k : Nat} (hr : Room k X.A) : OpR X (compareOp .NotEq) (rS ⟨X.K, cl⟩ neW) := by
  intro pins s σ H x y v u Q I rx ry h
  obtain ⟨F, ρ, m, w1, w2, w, r, q1, q2, e, kk⟩ := h
  obtain ⟨b, e1, rfl⟩ := Option.map_eq_some_iff.mp e
  obtain ⟨d1, d2, p1, p2, s1, s2, rfl⟩ := eqB_dp r q1 q2 e1
  exact op_neD hr.units pins s σ H x y v u Q I rx ry ⟨d1, d2, p1, p2, s1, s2, kk _ F ρ H r .refl rfl⟩

/-! ### is None -/
def isNW : W → W → Sto → Option W
  | .non, .non, _ => some (.bl true)
  | _, .non, _ => some (.bl false)
  | _, _, _ => none
def notNW (a b : W) (m : Sto) : Option W := match isNW a b m with
  | some (.bl k) => some (.bl (!k))
  | _ => none
theorem RB.notNon {F : Hp} {ρ : List Addr} {H : Hp} {w : W} {v : V} {c : Cn} (q : RB c F ρ H w v) (n : w ≠ .non) : v ≠ .non := by
  rcases q with q | ⟨a, h, o, rfl, _⟩
  · cases w with
    | non => exact absurd rfl n
    | bl _ => intro e; rw [e] at q; cases (show V.non = _ from q)
    | int _ => intro e; rw [e] at q; cases (show V.non = _ from q)
    | str _ => intro e; rw [e] at q; cases (show V.non = _ from q)
    | tup _ => unfold RW at q; obtain ⟨a, vs, rfl, _⟩ := q; intro e; cases e
    | lst _ => unfold RW at q; obtain ⟨a, vs, rfl, _⟩ := q; intro e; cases e
    | dct _ _ => unfold RW at q; obtain ⟨a, o, kvs, rfl, _⟩ := q; intro e; cases e
    | tree _ _ _ _ => unfold RW at q; obtain ⟨a, dx, gs, t, r, rfl, _⟩ := q; intro e; cases e
    | obj _ _ _ => unfold RW at q; obtain ⟨a, dx, gs, rfl, _⟩ := q; intro e; cases e
    | ref _ => unfold RW at q; obtain ⟨a, rfl, _⟩ := q; intro e; cases e
    | ty _ => intro e; rw [e] at q; cases (show V.non = _ from q)
    | cls _ => intro e; rw [e] at q; cases (show V.non = _ from q)
    | exc _ _ _ => unfold RW at q; rcases q with ⟨a, d, gs, rfl, _⟩ | ⟨_, _, a, rfl, _⟩ <;> (intro e; cases e)
  · intro e; cases e
theorem isNW_dec {F : Hp} {ρ : List Addr} {H : Hp} {m : Sto} {w1 w2 w : W} {x y : V} {c : Cn} (q1 : RB c F ρ H w1 x) (q2 : RB c F ρ H w2 y) (e : isNW w1 w2 m = some w) : y = .non ∧ w = .bl (decide (x = .non)) := by
  unfold isNW at e
  split at e
  · cases e
    refine ⟨q2.non, ?_⟩
    rw [q1.non]
    rfl
  · rename_i hn
    cases e
    refine ⟨q2.non, ?_⟩
    rw [decide_eq_false (q1.notNon fun z => hn z)]
  · cases e
theorem o_isN : OpR X (compareOp .Is) (rS ⟨X.K, cl⟩ isNW) := by
  intro pins s σ H x y v u Q I rx ry h
  obtain ⟨F, ρ, m, w1, w2, w, r, q1, q2, e, kk⟩ := h
  obtain ⟨e1, e2⟩ := isNW_dec q1 q2 e
  exact op_isN pins s σ H x y v u Q I rx ry ⟨e1, kk _ F ρ H r .refl (by rw [e2]; rfl)⟩
theorem o_notN : OpR X (compareOp .IsNot) (rS ⟨X.K, cl⟩ notNW) := by
  intro pins s σ H x y v u Q I rx ry h
  obtain ⟨F, ρ, m, w1, w2, w, r, q1, q2, e, kk⟩ := h
  unfold notNW at e
  split at e
  · rename_i k e0
    obtain ⟨e1, e2⟩ := isNW_dec q1 q2 e0
    cases e
    cases e2
    exact op_notN pins s σ H x y v u Q I rx ry ⟨e1, kk _ F ρ H r .refl rfl⟩
  · cases e

/-! ### in -/
def vOf : W → Option V
  | .non => some .non
  | .bl b => some (.bl b)
  | .int i => some (.int i)
  | .str x => some (.str x)
  | _ => none
def vsOf : List W → Option (List V)
  | [] => some []
  | w :: r => match vOf w, vsOf r with
    | some v, some vs => some (v :: vs)
    | _, _ => none
theorem vOf_eq {F : Hp} {ρ : List Addr} {H : Hp} {w : W} {v v' : V} {c : Cn} (q : RB c F ρ H w v) (e : vOf w = some v') : v = v' := by
  cases w with
  | non => cases e; exact q.non
  | bl _ => cases e; exact q.bl
  | int _ => cases e; exact q.int
  | str _ => cases e; exact q.str
  | _ => cases e
theorem vsOf_eq {F : Hp} {ρ : List Addr} {c : Cn} : ∀ {ws : List W} {vs vs' : List V}, RWs c F ρ ws vs → vsOf ws = some vs' → vs = vs'
  | [], vs, vs', h, e => by
    cases e
    exact h
  | w :: ws, vs, vs', h, e => by
    obtain ⟨v, r, rfl, h1, t⟩ := h.inv
    unfold vsOf at e
    cases e1 : vOf w with
    | none =>
      rw [e1] at e
      cases e
    | some v' =>
      cases e2 : vsOf ws with
      | none =>
        rw [e1, e2] at e
        cases e
      | some r' =>
        rw [e1, e2] at e
        cases e
        rw [vOf_eq (H := F) (.inl h1) e1, vsOf_eq t e2]
def inSeq (x : W) (ys : List W) : Option Bool := match vOf x, vsOf ys with
  | some v, some vs => if flatV v = true ∧ vs.all flatV = true then some (inV v vs) else none
  | _, _ => none
def inB : W → W → Sto → Option Bool
  | x, .tup ys, _ => inSeq x ys
  | x, .lst ys, _ => inSeq x ys
  | .str a, .str b, _ => some (!(Builtin.Str.occurrences b a 0 b.length 1).isEmpty)
  | x, .ref i, m => match m[i]? with
    | some (.lst ys) => inSeq x ys
    | _ => none
  | _, _, _ => none
def inW (a b : W) (m : Sto) : Option W := (inB a b m).map .bl
def ninW (a b : W) (m : Sto) : Option W := (inB a b m).map fun k => .bl (!k)
theorem inSeq_of {F : Hp} {ρ : List Addr} {H : Hp} {x : W} {v : V} {ys : List W} {vs : List V} {b : Bool} {c : Cn} (q1 : RB c F ρ H x v) (t : RWs c F ρ ys vs) (e : inSeq x ys = some b) : flatV v = true ∧ vs.all flatV = true ∧ inV v vs = b := by
  unfold inSeq at e
  split at e
  · rename_i v' vs' h1 h2
    split at e
    · rename_i hf
      cases e
      rw [vOf_eq q1 h1, vsOf_eq t h2]
      exact ⟨hf.1, hf.2, rfl⟩
    · cases e
  · cases e
theorem inB_of {F : Hp} {ρ : List Addr} {H : Hp} {m : Sto} {w1 w2 : W} {x y : V} {b : Bool} (r : R ⟨X.K, cl⟩ F ρ m H) (q1 : RB ⟨X.K, cl⟩ F ρ H w1 x) (q2 : RB ⟨X.K, cl⟩ F ρ H w2 y) (e : inB w1 w2 m = some b) :
    (∃ p xs, y = .ref p ∧ (SqL X.K H p xs ∨ SqT X.K H p xs) ∧ flatV x = true ∧ xs.all flatV = true ∧ inV x xs = b) ∨ ∃ i j, x = .str i ∧ y = .str j ∧ (!(Builtin.Str.occurrences j i 0 j.length 1).isEmpty) = b := by
  unfold inB at e
  split at e
  · obtain ⟨a, vs, rfl, h1, t⟩ := q2.tup r
    exact .inl ⟨a, vs, rfl, .inr h1, inSeq_of q1 t e⟩
  · obtain ⟨a, vs, rfl, h1, t⟩ := q2.lst r
    exact .inl ⟨a, vs, rfl, .inl (.inl h1), inSeq_of q1 t e⟩
  · cases e
    exact .inr ⟨_, _, q1.str, q2.str, rfl⟩
  · obtain ⟨a, rfl, h1⟩ := q2.ref
    split at e
    · rename_i ys h2
      obtain ⟨vs, h3, t⟩ := r.lst h1 h2
      exact .inl ⟨a, vs, rfl, .inl (.of h3), inSeq_of q1 t e⟩
    · cases e
  · cases e
theorem o_in : OpR X (compareOp .In) (rS ⟨X.K, cl⟩ inW) := by
  intro pins s σ H x y v u Q I rx ry h
  obtain ⟨F, ρ, m, w1, w2, w, r, q1, q2, e, kk⟩ := h
  obtain ⟨b, e1, rfl⟩ := Option.map_eq_some_iff.mp e
  have k1 := kk _ F ρ H r .refl rfl
  rcases inB_of r q1 q2 e1 with ⟨p, xs, rfl, h1, h2, h3, rfl⟩ | ⟨i, j, rfl, rfl, rfl⟩
  · exact op_in_seq pins s σ H x _ v u Q I rx ry ⟨p, xs, rfl, h1, h2, h3, k1⟩
  · exact op_in_str pins s σ H _ _ v u Q I rx ry ⟨i, j, rfl, rfl, k1⟩
theorem o_nin : OpR X (compareOp .NotIn) (rS ⟨X.K, cl⟩ ninW) := by
  intro pins s σ H x y v u Q I rx ry h
  obtain ⟨F, ρ, m, w1, w2, w, r, q1, q2, e, kk⟩ := h
  obtain ⟨b, e1, rfl⟩ := Option.map_eq_some_iff.mp e
  have k1 := kk _ F ρ H r .refl rfl
  rcases inB_of r q1 q2 e1 with ⟨p, xs, rfl, h1, h2, h3, rfl⟩ | ⟨i, j, rfl, rfl, rfl⟩
  · exact op_notIn_seq pins s σ H x _ v u Q I rx ry ⟨p, xs, rfl, h1, h2, h3, k1⟩
  · exact op_notin_str pins s σ H _ _ v u Q I rx ry ⟨i, j, rfl, rfl, k1⟩
end
end Sm

/-! S10: built-in calls, and | or | not as values, conditional expressions, chains, slices. -/
namespace Sm
open PySem PySem.Spec PyProof.Rows L2

/-! ### arguments that are read -/
def RBs (c : Cn) (F : Hp) (ρ : List Addr) (H : Hp) : List W → List V → Prop
  | [], vs => vs = []
  | w :: ws, vs => ∃ v r, vs = v :: r ∧ RB c F ρ H w v ∧ RBs c F ρ H ws r
theorem RBs.go {c : Cn} {F F' : Hp} {ρ ρ' : List Addr} {H H' : Hp} (g : Go F ρ H F' ρ' H') : ∀ {ws : List W} {vs : List V}, RBs c F ρ H ws vs → RBs c F' ρ' H' ws vs
  | [], _, h => h
  | _ :: _, _, ⟨v, r, e, h, t⟩ => ⟨v, r, e, h.go g, RBs.go g t⟩
section
variable (c : Cn) (Wx : WX)
def OkR (F : Hp) (ρ : List Addr) (H : Hp) (Q : List V → Hp → Prop) (ws : List W) (m' : Sto) : Prop := ∀ vs F' ρ' H', R c F' ρ' m' H' → Go F ρ H F' ρ' H' → RBs c F' ρ' H' ws vs → Q vs H'
def sAr (f : Fas) : TA := fun σ H Q => ∃ F ρ m τ, R c F ρ m H ∧ RS c F ρ τ σ H ∧ Post (OkR c F ρ H Q) (OkX c F ρ H fun k d H' => Wx k d σ H') (f τ m)
end
abbrev SAr (c : Cn) (X : Cx) (Wx : WX) (es : List Expr) (f : Fas) : Prop := PA X es (sAr c Wx f)
/-- a built-in function of values: rC c h, h the worth -/
def rC (c : Cn) (h : List W → Sto → Option W) : List V → Hp → VK → Prop := fun vs H Q => ∃ F ρ m ws w, R c F ρ m H ∧ RBs c F ρ H ws vs ∧ h ws m = some w ∧ OkE c F ρ H Q w m
def eBlt (h : List W → Sto → Option W) (g : Fas) : Fe := fun τ => bnd (g τ) fun ws m => lift (h ws m) m
section
variable {c : Cn} {X : Cx} {Wx : WX} {e : Expr} {es : List Expr} {f : Fe} {g : Fas} {p pos : Pos} {x : Str} {id T : String} {h : List W → Sto → Option W}
theorem ar_nil : SAr c X Wx [] aNil := PA.weak pa_nil fun σ H Q ⟨F, ρ, m, τ, r, s, p⟩ => p [] F ρ H r .refl rfl
theorem ar_cons (he : SR c X Wx e f) (hs : SAr c X Wx es g) (hst : starEach (e :: es) X.env = (false, eval e X.env) :: starEach es X.env := by rfl) : SAr c X Wx (e :: es) (aCons f g) := PA.weak (pa_cons he hs hst) fun σ H Q ⟨F, ρ, m, τ, r, s, p⟩ => by
  refine ⟨F, ρ, m, τ, r, s, ?_⟩
  unfold aCons bnd at p
  cases e : f τ m with
  | bad =>
    rw [e] at p
    exact p
  | exc x m' =>
    rw [e] at p
    exact p
  | ok w m1 =>
    rw [e] at p
    dsimp only at p
    intro v F1 ρ1 H1 r1 g1 q1
    refine ⟨F1, ρ1, m1, τ, r1, s.go g1, ?_⟩
    cases e2 : g τ m1 with
    | bad =>
      rw [e2] at p
      exact p
    | exc x m' =>
      rw [e2] at p
      exact OkX.back r1 g1 p
    | ok ws m2 =>
      rw [e2] at p
      exact fun vs F2 ρ2 H2 r2 g2 q2 => p (v :: vs) F2 ρ2 H2 r2 (g1.trans g2) ⟨v, vs, rfl, q1.go g2, q2⟩
theorem w_blt {σ : L2.St} {H : Hp} {Q : VK} (q : sE c Wx (eBlt h g) σ H Q) : tCB (rC c h) (sAr c Wx g) σ H Q := by
  obtain ⟨F, ρ, m, τ, r, s, p⟩ := q
  refine ⟨F, ρ, m, τ, r, s, ?_⟩
  unfold eBlt bnd at p
  cases e : g τ m with
  | bad =>
    rw [e] at p
    exact p
  | exc x m' =>
    rw [e] at p
    exact p
  | ok ws m1 =>
    rw [e] at p
    dsimp only at p
    intro vs F1 ρ1 H1 r1 g1 q1
    cases e2 : h ws m1 with
    | none =>
      rw [e2] at p
      exact p.elim
    | some w =>
      rw [e2] at p
      exact ⟨F1, ρ1, m1, ws, w, r1, q1, e2, OkE.back g1 p⟩
theorem s_blt (hc : CallR X (.builtin id) (rC c h)) (ha : SAr c X Wx (e :: es) g) (hm : X.mg x = none) (hv : bootBuiltins x = some (.builtin id)) (hg : Gl X x := by rfl) (hn : x ≠ "__name__" := by decide) (hdb : (x == ("__debug__" : Str)) = false := by decide)
    (he : starEach (e :: es) X.env = (false, eval e X.env) :: starEach es X.env := by rfl) (hpl : (backTo pos (starEach es X.env)).any (·.1) = false := by rfl) : SE c X Wx (.Call (.Name x p) (e :: es) [] pos) (eBlt h g) := PE.weak (pe_callB hc hg hm hv ha hn hdb he hpl) fun _ _ _ q => w_blt q
theorem s_blty (hc : CallR X (.type T) (rC c h)) (ha : SAr c X Wx (e :: es) g) (hm : X.mg x = none) (hv : bootBuiltins x = some (.type T)) (hg : Gl X x := by rfl) (hn : x ≠ "__name__" := by decide) (hdb : (x == ("__debug__" : Str)) = false := by decide)
    (he : starEach (e :: es) X.env = (false, eval e X.env) :: starEach es X.env := by rfl) (hpl : (backTo pos (starEach es X.env)).any (·.1) = false := by rfl) : SE c X Wx (.Call (.Name x p) (e :: es) [] pos) (eBlt h g) := PE.weak (pe_callTy hc hg hm hv ha hn hdb he hpl) fun _ _ _ q => w_blt q
theorem RBs.one {F : Hp} {ρ : List Addr} {H : Hp} {w : W} {vs : List V} (q : RBs c F ρ H [w] vs) : ∃ v, vs = [v] ∧ RB c F ρ H w v := by
  obtain ⟨v, r, rfl, h, t⟩ := q
  have e : r = [] := t
  exact ⟨v, by rw [e], h⟩
theorem RBs.two {F : Hp} {ρ : List Addr} {H : Hp} {w1 w2 : W} {vs : List V} (q : RBs c F ρ H [w1, w2] vs) : ∃ v u, vs = [v, u] ∧ RB c F ρ H w1 v ∧ RB c F ρ H w2 u := by
  obtain ⟨v, r, rfl, h, t⟩ := q
  obtain ⟨u, rfl, h2⟩ := RBs.one t
  exact ⟨v, u, rfl, h, h2⟩
end

def lenW : List W → Sto → Option W
  | [.str x], _ => if x.length ≤ sizeLine then some (.int x.length) else none
  | [.tup xs], _ => some (.int xs.length)
  | [.lst xs], _ => some (.int xs.length)
  | [.ref i], m => match m[i]? with
    | some (.lst xs) => some (.int xs.length)
    | _ => none
  | _, _ => none
def absW : List W → Sto → Option W
  | [.int i], _ => some (.int (if i < 0 then -i else i))
  | _, _ => none
def intW : List W → Sto → Option W
  | [.int i], _ => some (.int i)
  | [.bl k], _ => some (.int (if k then 1 else 0))
  | [.str a], _ => if a.length ≤ 640 then (PySem.intText? a).map .int else none
  | _, _ => none
def max2W : List W → Sto → Option W
  | [.int i, .int j], _ => some (.int (if j > i then j else i))
  | _, _ => none
def min2W : List W → Sto → Option W
  | [.int i, .int j], _ => some (.int (if j < i then j else i))
  | _, _ => none
def strW : List W → Sto → Option W
  | [.int i], _ => if i.natAbs.log2 < 1920 then some (.str (toString i)) else none
  | [.str a], _ => some (.str a)
  | _, _ => none
def tupleW : List W → Sto → Option W
  | [.tup xs], _ => some (.tup xs)
  | [.lst xs], _ => some (.tup xs)
  | _, _ => none
section
variable {cl : Str → Addr} {X : Cx} {Wx : WX}
theorem c_len : CallR X (.builtin "len") (rC ⟨X.K, cl⟩ lenW) := by
  intro pins s σ H xs us Q I rv h
  obtain ⟨F, ρ, m, ws, w, r, q, e, k⟩ := h
  unfold lenW at e
  split at e
  · obtain ⟨v, rfl, q1⟩ := q.one
    split at e
    · rename_i hz
      cases e
      exact call_len_str pins s σ H _ us Q I rv ⟨_, by rw [q1.str], hz, k _ F ρ H r .refl rfl⟩
    · cases e
  · obtain ⟨v, rfl, q1⟩ := q.one
    obtain ⟨a, vs, rfl, h1, t⟩ := q1.tup r
    cases e
    exact call_len_seq pins s σ H _ us Q I rv ⟨a, vs, rfl, .inr h1, k _ F ρ H r .refl (by rw [t.length]; rfl)⟩
  · obtain ⟨v, rfl, q1⟩ := q.one
    obtain ⟨a, vs, rfl, h1, t⟩ := q1.lst r
    cases e
    exact call_len_seq pins s σ H _ us Q I rv ⟨a, vs, rfl, .inl (.inl h1), k _ F ρ H r .refl (by rw [t.length]; rfl)⟩
  · obtain ⟨v, rfl, q1⟩ := q.one
    obtain ⟨a, rfl, h1⟩ := q1.ref
    split at e
    · rename_i ys h2
      obtain ⟨vs, h3, t⟩ := r.lst h1 h2
      cases e
      exact call_len_seq pins s σ H _ us Q I rv ⟨a, vs, rfl, .inl (.of h3), k _ F ρ H r .refl (by rw [t.length]; rfl)⟩
    · cases e
  · cases e
theorem c_abs {c : Cn} : CallR X (.builtin "abs") (rC c absW) := by
  intro pins s σ H xs us Q I rv h
  obtain ⟨F, ρ, m, ws, w, r, q, e, k⟩ := h
  unfold absW at e
  split at e
  · obtain ⟨v, rfl, q1⟩ := q.one
    cases e
    exact call_abs pins s σ H _ us Q I rv ⟨_, by rw [q1.int], k _ F ρ H r .refl rfl⟩
  · cases e
theorem c_int {c : Cn} : CallR X (.type "int") (rC c intW) := by
  intro pins s σ H xs us Q I rv h
  obtain ⟨F, ρ, m, ws, w, r, q, e, k⟩ := h
  unfold intW at e
  split at e
  · obtain ⟨v, rfl, q1⟩ := q.one
    cases e
    exact call_int1 pins s σ H _ us Q I rv (.inl ⟨_, by rw [q1.int], k _ F ρ H r .refl rfl⟩)
  · obtain ⟨v, rfl, q1⟩ := q.one
    cases e
    exact call_int1 pins s σ H _ us Q I rv (.inr ⟨_, by rw [q1.bl], k _ F ρ H r .refl rfl⟩)
  · obtain ⟨v, rfl, q1⟩ := q.one
    split at e
    · rename_i hz
      obtain ⟨n, e1, rfl⟩ := Option.map_eq_some_iff.mp e
      exact call_int_str pins s σ H _ us Q I rv ⟨_, n, by rw [q1.str], e1, hz, k _ F ρ H r .refl rfl⟩
    · cases e
  · cases e
theorem c_max2 {c : Cn} (hc : X.calm = true) : CallR X (.builtin "max") (rC c max2W) := by
  intro pins s σ H xs us Q I rv h
  obtain ⟨F, ρ, m, ws, w, r, q, e, k⟩ := h
  unfold max2W at e
  split at e
  · obtain ⟨v, u, rfl, q1, q2⟩ := q.two
    cases e
    exact call_max2 hc pins s σ H _ us Q I rv ⟨_, _, by rw [q1.int, q2.int], k _ F ρ H r .refl rfl⟩
  · cases e
theorem c_min2 {c : Cn} (hc : X.calm = true) : CallR X (.builtin "min") (rC c min2W) := by
  intro pins s σ H xs us Q I rv h
  obtain ⟨F, ρ, m, ws, w, r, q, e, k⟩ := h
  unfold min2W at e
  split at e
  · obtain ⟨v, u, rfl, q1, q2⟩ := q.two
    cases e
    exact call_min2 hc pins s σ H _ us Q I rv ⟨_, _, by rw [q1.int, q2.int], k _ F ρ H r .refl rfl⟩
  · cases e
theorem c_tuple : CallR X (.type "tuple") (rC ⟨X.K, cl⟩ tupleW) := by
  intro pins s σ H xs us Q I rv h
  obtain ⟨F, ρ, m, ws, w, r, q, e, k⟩ := h
  unfold tupleW at e
  split at e
  · obtain ⟨v, rfl, q1⟩ := q.one
    have q0 := q1.scal fun o e => by cases o <;> cases e
    obtain ⟨a, vs, rfl, h1, t⟩ := q1.tup r
    cases e
    exact call_tuple_of pins s σ H _ us Q I rv ⟨a, vs, rfl, .inr ⟨h1, k _ F ρ H r .refl q0⟩⟩
  · obtain ⟨v, rfl, q1⟩ := q.one
    obtain ⟨a, vs, rfl, h1, t⟩ := q1.lst r
    cases e
    exact call_tuple_of pins s σ H _ us Q I rv ⟨a, vs, rfl, .inl ⟨.inl h1, fun l n => k.newT r t l n⟩⟩
  · cases e

/-! ### and, or, not as values; a if t else b -/
variable {c : Cn} {a b t : Expr} {fa fb : Fe} {ft : Ft} {rest : List Expr} {pos : Pos}
def eIf (ft : Ft) (fa fb : Fe) : Fe := fun τ => bnd (ft τ) fun k => if k = true then fa τ else fb τ
theorem s_if (ht : ST c X Wx t ft) (ha : SE c X Wx a fa) (hb : SE c X Wx b fb) : SE c X Wx (.IfExp t a b pos) (eIf ft fa fb) := PE.weak (pe_ifExp ht ha hb) fun σ H Q ⟨F, ρ, m, τ, r, s, p⟩ => by
  refine ⟨F, ρ, m, τ, r, s, ?_⟩
  unfold eIf bnd at p
  cases e : ft τ m with
  | bad =>
    rw [e] at p
    exact p
  | exc x m' =>
    rw [e] at p
    exact p
  | ok k m1 =>
    rw [e] at p
    dsimp only at p
    intro F1 ρ1 H1 r1 g1
    have fin : ∀ {f : Fe}, Post (OkE c F ρ H Q) (OkX c F ρ H fun k d H' => Wx k d σ H') (f τ m1) → sE c Wx f σ H1 Q := fun {f} q => ⟨F1, ρ1, m1, τ, r1, s.go g1, by
      cases e2 : f τ m1 with
      | bad =>
        rw [e2] at q
        exact q
      | exc x m' =>
        rw [e2] at q
        exact OkX.back r1 g1 q
      | ok w m2 =>
        rw [e2] at q
        exact OkE.back g1 q⟩
    cases k with
    | true =>
      rw [if_pos rfl] at p ⊢
      exact fin p
    | false =>
      rw [if_neg Bool.false_ne_true] at p ⊢
      exact fin p
def eNot (ft : Ft) : Fe := fun τ => bnd (ft τ) fun k m => .ok (.bl (!k)) m
def eOr (fa fb : Fe) : Fe := fun τ => bnd (fa τ) fun w m => match truW w m with
  | some true => .ok w m
  | some false => fb τ m
  | none => .bad
def eAnd (fa fb : Fe) : Fe := fun τ => bnd (fa τ) fun w m => match truW w m with
  | some true => fb τ m
  | some false => .ok w m
  | none => .bad
theorem s_bone {op} (ha : SE c X Wx a fa) : SE c X Wx (.BoolOp op [a] pos) fa := pe_one ha
theorem s_or (ha : SE ⟨X.K, cl⟩ X Wx a fa) (hb : SE ⟨X.K, cl⟩ X Wx (.BoolOp .Or (b :: rest) pos) fb) : SE ⟨X.K, cl⟩ X Wx (.BoolOp .Or (a :: b :: rest) pos) (eOr fa fb) := PE.weak (pe_orT ha hb) fun σ H Q ⟨F, ρ, m, τ, r, s, p⟩ => by
  refine ⟨F, ρ, m, τ, r, s, ?_⟩
  unfold eOr bnd at p
  cases e : fa τ m with
  | bad =>
    rw [e] at p
    exact p
  | exc x m' =>
    rw [e] at p
    exact p
  | ok w m1 =>
    rw [e] at p
    dsimp only at p
    intro v F1 ρ1 H1 r1 g1 q1
    cases e2 : truW w m1 with
    | none =>
      rw [e2] at p
      exact p.elim
    | some k =>
      rw [e2] at p
      refine ⟨k, tru_of r1 (.inl q1) e2, ?_⟩
      cases k with
      | true =>
        rw [if_pos rfl]
        exact p v F1 ρ1 H1 r1 g1 q1
      | false =>
        rw [if_neg Bool.false_ne_true]
        refine ⟨F1, ρ1, m1, τ, r1, s.go g1, ?_⟩
        dsimp only at p
        cases e3 : fb τ m1 with
        | bad =>
          rw [e3] at p
          exact p
        | exc x m' =>
          rw [e3] at p
          exact OkX.back r1 g1 p
        | ok w m2 =>
          rw [e3] at p
          exact OkE.back g1 p
theorem s_and (ha : SE ⟨X.K, cl⟩ X Wx a fa) (hb : SE ⟨X.K, cl⟩ X Wx (.BoolOp .And (b :: rest) pos) fb) : SE ⟨X.K, cl⟩ X Wx (.BoolOp .And (a :: b :: rest) pos) (eAnd fa fb) := PE.weak (pe_andT ha hb) fun σ H Q ⟨F, ρ, m, τ, r, s, p⟩ => by
  refine ⟨F, ρ, m, τ, r, s, ?_⟩
  unfold eAnd bnd at p
  cases e : fa τ m with
  | bad =>
    rw [e] at p
    exact p
  | exc x m' =>
    rw [e] at p
    exact p
  | ok w m1 =>
    rw [e] at p
    dsimp only at p
    intro v F1 ρ1 H1 r1 g1 q1
    cases e2 : truW w m1 with
    | none =>
      rw [e2] at p
      exact p.elim
    | some k =>
      rw [e2] at p
      refine ⟨k, tru_of r1 (.inl q1) e2, ?_⟩
      cases k with
      | false =>
        rw [if_neg Bool.false_ne_true]
        exact p v F1 ρ1 H1 r1 g1 q1
      | true =>
        rw [if_pos rfl]
        refine ⟨F1, ρ1, m1, τ, r1, s.go g1, ?_⟩
        dsimp only at p
        cases e3 : fb τ m1 with
        | bad =>
          rw [e3] at p
          exact p
        | exc x m' =>
          rw [e3] at p
          exact OkX.back r1 g1 p
        | ok w m2 =>
          rw [e3] at p
          exact OkE.back g1 p
def eNotV (fa : Fe) : Fe := fun τ => bnd (fa τ) fun w m => match truW w m with
  | some k => .ok (.bl (!k)) m
  | none => .bad
theorem s_not (ha : SR ⟨X.K, cl⟩ X Wx a fa) : SE ⟨X.K, cl⟩ X Wx (.UnaryOp .Not a pos) (eNotV fa) := PE.weak (pe_notT ha) fun σ H Q ⟨F, ρ, m, τ, r, s, p⟩ => by
  refine ⟨F, ρ, m, τ, r, s, ?_⟩
  unfold eNotV bnd at p
  cases e : fa τ m with
  | bad =>
    rw [e] at p
    exact p
  | exc x m' =>
    rw [e] at p
    exact p
  | ok w m1 =>
    rw [e] at p
    dsimp only at p
    intro v F1 ρ1 H1 r1 g1 q1
    cases e2 : truW w m1 with
    | none =>
      rw [e2] at p
      exact p.elim
    | some k =>
      rw [e2] at p
      exact ⟨k, tru_of r1 q1 e2, p _ F1 ρ1 H1 r1 g1 rfl⟩
end
end Sm

/-! S11: things that change: places of the store, own lists; slices. -/
namespace Sm
open PySem PySem.Spec PyProof.Rows L2

section
variable {c : Cn} {F F1 : Hp} {ρ ρ1 : List Addr} {m : Sto} {H H1 : Hp}
/-- a place of the store changes -/
theorem R.setS {i : Nat} {a : Addr} {o o' : MO} {u : HO} (r : R c F ρ m H) (h : ρ[i]? = some a) (e : m[i]? = some o) (q : OR c F ρ a o' u) : R c F ρ (m.set i o') (upd H a u) ∧ Go F ρ H F ρ (upd H a u) := by
  have ha : a ∈ ρ := List.mem_of_getElem? h
  have hf := r.off a ha
  refine ⟨⟨fun b z e => ?_, by rw [List.length_set]; exact r.len, r.nd, r.off, fun j b oo h1 h2 => ?_⟩, ⟨Same.refl _, .refl _, fun b z e n => ?_, fun b z e n => ⟨n, fun z => z⟩⟩⟩
  · rw [upd_ne (fun w => by rw [w, hf] at e; cases e)]
    exact r.sub b z e
  · rcases get_set h2 with ⟨e1, e2⟩ | ⟨ne, h2⟩
    · subst e1 e2
      rw [h] at h1
      cases h1
      exact ⟨u, upd_same, q⟩
    · obtain ⟨ho, h5, h6⟩ := r.at_ j b oo h1 h2
      refine ⟨ho, ?_, h6⟩
      rw [upd_ne (fun w => ?_)]
      · exact h5
      · subst w
        exact ne ((List.getElem?_inj (by have := (List.getElem?_eq_some_iff.mp h).1; exact this) r.nd).mp (h.trans h1.symm))
  · rw [upd_ne (fun w => n (by rw [w]; exact ha))]
    exact e
/-- an object that nobody holds becomes a place of the store -/
theorem R.push {a : Addr} {o : MO} {u : HO} (r : R c F ρ m H) (hf : F a = none) (hn : a ∉ ρ) (ha : H a = some u) (q : OR c F ρ a o u) : R c F (ρ ++ [a]) (m ++ [o]) H := by
  have pre : Pre ρ (ρ ++ [a]) := fun i b h => by
    rw [List.getElem?_append_left (List.getElem?_eq_some_iff.mp h).1]
    exact h
  refine ⟨r.sub, by rw [List.length_append, List.length_append, r.len]; rfl, ?_, fun b hb => ?_, fun i b oo h1 h2 => ?_⟩
  · rw [List.nodup_append]
    refine ⟨r.nd, by simp, fun x hx y hy => ?_⟩
    have e : y = a := by simpa using hy
    rw [e]
    exact fun z => hn (by rw [← z]; exact hx)
  · rcases List.mem_append.mp hb with hb | hb
    · exact r.off b hb
    · have e : b = a := by simpa using hb
      rw [e]
      exact hf
  · by_cases hi : i < ρ.length
    · rw [List.getElem?_append_left hi] at h1
      rw [List.getElem?_append_left (by rw [← r.len]; exact hi)] at h2
      obtain ⟨ho, h5, h6⟩ := r.at_ i b oo h1 h2
      exact ⟨ho, h5, h6.mono (Same.refl _) pre⟩
    · have hi2 : i = ρ.length := by
        have := (List.getElem?_eq_some_iff.mp h1).1
        rw [List.length_append] at this
        simp at this
        omega
      subst hi2
      rw [List.getElem?_append_right (Nat.le_refl _)] at h1
      rw [List.getElem?_append_right (by rw [r.len]; exact Nat.le_refl _), r.len] at h2
      simp at h1 h2
      subst h1 h2
      exact ⟨u, ha, q.mono (Same.refl _) pre⟩
theorem Go.push {a : Addr} (g : Go F ρ H F1 ρ1 H1) (h0 : H a = none) : Go F ρ H F1 (ρ1 ++ [a]) H1 := by
  refine ⟨g.ff, fun i b h => ?_, g.keep, fun b o e n => ⟨fun w => ?_, (g.off b o e n).2⟩⟩
  · have h' := g.pre i b h
    rw [List.getElem?_append_left (List.getElem?_eq_some_iff.mp h').1]
    exact h'
  · rcases List.mem_append.mp w with w | w
    · exact (g.off b o e n).1 w
    · have e' : b = a := by simpa using w
      rw [e', h0] at e
      cases e
end

section
variable {c : Cn} {X : Cx} {Wx : WX} {e : Expr} {es : List Expr} {fo f : Fe} {g : Fas} {pos apos cpos : Pos}
/-- a new list becomes a place of the store -/
def ePush (g : Fas) : Fe := fun τ => bnd (g τ) fun ws m => .ok (.ref m.length) (m ++ [.lst ws])
theorem SN.push (h : SN c X Wx e g) : SE c X Wx e (ePush g) := PE.weak h fun σ H Q ⟨F, ρ, m, τ, r, s, p⟩ => ⟨F, ρ, m, τ, r, s, by
  unfold ePush bnd at p
  cases e : g τ m with
  | bad =>
    rw [e] at p
    exact p
  | exc x m' =>
    rw [e] at p
    exact p
  | ok ws m1 =>
    rw [e] at p
    intro a vs F1 ρ1 H1 r1 g1 h0 hf hn ha q
    refine p _ _ _ _ (r1.push hf hn ha ⟨vs, rfl, q⟩) (g1.push h0) ?_
    unfold RW
    exact ⟨a, rfl, by rw [← r1.len, List.getElem?_append_right (Nat.le_refl _)]; simp⟩⟩

/-! ### methods of a list of the store -/
def rM (c : Cn) (h : List W → List W → Option (W × List W)) : V → List V → Hp → VK → Prop := fun x vs H Q => ∃ F ρ m i a xs ws w ys, x = .ref a ∧ ρ[i]? = some a ∧ m[i]? = some (.lst xs) ∧ R c F ρ m H ∧ RWs c F ρ ws vs ∧ h xs ws = some (w, ys) ∧ OkE c F ρ H Q w (m.set i (.lst ys))
def eMt (h : List W → List W → Option (W × List W)) (fo : Fe) (g : Fas) : Fe := fun τ => bnd (fo τ) fun o m => match o with
  | .ref i => match m[i]? with
    | some (.lst _) => bnd (g τ) (fun ws m2 => match m2[i]? with
      | some (.lst xs) => (match h xs ws with
        | some (w, ys) => .ok w (m2.set i (.lst ys))
        | none => .bad)
      | _ => .bad) m
    | _ => .bad
  | _ => .bad
theorem w_mt {cl : Str → Addr} {h : List W → List W → Option (W × List W)} {σ : L2.St} {H : Hp} {Q : VK} (q : sE ⟨X.K, cl⟩ Wx (eMt h fo g) σ H Q) : tBM X.K "list" (rM ⟨X.K, cl⟩ h) (sE ⟨X.K, cl⟩ Wx fo) (sA ⟨X.K, cl⟩ Wx g) σ H Q := by
  obtain ⟨F, ρ, m, τ, r, s, p⟩ := q
  refine ⟨F, ρ, m, τ, r, s, ?_⟩
  unfold eMt bnd at p
  cases e : fo τ m with
  | bad =>
    rw [e] at p
    exact p
  | exc x m' =>
    rw [e] at p
    exact p
  | ok o m1 =>
    rw [e] at p
    dsimp only at p
    intro v F1 ρ1 H1 r1 g1 q1
    cases o with
    | ref i =>
      dsimp only at p
      unfold RW at q1
      obtain ⟨a, rfl, h1⟩ := q1
      split at p
      · rename_i xs0 h2
        obtain ⟨vs0, h3, t0⟩ := r1.lst h1 h2
        refine ⟨.inl ⟨rfl, _, .of h3⟩, F1, ρ1, m1, τ, r1, s.go g1, ?_⟩
        cases e2 : g τ m1 with
        | bad =>
          rw [e2] at p
          exact p
        | exc x m' =>
          rw [e2] at p
          exact OkX.back r1 g1 p
        | ok ws m2 =>
          rw [e2] at p
          intro vs F2 ρ2 H2 r2 g2 q2
          dsimp only at p
          split at p
          · rename_i xs h4
            split at p
            · rename_i w ys h5
              exact ⟨F2, ρ2, m2, i, a, xs, ws, w, ys, rfl, g2.pre i a h1, h4, r2, q2, h5, OkE.back (g1.trans g2) p⟩
            · exact p.elim
          · exact p.elim
      · exact p.elim
    | _ => exact p.elim
def appS : List W → List W → Option (W × List W)
  | xs, [w] => if xs.length < sizeLine then some (.non, xs ++ [w]) else none
  | _, _ => none
def popS : List W → List W → Option (W × List W)
  | xs, [] => (xs[xs.length - 1]?).map fun w => (w, xs.dropLast)
  | xs, [.int i] => if -(2 ^ 63) ≤ i ∧ i < 2 ^ 63 then (match seqIndex? i xs.length with
    | some k => (xs[k]?).map fun w => (w, xs.eraseIdx k)
    | none => none) else none
  | _, _ => none
theorem RWs.dropLast {F : Hp} {ρ : List Addr} {ws : List W} {vs : List V} (h : RWs c F ρ ws vs) : RWs c F ρ ws.dropLast vs.dropLast := by
  rw [List.dropLast_eq_take, List.dropLast_eq_take, h.length]
  exact h.take _
theorem RWs.erase {F : Hp} {ρ : List Addr} : ∀ {ws : List W} {vs : List V} (i : Nat), RWs c F ρ ws vs → RWs c F ρ (ws.eraseIdx i) (vs.eraseIdx i)
  | [], vs, _, h => by
    have e : vs = [] := h
    rw [e]
    exact .nil
  | w :: ws, vs, 0, h => by
    obtain ⟨v, r, rfl, _, t⟩ := h.inv
    exact t
  | w :: ws, vs, i + 1, h => by
    obtain ⟨v, r, rfl, h1, t⟩ := h.inv
    exact .cons h1 (RWs.erase i t)
theorem m_append : MtM X "list.append" (rM c appS) := by
  intro pins s σ H x vs v us Q I rx rv h
  obtain ⟨F, ρ, m, i, a, xs, ws, w, ys, rfl, h1, h2, r, q, e, k⟩ := h
  obtain ⟨vs0, h3, t⟩ := r.lst h1 h2
  unfold appS at e
  split at e
  · split at e
    · rename_i w0 hz
      cases e
      obtain ⟨v1, rr, rfl, q1, q2⟩ := q.inv
      have e0 : rr = [] := q2
      subst e0
      have e1 := t.append (.cons q1 .nil)
      obtain ⟨r2, g2⟩ := r.setS h1 h2 (o' := .lst (xs ++ [w0])) (u := .lst (vs0 ++ [v1])) ⟨_, rfl, e1⟩
      exact mt_append pins s σ H _ _ v us Q I rx rv ⟨a, vs0, v1, rfl, rfl, h3, by rw [t.length]; exact hz, k _ F ρ _ r2 g2 rfl⟩
    · cases e
  · cases e
theorem m_pop : MtM X "list.pop" (rM c popS) := by
  intro pins s σ H x vs v us Q I rx rv h
  obtain ⟨F, ρ, m, i, a, xs, ws, w, ys, rfl, h1, h2, r, q, e, k⟩ := h
  obtain ⟨vs0, h3, t⟩ := r.lst h1 h2
  unfold popS at e
  split at e
  · have e0 : vs = [] := q
    subst e0
    obtain ⟨w0, e1, e2⟩ := Option.map_eq_some_iff.mp e
    cases e2
    obtain ⟨v1, p1, p2⟩ := t.get e1
    obtain ⟨r2, g2⟩ := r.setS h1 h2 (o' := .lst xs.dropLast) (u := .lst vs0.dropLast) ⟨_, rfl, t.dropLast⟩
    exact mt_pop pins s σ H _ _ v us Q I rx rv ⟨a, vs0, v1, rfl, rfl, h3, by rw [t.length]; exact p1, k _ F ρ _ r2 g2 p2⟩
  · split at e
    · rename_i j hb
      split at e
      · rename_i kk hk
        obtain ⟨w0, e1, e2⟩ := Option.map_eq_some_iff.mp e
        cases e2
        obtain ⟨v1, p1, p2⟩ := t.get e1
        obtain ⟨r2, g2⟩ := r.setS h1 h2 (o' := .lst (xs.eraseIdx kk)) (u := .lst (vs0.eraseIdx kk)) ⟨_, rfl, t.erase kk⟩
        exact mt_popAt pins s σ H _ _ v us Q I rx rv ⟨a, vs0, j, kk, v1, rfl, q.ints, h3, hb.1, hb.2, by rw [t.length]; exact hk, p1, k _ F ρ _ r2 g2 p2⟩
      · cases e
    · cases e
  · cases e

variable {cl : Str → Addr} {o : Expr}
theorem s_append (ho : SE ⟨X.K, cl⟩ X Wx o fo) (ha : SA ⟨X.K, cl⟩ X Wx (e :: es) g) (hbase : attributeBase o "append" X.env (eval o X.env) = eval o X.env := by rfl)
    (hfew : ((backTo cpos (starEach (e :: es) X.env)).all (fun x => !x.1) && (backToKw cpos (keywordEach [] X.env)).all (fun x => x.1.isSome)
      && decide ((e :: es).length + ([] : List Keyword).length + (if ([] : List Keyword).isEmpty then 0 else 1) < 30)) = true := by rfl)
    (hline : (apos.endLine == cpos.line) = true := by rfl) (hs : starEach (e :: es) X.env = (false, eval e X.env) :: starEach es X.env := by rfl) (hplain : (backTo cpos (starEach es X.env)).any (·.1) = false := by rfl) :
    SE ⟨X.K, cl⟩ X Wx (.Call (.Attribute o "append" apos) (e :: es) [] cpos) (eMt appS fo g) := PE.weak (pe_bm PySem.F.plainAttrs_list PySem.F.slot_list_append PySem.F.type_list_append m_append ho ha hbase hfew hline hs hplain) fun _ _ _ q => w_mt q
theorem s_popAt (ho : SE ⟨X.K, cl⟩ X Wx o fo) (ha : SA ⟨X.K, cl⟩ X Wx (e :: es) g) (hbase : attributeBase o "pop" X.env (eval o X.env) = eval o X.env := by rfl)
    (hfew : ((backTo cpos (starEach (e :: es) X.env)).all (fun x => !x.1) && (backToKw cpos (keywordEach [] X.env)).all (fun x => x.1.isSome)
      && decide ((e :: es).length + ([] : List Keyword).length + (if ([] : List Keyword).isEmpty then 0 else 1) < 30)) = true := by rfl)
    (hline : (apos.endLine == cpos.line) = true := by rfl) (hs : starEach (e :: es) X.env = (false, eval e X.env) :: starEach es X.env := by rfl) (hplain : (backTo cpos (starEach es X.env)).any (·.1) = false := by rfl) :
    SE ⟨X.K, cl⟩ X Wx (.Call (.Attribute o "pop" apos) (e :: es) [] cpos) (eMt popS fo g) := PE.weak (pe_bm PySem.F.plainAttrs_list PySem.F.slot_list_pop PySem.F.type_list_pop m_pop ho ha hbase hfew hline hs hplain) fun _ _ _ q => w_mt q
theorem s_pop (ho : SE ⟨X.K, cl⟩ X Wx o fo) (hbase : attributeBase o "pop" X.env (eval o X.env) = eval o X.env := by rfl) (hline : (apos.endLine == cpos.line) = true := by rfl) :
    SE ⟨X.K, cl⟩ X Wx (.Call (.Attribute o "pop" apos) [] [] cpos) (eMt popS fo aNil) := PE.weak (pe_bm0 PySem.F.plainAttrs_list PySem.F.slot_list_pop PySem.F.type_list_pop m_pop ho hbase hline) fun σ H Q q => by
  obtain ⟨F, ρ, m, τ, r, s, p⟩ := w_mt q
  refine ⟨F, ρ, m, τ, r, s, ?_⟩
  cases e : fo τ m with
  | bad =>
    rw [e] at p
    exact p
  | exc x m' =>
    rw [e] at p
    exact p
  | ok w m1 =>
    rw [e] at p
    intro v F1 ρ1 H1 r1 g1 q1
    obtain ⟨h1, F2, ρ2, m2, τ2, r2, s2, p2⟩ := p v F1 ρ1 H1 r1 g1 q1
    exact ⟨h1, p2 [] F2 ρ2 H1 r2 .refl rfl⟩

theorem useG {B : Bs} {F : Hp} {ρ : List Addr} {m : Sto} {τ : SS} {σ : L2.St} {H : Hp} {f : Fe} {k : W → Sto → Res Out} {Q : VK} {D : Ends} (fr : Fr c B F ρ m τ σ H) (p : Post (okS c Wx B D) (fun _ _ => False) (exS (f τ m) τ k))
    (h : ∀ w m' v F' ρ' H', Go F ρ H F' ρ' H' → Fr c B F' ρ' m' τ σ H' → RW c F' ρ' w v → Post (okS c Wx B D) (fun _ _ => False) (k w m') → Q v H') : sE c Wx f σ H Q := by
  refine ⟨F, ρ, m, τ, fr.r, fr.s, ?_⟩
  unfold exS at p
  cases e : f τ m with
  | bad =>
    rw [e] at p
    exact p
  | exc x m' =>
    rw [e] at p
    exact Fr.ex (D := D) fr p
  | ok w m1 =>
    rw [e] at p
    exact fun v F1 ρ1 H1 r1 g1 q => h w m1 v F1 ρ1 H1 g1 (fr.go r1 g1) q p
/-! ### o[i] = v for a place of the store -/
def sSetIx (fe fo fi : Fe) : Fs := fun τ m => exS (fe τ m) τ fun w m1 => exS (fo τ m1) τ fun b m2 => exS (fi τ m2) τ fun k m3 => match b, k with
  | .ref j, .int n => (match m3[j]? with
    | some (.lst xs) => (match ixN xs.length n with
      | some q => .ok (.nx τ) (m3.set j (.lst (xs.set q w)))
      | none => .bad)
    | _ => .bad)
  | _, _ => .bad
variable {B : Bs} {i : Expr} {fi fe : Fe} {spos : Pos}
theorem x_setIx (he : SE c X Wx e fe) (ho : SE c X Wx o fo) (hi : SE c X Wx i fi) (hs : swapsWithSole [.Subscript o i apos] e pos.line X.env = pure false := by rfl) (hw : swappedStores [.Subscript o i apos] e X.env = pure none := by rfl)
    (h1 : (assignEach [.Subscript o i apos] X.env).map (·.2) = [assign (.Subscript o i apos) X.env] := by rfl)
    (ha : ∀ v, assign (.Subscript o i apos) X.env v = (do
      let ov ← holding [v] (eval o X.env)
      let iv ← holding [v, ov] (eval i X.env)
      standAt apos
      holding [v, ov, iv] (setItem ov iv v)
      release [v, ov, iv] []) := by intro _; rfl) : SX c X Wx B (.Assign [.Subscript o i apos] e pos) (sSetIx fe fo fi) :=
  PS.weak (ps_asg he (pg_sub ho hi set_list ha) hs hw h1) fun D σ H ⟨F, ρ, m, τ, fr, p⟩ => useG fr p fun w m1 v F1 ρ1 H1 g1 fr1 q1 p1 => useG fr1 p1 fun b m2 vo F2 ρ2 H2 g2 fr2 q2 p2 => useG fr2 p2 fun k m3 vi F3 ρ3 H3 g3 fr3 q3 p3 => by
    cases b with
    | ref j =>
      cases k with
      | int n =>
        dsimp only at p3
        unfold RW at q2
        obtain ⟨a, rfl, h1⟩ := q2
        have e3 : vi = .int n := q3
        subst e3
        split at p3
        · rename_i xs h2
          split at p3
          · rename_i q h4
            have h1' := g3.pre j a h1
            obtain ⟨vs, h3, t⟩ := fr3.r.lst h1' h2
            have hq := (q1.mono (g2.trans g3).ff (g2.trans g3).pre)
            obtain ⟨r2, g4⟩ := fr3.r.setS h1' h2 (o' := .lst (xs.set q w)) (u := .lst (vs.set q v)) ⟨_, rfl, t.set q hq⟩
            exact ⟨a, vs, n, q, rfl, rfl, h3, by rw [t.length]; exact h4, p3 σ F3 ρ3 _ (fr3.go r2 g4)⟩
          · exact p3.elim
        · exact p3.elim
      | _ => exact p3.elim
    | _ => cases k <;> exact p3.elim

/-! ### an own list grows -/
def sApp (i : Nat) (f : Fe) : Fs := fun τ m => match τ[i]? with
  | some (.own (.lst xs)) => exS (f τ m) τ fun w m' => if xs.length < sizeLine then .ok (.nx (τ.set i (.own (.lst (xs ++ [w]))))) m' else .bad
  | _ => .bad
theorem x_append {i : Nat} {x : Str} {np : Pos} {f : Fe} (he : SE ⟨X.K, cl⟩ X Wx e f) (hN : X.N[i]? = some x := by rfl) (hv : Vis X.env.scope x := by first | exact Or.inl rfl | exact Or.inr (Or.inl rfl) | exact Or.inr (Or.inr rfl)) (hd : (x == ("__debug__" : Str)) = false := by decide) (hcd : (x == ("__classdict__" : Str)) = false := by decide)
    (hbase : attributeBase (.Name x np) "append" X.env (eval (.Name x np) X.env) = eval (.Name x np) X.env := by rfl)
    (hfew : ((backTo cpos (starEach [e] X.env)).all (fun x => !x.1) && (backToKw cpos (keywordEach [] X.env)).all (fun x => x.1.isSome)
      && decide ([e].length + ([] : List Keyword).length + (if ([] : List Keyword).isEmpty then 0 else 1) < 30)) = true := by rfl)
    (hline : (apos.endLine == cpos.line) = true := by rfl) (hs : starEach [e] X.env = (false, eval e X.env) :: starEach [] X.env := by rfl) (hplain : (backTo cpos (starEach [] X.env)).any (·.1) = false := by rfl)
    (hsw : swapsWith (.Call (.Attribute (.Name x np) "append" apos) [e] [] cpos) none pos.line X.env = pure false := by rfl) :
    SX ⟨X.K, cl⟩ X Wx B (.Expr (.Call (.Attribute (.Name x np) "append" apos) [e] [] cpos) pos) (sApp i f) :=
  PS.weak (ps_expr (pe_bm PySem.F.plainAttrs_list PySem.F.slot_list_append PySem.F.type_list_append mt_append (pe_var hN hv hd hcd) (pa_cons he pa_nil hs) hbase hfew hline hs hplain) hsw) fun D σ H ⟨F, ρ, m, τ, fr, p⟩ => by
    unfold sApp at p
    split at p
    · rename_i xs ho
      obtain ⟨a, h, e1, e2, e3, e4, vs, rfl, t⟩ := fr.s.own i _ ho
      refine ⟨.ref a, e1, .inl ⟨rfl, _, .of e4⟩, useE fr p fun w m' v F' ρ' H' fr' r q => ?_⟩
      obtain ⟨a', h', k1, k2, k3, k4, vs', rfl, t'⟩ := fr'.s.own i _ ho
      rw [e1] at k1
      cases k1
      split at q
      · rename_i hz
        exact ⟨a, vs', v, rfl, rfl, k4, by rw [t'.length]; exact hz, q σ F' ρ' _ (fr'.upd_own ho e1 ⟨_, rfl, t'.append (.cons r .nil)⟩)⟩
      · exact q.elim
    · exact p.elim

/-! ### slices -/
abbrev Fo := SS → M (Option Int)
def sO (c : Cn) (Wx : WX) (f : Fo) : TO := fun σ H Q => ∃ F ρ m τ, R c F ρ m H ∧ RS c F ρ τ σ H ∧ Post (fun o m' => ∀ F' ρ' H', R c F' ρ' m' H' → Go F ρ H F' ρ' H' → Q o H') (OkX c F ρ H fun k d H' => Wx k d σ H') (f τ m)
abbrev SO (c : Cn) (X : Cx) (Wx : WX) (e : Option Expr) (f : Fo) : Prop := PO X e (sO c Wx f)
theorem PO.weak {X : Cx} {e : Option Expr} {t t' : TO} (h : PO X e t') (w : ∀ σ H Q, t σ H Q → t' σ H Q) : PO X e t := ⟨fun pins s σ H Q I q => h.run pins s σ H Q I (w _ _ _ q)⟩
def oNone : Fo := fun _ m => .ok none m
def oSome (f : Fe) : Fo := fun τ => bnd (f τ) fun w m => match w with
  | .int i => .ok (some i) m
  | _ => .bad
theorem o_none : SO c X Wx none oNone := PO.weak po_none fun σ H Q ⟨F, ρ, m, τ, r, s, p⟩ => p F ρ H r .refl
theorem o_some {f : Fe} (h : SE c X Wx e f) : SO c X Wx (some e) (oSome f) := PO.weak (po_some h) fun σ H Q ⟨F, ρ, m, τ, r, s, p⟩ => by
  refine ⟨F, ρ, m, τ, r, s, ?_⟩
  unfold oSome bnd at p
  cases e : f τ m with
  | bad =>
    rw [e] at p
    exact p
  | exc x m' =>
    rw [e] at p
    exact p
  | ok w m1 =>
    rw [e] at p
    dsimp only at p
    cases w with
    | int i => exact fun v F1 ρ1 H1 r1 g1 q1 => ⟨i, q1, p F1 ρ1 H1 r1 g1⟩
    | _ => exact p.elim
def cutW (xs : List W) (lo hi : Option Int) : List W := (xs.drop (HT.sIx xs.length 0 lo)).take (HT.sIx xs.length xs.length hi - HT.sIx xs.length 0 lo)
def slW : W → Option Int → Option Int → Option W
  | .tup xs, lo, hi => some (.tup (cutW xs lo hi))
  | .lst xs, lo, hi => some (.lst (cutW xs lo hi))
  | .str x, lo, hi => if x.length ≤ sizeLine then some (.str (cutS x lo hi)) else none
  | _, _, _ => none
def eSl (f : Fe) (fl fh : Fo) : Fe := fun τ => bnd (f τ) fun w => bnd (fl τ) fun lo => bnd (fh τ) fun hi m => lift (slW w lo hi) m
def rSl (c : Cn) : V → Option Int → Option Int → Hp → VK → Prop := fun x lo hi H Q => ∃ F ρ m w0 w, R c F ρ m H ∧ RB c F ρ H w0 x ∧ slW w0 lo hi = some w ∧ OkE c F ρ H Q w m
theorem RWs.cut {F : Hp} {ρ : List Addr} {ws : List W} {vs : List V} (h : RWs c F ρ ws vs) (lo hi : Option Int) : RWs c F ρ (cutW ws lo hi) (cutV vs lo hi) := by
  unfold cutW cutV
  rw [h.length]
  exact (h.drop _).take _
theorem sl_ok : SlR X (rSl ⟨X.K, cl⟩) := by
  intro pins s σ H x v vl vu lo hi sl Q I rx hs pl pu h
  obtain ⟨F, ρ, m, w0, w, r, q, e, k⟩ := h
  unfold slW at e
  split at e
  · rename_i xs
    have q0 := q.scal fun o e => by cases o <;> cases e
    obtain ⟨a, vs, rfl, h1, t⟩ := q.tup r
    cases e
    refine sl_tupA pins s σ H _ v vl vu lo hi sl Q I rx hs pl pu ⟨a, vs, rfl, h1, fun hw => k _ F ρ H r .refl ?_, fun _ p n => k.newT r (t.cut lo hi) p n⟩
    have e : cutW xs lo hi = xs := by
      unfold cutW
      rw [t.length] at hw
      rw [hw.1, hw.2]
      simp
    rw [e]
    exact q0
  · obtain ⟨a, vs, rfl, h1, t⟩ := q.lst r
    cases e
    exact sl_list pins s σ H _ v vl vu _ _ sl Q I rx hs pl pu ⟨a, vs, rfl, .inl h1, fun p n => k.newL r (t.cut _ _) p n⟩
  · split at e
    · rename_i hz
      cases e
      exact sl_str pins s σ H x v vl vu _ _ sl Q I rx hs pl pu ⟨_, q.str, hz, k _ F ρ H r .refl rfl⟩
    · cases e
  · cases e
theorem s_slice {lo hi : Option Expr} {f : Fe} {fl fh : Fo} {p2 : Pos} (he : SR ⟨X.K, cl⟩ X Wx e f) (hl : SO ⟨X.K, cl⟩ X Wx lo fl) (hh : SO ⟨X.K, cl⟩ X Wx hi fh) : SE ⟨X.K, cl⟩ X Wx (.Subscript e (.Slice lo hi none p2) pos) (eSl f fl fh) := PE.weak (pe_slice sl_ok he hl hh) fun σ H Q ⟨F, ρ, m, τ, r, s, p⟩ => by
  refine ⟨F, ρ, m, τ, r, s, ?_⟩
  unfold eSl bnd at p
  cases e : f τ m with
  | bad =>
    rw [e] at p
    exact p
  | exc x m' =>
    rw [e] at p
    exact p
  | ok w m1 =>
    rw [e] at p
    dsimp only at p
    intro v F1 ρ1 H1 r1 g1 q1
    refine ⟨F1, ρ1, m1, τ, r1, s.go g1, ?_⟩
    cases e2 : fl τ m1 with
    | bad =>
      rw [e2] at p
      exact p
    | exc x m' =>
      rw [e2] at p
      exact OkX.back r1 g1 p
    | ok lo m2 =>
      rw [e2] at p
      intro F2 ρ2 H2 r2 g2
      refine ⟨F2, ρ2, m2, τ, r2, (s.go g1).go g2, ?_⟩
      dsimp only at p
      cases e3 : fh τ m2 with
      | bad =>
        rw [e3] at p
        exact p
      | exc x m' =>
        rw [e3] at p
        exact OkX.back r2 (g1.trans g2) p
      | ok hi m3 =>
        rw [e3] at p
        intro F3 ρ3 H3 r3 g3
        dsimp only at p
        cases e4 : slW w lo hi with
        | none =>
          rw [e4] at p
          exact p.elim
        | some w' =>
          rw [e4] at p
          exact ⟨F3, ρ3, m3, w, w', r3, (q1.go g2).go g3, e4, OkE.back (g1.trans (g2.trans g3)) p⟩
/-- xs[::-1] of a list: a new one -/
def nRev (f : Fe) : Fas := fun τ => bnd (f τ) fun w m => match w with
  | .lst xs => .ok xs.reverse m
  | _ => .bad
theorem n_rev {k : Nat} {f : Fe} {p1 p2 p3 : Pos} (he : SR ⟨X.K, cl⟩ X Wx e f) : SN ⟨X.K, cl⟩ X Wx (.Subscript e (.Slice none none (some (.UnaryOp .USub (.Constant (.int 1) k p1) p2)) p3) pos) (nRev f) := PE.weak (pe_revL he) fun σ H Q ⟨F, ρ, m, τ, r, s, p⟩ => by
  refine ⟨F, ρ, m, τ, r, s, ?_⟩
  unfold nRev bnd at p
  cases e : f τ m with
  | bad =>
    rw [e] at p
    exact p
  | exc x m' =>
    rw [e] at p
    exact p
  | ok w m1 =>
    rw [e] at p
    dsimp only at p
    intro v F1 ρ1 H1 r1 g1 q1
    cases w with
    | lst xs =>
      obtain ⟨a, vs, rfl, h1, t⟩ := q1.lst r1
      exact ⟨a, vs, rfl, .inl h1, fun p' n => OkN.fresh p r1 g1 t.reverse p' n⟩
    | _ => exact p.elim
end
end Sm

/-! S12: short forms; chains; several targets. -/
namespace Sm
open PySem PySem.Spec PyProof.Rows L2

section
variable {cl : Str → Addr} {X : Cx} {Wx : WX} {e e2 : Expr} {es : List Expr} {f : Fe} {g : Fas} {p pos : Pos} {c : Cn}
theorem s_len (ha : SR ⟨X.K, cl⟩ X Wx e f) (hm : X.mg "len" = none) (hg : Gl X "len" := by rfl) (he : starEach [e] X.env = (false, eval e X.env) :: starEach [] X.env := by rfl) (hpl : (backTo pos (starEach [] X.env)).any (·.1) = false := by rfl) :
    SE ⟨X.K, cl⟩ X Wx (.Call (.Name "len" p) [e] [] pos) (eBlt lenW (aCons f aNil)) := s_blt c_len (ar_cons ha ar_nil he) hm PySem.boot_len hg (by decide) (by decide) he hpl
theorem s_abs (ha : SR c X Wx e f) (hm : X.mg "abs" = none) (hg : Gl X "abs" := by rfl) (he : starEach [e] X.env = (false, eval e X.env) :: starEach [] X.env := by rfl) (hpl : (backTo pos (starEach [] X.env)).any (·.1) = false := by rfl) :
    SE c X Wx (.Call (.Name "abs" p) [e] [] pos) (eBlt absW (aCons f aNil)) := s_blt c_abs (ar_cons ha ar_nil he) hm (by decide +kernel) hg (by decide) (by decide) he hpl
theorem s_int' (ha : SR c X Wx e f) (hm : X.mg "int" = none) (hg : Gl X "int" := by rfl) (he : starEach [e] X.env = (false, eval e X.env) :: starEach [] X.env := by rfl) (hpl : (backTo pos (starEach [] X.env)).any (·.1) = false := by rfl) :
    SE c X Wx (.Call (.Name "int" p) [e] [] pos) (eBlt intW (aCons f aNil)) := s_blty c_int (ar_cons ha ar_nil he) hm (by decide +kernel) hg (by decide) (by decide) he hpl
theorem s_tuple' (ha : SR ⟨X.K, cl⟩ X Wx e f) (hm : X.mg "tuple" = none) (hg : Gl X "tuple" := by rfl) (he : starEach [e] X.env = (false, eval e X.env) :: starEach [] X.env := by rfl) (hpl : (backTo pos (starEach [] X.env)).any (·.1) = false := by rfl) :
    SE ⟨X.K, cl⟩ X Wx (.Call (.Name "tuple" p) [e] [] pos) (eBlt tupleW (aCons f aNil)) := s_blty c_tuple (ar_cons ha ar_nil he) hm (by decide +kernel) hg (by decide) (by decide) he hpl
theorem s_max2 {f2 : Fe} (hc : X.calm = true) (ha : SR c X Wx e f) (hb : SR c X Wx e2 f2) (hm : X.mg "max" = none) (hg : Gl X "max" := by rfl) (he : starEach [e, e2] X.env = (false, eval e X.env) :: starEach [e2] X.env := by rfl) (he2 : starEach [e2] X.env = (false, eval e2 X.env) :: starEach [] X.env := by rfl) (hpl : (backTo pos (starEach [e2] X.env)).any (·.1) = false := by rfl) :
    SE c X Wx (.Call (.Name "max" p) [e, e2] [] pos) (eBlt max2W (aCons f (aCons f2 aNil))) := s_blt (c_max2 hc) (ar_cons ha (ar_cons hb ar_nil he2) he) hm (by decide +kernel) hg (by decide) (by decide) he hpl
theorem s_min2 {f2 : Fe} (hc : X.calm = true) (ha : SR c X Wx e f) (hb : SR c X Wx e2 f2) (hm : X.mg "min" = none) (hg : Gl X "min" := by rfl) (he : starEach [e, e2] X.env = (false, eval e X.env) :: starEach [e2] X.env := by rfl) (he2 : starEach [e2] X.env = (false, eval e2 X.env) :: starEach [] X.env := by rfl) (hpl : (backTo pos (starEach [e2] X.env)).any (·.1) = false := by rfl) :
    SE c X Wx (.Call (.Name "min" p) [e, e2] [] pos) (eBlt min2W (aCons f (aCons f2 aNil))) := s_blt (c_min2 hc) (ar_cons ha (ar_cons hb ar_nil he2) he) hm (by decide +kernel) hg (by decide) (by decide) he hpl

/-! ### a op b op c -/
variable {a b d : Expr} {fa fb fd : Fe}
def eChain (g1 g2 : W → W → Sto → Option W) (fa fb fd : Fe) : Fe := fun τ => bnd (fa τ) fun x => bnd (fb τ) fun y m => match g1 x y m with
  | some (.bl k) => if k = true then bnd (fd τ) (fun z m2 => lift (g2 y z m2) m2) m else .ok (.bl false) m
  | _ => .bad
theorem w_chain {g1 g2 : W → W → Sto → Option W} {σ : L2.St} {H : Hp} {Q : VK} (h : sE c Wx (eChain g1 g2 fa fb fd) σ H Q) : tChain (rS c g1) (rS c g2) (sW c Wx fa) (sW c Wx fb) (sW c Wx fd) σ H Q := by
  obtain ⟨F, ρ, m, τ, r, s, p⟩ := h
  refine ⟨F, ρ, m, τ, r, s, ?_⟩
  unfold eChain bnd at p
  cases e : fa τ m with
  | bad =>
    rw [e] at p
    exact p
  | exc x m' =>
    rw [e] at p
    exact p
  | ok w1 m1 =>
    rw [e] at p
    intro v1 F1 ρ1 H1 r1 g1' q1
    refine ⟨F1, ρ1, m1, τ, r1, s.go g1', ?_⟩
    dsimp only at p
    cases e2 : fb τ m1 with
    | bad =>
      rw [e2] at p
      exact p
    | exc x m' =>
      rw [e2] at p
      exact OkX.back r1 g1' p
    | ok w2 m2 =>
      rw [e2] at p
      intro v2 F2 ρ2 H2 r2 g2' q2
      dsimp only at p
      cases e3 : g1 w1 w2 m2 with
      | none =>
        rw [e3] at p
        exact p.elim
      | some w =>
        rw [e3] at p
        refine ⟨F2, ρ2, m2, w1, w2, w, r2, q1.go g2', q2, e3, fun v F3 ρ3 H3 r3 g3 q3 => ?_⟩
        cases w with
        | bl k =>
          refine ⟨k, q3, ?_⟩
          dsimp only at p
          have gA := (g1'.trans g2').trans g3
          cases k with
          | false =>
            rw [if_neg Bool.false_ne_true] at p ⊢
            exact p _ F3 ρ3 H3 r3 gA rfl
          | true =>
            rw [if_pos rfl] at p ⊢
            refine ⟨F3, ρ3, m2, τ, r3, s.go gA, ?_⟩
            cases e4 : fd τ m2 with
            | bad =>
              rw [e4] at p
              exact p
            | exc x m' =>
              rw [e4] at p
              exact OkX.back r3 gA p
            | ok w3 m3 =>
              rw [e4] at p
              intro v4 F4 ρ4 H4 r4 g4 q4
              dsimp only at p
              cases e5 : g2 w2 w3 m3 with
              | none =>
                rw [e5] at p
                exact p.elim
              | some w' =>
                rw [e5] at p
                exact ⟨F4, ρ4, m3, w2, w3, w', r4, (q2.go g3).go g4, q4, e5, OkE.back (gA.trans g4) p⟩
        | _ => exact p.elim
theorem s_chain {op op' : CmpOp} {g1 g2 : W → W → Sto → Option W} (ho : OpR X (compareOp op) (rS c g1)) (ho' : OpR X (compareOp op') (rS c g2)) (ha : SR c X Wx a fa) (hb : SR c X Wx b fb) (hd : SR c X Wx d fd) (hm : lastMarks [op, op'] [b, d] = false := by with_unfolding_all rfl) :
    SE c X Wx (.Compare a [op, op'] [b, d] pos) (eChain g1 g2 fa fb fd) := PE.weak (pe_chain ho ho' ha hb hd hm) fun _ _ _ h => w_chain h
theorem t_chain {op op' : CmpOp} {g1 g2 : W → W → Sto → Option W} (ho : OpR X (compareOp op) (rS c g1)) (ho' : OpR X (compareOp op') (rS c g2)) (ha : SR c X Wx a fa) (hb : SR c X Wx b fb) (hd : SR c X Wx d fd) (hm : lastMarks [op, op'] [b, d] = false := by with_unfolding_all rfl) :
    ST c X Wx (.Compare a [op, op'] [b, d] pos) (tBl (eChain g1 g2 fa fb fd)) := by
  refine PT.weak (pt_chain ho ho' ha hb hd hm) fun σ H Q ⟨F, ρ, m, τ, r, s, p⟩ => ?_
  refine w_chain (Wx := Wx) (Q := fun x H' => ∃ k, x = V.bl k ∧ Q k H') ⟨F, ρ, m, τ, r, s, ?_⟩
  unfold tBl bnd at p
  cases e : eChain g1 g2 fa fb fd τ m with
  | bad =>
    rw [e] at p
    exact p
  | exc x m' =>
    rw [e] at p
    exact p
  | ok w m1 =>
    rw [e] at p
    dsimp only at p
    cases w with
    | bl k => exact fun v F1 ρ1 H1 r1 g1 q1 => ⟨k, q1, p F1 ρ1 H1 r1 g1⟩
    | _ => exact p.elim

/-! ### several targets -/
variable {B : Bs} {tg : Expr} {is : List Nat} {bd : Bd}
def sUnp (bd : Bd) (f : Fe) : Fs := fun τ m => exS (f τ m) τ fun w m' => match bd w τ with
  | some τ' => .ok (.nx τ') m'
  | none => .bad
theorem Fr.sta {F : Hp} {ρ : List Addr} {m : Sto} {τ τ' : SS} {σ σ' : L2.St} {H : Hp} (x : Fr c B F ρ m τ σ H) (s : RS c F ρ τ' σ' H) (k : Sta is τ τ' σ σ') : Fr c B F ρ m τ' σ' H :=
  ⟨x.r, s, x.g, fun j o a h1 h2 => by
    obtain ⟨h3, h4⟩ := k.1 j o h1
    rw [h4] at h2
    exact x.fresh j o a h3 h2, fun o a e h1 => by
    obtain ⟨h3, h4⟩ := k.1 0 o h1
    rw [h4]
    exact x.slf o a e h3⟩
theorem x_unp (he : SE c X Wx e f) (hg : SG c X tg is bd) (hs : swapsWithSole [tg] e pos.line X.env = pure false := by rfl) (hw : swappedStores [tg] e X.env = pure none := by rfl) (h1 : (assignEach [tg] X.env).map (·.2) = [assign tg X.env] := by rfl) : SX c X Wx B (.Assign [tg] e pos) (sUnp bd f) :=
  PS.weak (ps_asg he hg hs hw h1) fun D σ H ⟨F, ρ, m, τ, fr, p⟩ => useE fr p fun w m' v F' ρ' H' fr' r q => by
    cases e : bd w τ with
    | none =>
      rw [e] at q
      exact q.elim
    | some τ' =>
      rw [e] at q
      exact ⟨F', ρ', m', τ, w, τ', fr'.r, fr'.s, r, e, fun σ' s' k => q σ' F' ρ' H' (fr'.sta s' k)⟩
/-- a, b = x, y -/
def sPar (i j : Nat) (g : Fas) : Fs := fun τ m => exS (g τ m) τ fun ws m' => match ws with
  | [u, v] => .ok (.nx ((τ.set i (.val u)).set j (.val v))) m'
  | _ => .bad
theorem x_par {i j : Nat} {x y : Str} {px py pt pt2 : Pos} {kt k2} {es : List Expr} {a b : Expr} (hc : X.calm = true) (hN : X.N.Nodup) (hij : i ≠ j) (ha : SA c X Wx [a, b] g) (hi : X.N[i]? = some x := by rfl) (hj : X.N[j]? = some y := by rfl) (hx : X.env.scope.names.lookup x = some .local := by rfl) (hy : X.env.scope.names.lookup y = some .local := by rfl)
    (hw : swappedStores [.Tuple [.Name x px, .Name y py] kt pt] (.Tuple [a, b] k2 pt2) X.env = pure (some [x, y]) := by rfl) (hs : swapsWithSole [.Tuple [.Name x px, .Name y py] kt pt] (.Tuple [a, b] k2 pt2) pos.line X.env = pure false := by rfl) :
    SX c X Wx B (.Assign [.Tuple [.Name x px, .Name y py] kt pt] (.Tuple [a, b] k2 pt2) pos) (sPar i j g) :=
  PS.weak (ps_par hc hN hi hj hij hx hy ha hw hs) fun D σ H ⟨F, ρ, m, τ, fr, p⟩ => useA fr p fun ws m' vs F' ρ' H' fr' r q => by
    match ws, q, r with
    | [u, v], q, r =>
      obtain ⟨v1, r1, rfl, h1, t⟩ := r.inv
      obtain ⟨v2, r2, rfl, h2, t2⟩ := t.inv
      have e : r2 = [] := t2
      subst e
      exact ⟨v1, v2, rfl, q _ _ _ _ ((fr'.setv h1).setv h2)⟩
    | [], q, _ => exact q.elim
    | [_], q, _ => exact q.elim
    | _ :: _ :: _ :: _, q, _ => exact q.elim
end
end Sm

/-! S13: small further operators. -/
namespace Sm
open PySem PySem.Spec PyProof.Rows L2
def negW : W → Sto → Option W
  | .int i, _ => some (.int (-i))
  | _, _ => none
theorem u_neg {c : Cn} {X : Cx} : UnR X (unaryOp .USub) (rS1 c negW) := by
  intro pins s σ H x v Q I rx h
  obtain ⟨F, ρ, m, w1, w, r, q1, e, k⟩ := h
  unfold negW at e
  split at e
  · cases e
    exact un_neg pins s σ H x v Q I rx ⟨_, q1.int, k _ F ρ H r .refl rfl⟩
  · cases e
/-- behind f slot i is frozen -/
def sSeqF (i : Nat) (f : Fs) : Fs := fun τ m => match f τ m with
  | .ok (.nx τ') m' => (match τ'[i]? with
    | some (.own o) => if frzb o then .ok (.nx (τ'.set i (.val (toW o)))) m' else .bad
    | _ => .ok (.nx τ') m')
  | r => r
theorem x_seqF {c : Cn} {X : Cx} {Wx : WX} {B : Bs} {i : Nat} {st : Stmt} {f : Fs} (h : SX c X Wx B st f) : SX c X Wx B st (sSeqF i f) := PS.weak h fun D σ H ⟨F, ρ, m, τ, fr, p⟩ => by
  refine ⟨F, ρ, m, τ, fr, ?_⟩
  unfold sSeqF at p
  cases e : f τ m with
  | bad =>
    rw [e] at p
    exact p
  | exc _ _ =>
    rw [e] at p
    exact p
  | ok o m' =>
    rw [e] at p
    cases o with
    | nx τ' =>
      dsimp only at p
      intro σ' F' ρ' H' fr'
      split at p
      · rename_i o' e2
        split at p
        · rename_i hz
          obtain ⟨F2, fr2⟩ := fr'.freeze hz e2
          exact p σ' F2 ρ' H' fr2
        · exact p.elim
      · exact p σ' F' ρ' H' fr'
    | rt _ => exact p
    | bk _ => exact p
    | ct _ => exact p
    | ex _ _ => exact p
/-- the module's names that the program does not bind -/
def NoG (mg : Str → Option Value) (L : List Str) : Prop := ∀ x ∈ L, mg x = none
theorem NoG.at {mg : Str → Option Value} {L : List Str} (h : NoG mg L) (i : Nat) {x : Str} (e : L[i]? = some x := by rfl) : mg x = none := h x (List.mem_of_getElem? e)
end Sm

/-! S14: instances: attributes, __init__, making. -/
namespace Sm
open PySem PySem.Spec PyProof.Rows L2

def lookA (f : Str) : List Str → List W → Option W
  | n :: ns, w :: ws => if f = n then some w else lookA f ns ws
  | _, _ => none
def putA (f : Str) (w : W) : List Str → List W → List Str × List W
  | n :: ns, x :: ws => if n = f then (n :: ns, w :: ws) else (n :: (putA f w ns ws).1, x :: (putA f w ns ws).2)
  | _, _ => ([f], [w])
section
variable {c : Cn} {F : Hp} {ρ : List Addr}
theorem lookA_ok {f : Str} {w : W} : ∀ {gs : List (Str × V)} {ws : List W}, RWs c F ρ ws (gs.map (·.2)) → lookA f (gs.map (·.1)) ws = some w → ∃ v, gs.lookup f = some v ∧ RW c F ρ w v
  | [], ws, _, e => by
    cases ws <;> cases e
  | (n, x) :: gs, ws, h, e => by
    cases ws with
    | nil => cases e
    | cons u ws =>
      obtain ⟨v, r, e1, h1, t⟩ := h.inv
      have e2 : x = v ∧ gs.map (·.2) = r := by simpa using e1
      obtain ⟨rfl, rfl⟩ := e2
      have e' : (if f = n then some u else lookA f (gs.map (·.1)) ws) = some w := e
      by_cases hf : f = n
      · rw [if_pos hf] at e'
        cases e'
        exact ⟨x, by rw [lookup_put, if_pos hf], h1⟩
      · rw [if_neg hf] at e'
        obtain ⟨v, q1, q2⟩ := lookA_ok t e'
        exact ⟨v, by rw [lookup_put, if_neg hf]; exact q1, q2⟩
theorem putA_ok {f : Str} {w : W} {v : V} (hw : RW c F ρ w v) : ∀ {gs : List (Str × V)} {ws : List W}, RWs c F ρ ws (gs.map (·.2)) → (putF f v gs).map (·.1) = (putA f w (gs.map (·.1)) ws).1 ∧ RWs c F ρ (putA f w (gs.map (·.1)) ws).2 ((putF f v gs).map (·.2))
  | [], ws, h => by
    cases ws with
    | nil => exact ⟨rfl, .cons hw .nil⟩
    | cons u ws =>
      obtain ⟨_, _, e, _⟩ := h.inv
      cases e
  | (n, x) :: gs, ws, h => by
    cases ws with
    | nil =>
      have e : _ = [] := h
      cases e
    | cons u ws =>
      obtain ⟨y, r, e1, h1, t⟩ := h.inv
      have e2 : x = y ∧ gs.map (·.2) = r := by simpa using e1
      obtain ⟨rfl, rfl⟩ := e2
      show (List.map (·.1) (if n = f then (n, v) :: gs else (n, x) :: putF f v gs)) = (if n = f then (n :: gs.map (·.1), w :: ws) else (n :: (putA f w (gs.map (·.1)) ws).1, u :: (putA f w (gs.map (·.1)) ws).2)).1 ∧
        RWs c F ρ (if n = f then (n :: gs.map (·.1), w :: ws) else (n :: (putA f w (gs.map (·.1)) ws).1, u :: (putA f w (gs.map (·.1)) ws).2)).2 (List.map (·.2) (if n = f then (n, v) :: gs else (n, x) :: putF f v gs))
      by_cases hf : n = f
      · rw [if_pos hf, if_pos hf]
        exact ⟨rfl, .cons hw t⟩
      · rw [if_neg hf, if_neg hf]
        obtain ⟨q1, q2⟩ := putA_ok hw t
        exact ⟨by rw [List.map_cons, q1], .cons h1 q2⟩
end
theorem offN_look {f : Str} (hf : f ≠ ("nodes" : Str)) : ∀ gs : List (Str × V), (offN gs).lookup f = gs.lookup f
  | [] => rfl
  | (n, x) :: gs => by
    show ((if n = ("nodes" : Str) then (n, V.non) else (n, x)) :: offN gs).lookup f = _
    by_cases hn : n = ("nodes" : Str)
    · rw [if_pos hn, lookup_put, lookup_put, if_neg (fun e => hf (e.trans hn)), if_neg (fun e => hf (e.trans hn)), offN_look hf gs]
    · rw [if_neg hn, lookup_put, lookup_put, offN_look hf gs]
theorem offN_put {f : Str} {v : V} (hf : f ≠ ("nodes" : Str)) : ∀ gs : List (Str × V), offN (putF f v gs) = putF f v (offN gs)
  | [] => by
    show [if f = ("nodes" : Str) then (f, V.non) else (f, v)] = [(f, v)]
    rw [if_neg hf]
  | (n, x) :: gs => by
    show offN (if n = f then (n, v) :: gs else (n, x) :: putF f v gs) = putF f v ((if n = ("nodes" : Str) then (n, V.non) else (n, x)) :: offN gs)
    by_cases hn : n = ("nodes" : Str)
    · have ne : n ≠ f := fun e => hf (e.symm.trans hn)
      rw [if_neg ne, if_pos hn]
      show (if n = ("nodes" : Str) then (n, V.non) else (n, x)) :: offN (putF f v gs) = if n = f then (n, v) :: offN gs else (n, V.non) :: putF f v (offN gs)
      rw [if_pos hn, if_neg ne, offN_put hf gs]
    · rw [if_neg hn]
      show _ = if n = f then (n, v) :: offN gs else (n, x) :: putF f v (offN gs)
      by_cases he : n = f
      · rw [if_pos he, if_pos he]
        show (if n = ("nodes" : Str) then (n, V.non) else (n, v)) :: offN gs = _
        rw [if_neg hn]
      · rw [if_neg he, if_neg he]
        show (if n = ("nodes" : Str) then (n, V.non) else (n, x)) :: offN (putF f v gs) = _
        rw [if_neg hn, offN_put hf gs]
theorem offN_keys (gs : List (Str × V)) : (offN gs).map (·.1) = gs.map (·.1) := by
  induction gs with
  | nil => rfl
  | cons p gs ih =>
    show (if p.1 = ("nodes" : Str) then (p.1, V.non) else p).1 :: (offN gs).map (·.1) = _
    rw [ih]
    split <;> rfl

/-! ### what is told of the classes -/
/-- the classes by their names, with the attributes that their instances may have -/
abbrev Ats := List (Str × List Str)
def AtOk (K : PySem.W.Frag) (cl : Str → Addr) (At : Ats) : Prop := ∀ p ∈ At, Cls K (cl p.1) ∧ ∀ f ∈ p.2, NoAttr K (cl p.1) f
def hasA (At : Ats) (C f : Str) : Bool := At.any fun p => p.1 == C && p.2.contains f
theorem hasA_ok {K : PySem.W.Frag} {cl : Str → Addr} {At : Ats} {C f : Str} (h : AtOk K cl At) (e : hasA At C f = true) : Cls K (cl C) ∧ NoAttr K (cl C) f := by
  obtain ⟨p, h1, h2⟩ := List.any_eq_true.mp e
  obtain ⟨h3, h4⟩ := Bool.and_eq_true_iff.mp h2
  have h5 : p.1 = C := by simpa using h3
  have h6 : f ∈ p.2 := by simpa using h4
  subst h5
  exact ⟨(h p h1).1, (h p h1).2 f h6⟩

/-! ### the nodes of a tree -/
mutual
def nodesT : W → List W
  | .tree C ns vs kids => .tree C ns vs kids :: nodesL kids
  | _ => []
def nodesL : List W → List W
  | [] => []
  | k :: ks => nodesT k ++ nodesL ks
end
theorem NRs.all {c : Cn} {F : Hp} {ρ : List Addr} : ∀ {ks : List W} {r : List V}, NRs c F ρ ks r → RWs c F ρ (nodesL ks) r
  | [], r, h => by
    have e : r = [] := by unfold NRs at h; exact h
    rw [e]
    unfold nodesL
    exact .nil
  | .tree C ns vs kids :: ks, r, h => by
    unfold NRs at h
    obtain ⟨v, r1, r2, rfl, q, t1, t2⟩ := h
    unfold nodesL nodesT
    exact .cons q ((NRs.all t1).append (NRs.all t2))
  | .non :: _, _, h => by unfold NRs at h; exact h.elim
  | .bl _ :: _, _, h => by unfold NRs at h; exact h.elim
  | .int _ :: _, _, h => by unfold NRs at h; exact h.elim
  | .str _ :: _, _, h => by unfold NRs at h; exact h.elim
  | .tup _ :: _, _, h => by unfold NRs at h; exact h.elim
  | .lst _ :: _, _, h => by unfold NRs at h; exact h.elim
  | .dct _ _ :: _, _, h => by unfold NRs at h; exact h.elim
  | .obj _ _ _ :: _, _, h => by unfold NRs at h; exact h.elim
  | .ref _ :: _, _, h => by unfold NRs at h; exact h.elim
  | .ty _ :: _, _, h => by unfold NRs at h; exact h.elim
  | .cls _ :: _, _, h => by unfold NRs at h; exact h.elim
  | .exc _ _ _ :: _, _, h => by unfold NRs at h; exact h.elim

/-! ### e.f -/
def fldW (At : Ats) (f : Str) : W → Sto → Option W
  | .obj C ns vs, _ => if hasA At C f then lookA f ns vs else none
  | .tree C ns vs kids, _ => if hasA At C f then (if f = ("nodes" : Str) then some (.tup (.tree C ns vs kids :: nodesL kids)) else lookA f ns vs) else none
  | .ref i, m => match m[i]? with
    | some (.ins C ns vs) => if hasA At C f then lookA f ns vs else none
    | _ => none
  | _, _ => none
theorem fldW_ok {c : Cn} {F : Hp} {ρ : List Addr} {m : Sto} {H : Hp} {At : Ats} {f : Str} {w w1 : W} {x : V} (hA : AtOk c.K c.cl At) (r : R c F ρ m H) (q : RB c F ρ H w1 x) (e : fldW At f w1 m = some w) (own : ∀ a h o, x = V.ref a → H a = some h → F a = none → OR c F ρ a o h → w1 = toW o → f ≠ ("nodes" : Str)) :
    ∃ a C dx gs v, x = V.ref a ∧ H a = some (.ins C dx gs) ∧ Cls c.K C ∧ NoAttr c.K C f ∧ gs.lookup f = some v ∧ RW c F ρ w v := by
  have ins : ∀ {C : Str} {a dx : Addr} {gs : List (Str × V)} {vs : List W}, x = V.ref a → H a = some (.ins (c.cl C) dx gs) → RWs c F ρ vs (gs.map (·.2)) → (if hasA At C f then lookA f (gs.map (·.1)) vs else none) = some w →
      ∃ a C dx gs v, x = V.ref a ∧ H a = some (.ins C dx gs) ∧ Cls c.K C ∧ NoAttr c.K C f ∧ gs.lookup f = some v ∧ RW c F ρ w v := fun {C a dx gs vs} ex h1 h2 h3 => by
    split at h3
    · rename_i hh
      obtain ⟨k1, k2⟩ := hasA_ok hA hh
      obtain ⟨v, l1, l2⟩ := lookA_ok h2 h3
      exact ⟨a, _, dx, gs, v, ex, h1, k1, k2, l1, l2⟩
    · cases h3
  have tre : ∀ {C : Str} {a dx t : Addr} {gs : List (Str × V)} {rr : List V} {vs kids : List W}, x = V.ref a → H a = some (.ins (c.cl C) dx gs) → RWs c F ρ vs ((offN gs).map (·.2)) → gs.lookup ("nodes" : Str) = some (.ref t) → (f = ("nodes" : Str) → RW c F ρ (.tup (.tree C (gs.map (·.1)) vs kids :: nodesL kids)) (.ref t)) →
      (if hasA At C f then (if f = ("nodes" : Str) then some (.tup (.tree C (gs.map (·.1)) vs kids :: nodesL kids)) else lookA f (gs.map (·.1)) vs) else none) = some w →
      ∃ a C dx gs v, x = V.ref a ∧ H a = some (.ins C dx gs) ∧ Cls c.K C ∧ NoAttr c.K C f ∧ gs.lookup f = some v ∧ RW c F ρ w v := fun {C a dx t gs rr vs kids} ex h1 h2 hl ht h3 => by
    split at h3
    · rename_i hh
      obtain ⟨k1, k2⟩ := hasA_ok hA hh
      split at h3
      · rename_i hf
        cases h3
        exact ⟨a, _, dx, gs, _, ex, h1, k1, k2, by rw [hf]; exact hl, ht hf⟩
      · rename_i hf
        rw [← offN_keys gs] at h3
        obtain ⟨v, l1, l2⟩ := lookA_ok h2 h3
        exact ⟨a, _, dx, gs, v, ex, h1, k1, k2, by rw [← offN_look hf gs]; exact l1, l2⟩
    · cases h3
  rcases q with q | ⟨a, h, o, rfl, rfl, h3, h4, h5, h6⟩
  · unfold fldW at e
    split at e
    · unfold RW at q
      obtain ⟨a, dx, gs, rfl, h1, rfl, h2⟩ := q
      exact ins rfl (r.sub _ _ h1) h2 e
    · have q0 := q
      unfold RW at q
      obtain ⟨a, dx, gs, t, rr, rfl, h1, hn, h2, hl, hs, hk⟩ := q
      rw [offN_keys] at hn
      subst hn
      refine tre (rr := rr) rfl (r.sub _ _ h1) h2 hl (fun _ => ?_) e
      unfold RW
      exact ⟨t, _, rfl, hs, .cons q0 (NRs.all hk)⟩
    · rename_i i
      obtain ⟨a, rfl, h1⟩ : ∃ a, x = .ref a ∧ ρ[i]? = some a := by unfold RW at q; exact q
      split at e
      · rename_i C ns vs hm
        obtain ⟨h, k1, dx, gs, rfl, rfl, h2⟩ := r.at_ i a _ h1 hm
        exact ins rfl k1 h2 e
      · cases e
    · cases e
  · cases o with
    | ins C ns vs =>
      obtain ⟨dx, gs, rfl, rfl, h2⟩ := h6
      exact ins rfl h3 h2 e
    | tin C ns vs kids =>
      have nf := own a h _ rfl h3 h5 h6 rfl
      obtain ⟨dx, gs, t, rr, rfl, hn, h2, hl, hs, hk⟩ := h6
      rw [offN_keys] at hn
      subst hn
      exact tre (rr := rr) rfl h3 h2 hl (fun hf => absurd hf nf) e
    | lst xs => cases e
    | dK _ _ => cases e
    | dT _ _ => cases e

theorem RW_frz {c : Cn} {F : Hp} {ρ : List Addr} {o : MO} {a : Addr} (h : RW c F ρ (toW o) (.ref a)) : F a ≠ none := by
  intro n
  cases o with
  | lst xs =>
    unfold toW RW at h
    obtain ⟨b, vs, e, h1, _⟩ := h
    cases e
    rcases h1 with h1 | ⟨_, h1⟩ <;> rw [n] at h1 <;> cases h1
  | dK _ _ =>
    unfold toW RW at h
    obtain ⟨b, vs, kvs, e, h1, _⟩ := h
    cases e
    rw [n] at h1
    cases h1
  | dT _ _ =>
    unfold toW RW at h
    obtain ⟨b, vs, kvs, e, h1, _⟩ := h
    cases e
    rw [n] at h1
    cases h1
  | ins _ _ _ =>
    unfold toW RW at h
    obtain ⟨b, dx, gs, e, h1, _⟩ := h
    cases e
    rw [n] at h1
    cases h1
  | tin _ _ _ _ =>
    unfold toW RW at h
    obtain ⟨b, dx, gs, t, rr, e, h1, _⟩ := h
    cases e
    rw [n] at h1
    cases h1
section
variable {c : Cn} {X : Cx} {Wx : WX} {e : Expr} {fa : Fe} {pos : Pos} {g : W → Sto → Option W} {σ : L2.St} {H : Hp} {Q Q2 : VK}
theorem w_op1R (h : sE c Wx (op1 g fa) σ H Q) (hk : ∀ F ρ m H1 w1 w x, R c F ρ m H1 → RB c F ρ H1 w1 x → g w1 m = some w → OkE c F ρ H1 Q w m → Q2 x H1) : sW c Wx fa σ H Q2 := by
  obtain ⟨F, ρ, m, τ, r, s, p⟩ := h
  refine ⟨F, ρ, m, τ, r, s, ?_⟩
  unfold op1 bnd at p
  cases e : fa τ m with
  | bad =>
    rw [e] at p
    exact p
  | exc x m' =>
    rw [e] at p
    exact p
  | ok w1 m1 =>
    rw [e] at p
    intro v1 F1 ρ1 H1 r1 g1 q1
    dsimp only at p
    cases e3 : g w1 m1 with
    | none =>
      rw [e3] at p
      exact p.elim
    | some w =>
      rw [e3] at p
      exact hk F1 ρ1 m1 H1 w1 w v1 r1 q1 e3 (OkE.back g1 p)
theorem w_op1E (h : sE c Wx (op1 g fa) σ H Q) (hk : ∀ F ρ m H1 w1 w x, R c F ρ m H1 → RW c F ρ w1 x → g w1 m = some w → OkE c F ρ H1 Q w m → Q2 x H1) : sE c Wx fa σ H Q2 := by
  obtain ⟨F, ρ, m, τ, r, s, p⟩ := h
  refine ⟨F, ρ, m, τ, r, s, ?_⟩
  unfold op1 bnd at p
  cases e : fa τ m with
  | bad =>
    rw [e] at p
    exact p
  | exc x m' =>
    rw [e] at p
    exact p
  | ok w1 m1 =>
    rw [e] at p
    intro v1 F1 ρ1 H1 r1 g1 q1
    dsimp only at p
    cases e3 : g w1 m1 with
    | none =>
      rw [e3] at p
      exact p.elim
    | some w =>
      rw [e3] at p
      exact hk F1 ρ1 m1 H1 w1 w v1 r1 q1 e3 (OkE.back g1 p)
/-- e.f -/
theorem s_fld {At : Ats} {f : Str} (hA : AtOk c.K c.cl At) (hK : c.K = X.K) (he : SR c X Wx e fa) (hf : f ≠ ("nodes" : Str) := by decide) (hb : attributeBase e f X.env (eval e X.env) = eval e X.env := by rfl) : SE c X Wx (.Attribute e f pos) (op1 (fldW At f) fa) :=
  PE.weak (pe_fld he hb) fun σ H Q h => w_op1R h fun F ρ m H1 w1 w x r q e k => by
    obtain ⟨a, C, dx, gs, v, ex, h1, k1, k2, l, rw'⟩ := fldW_ok hA r q e fun _ _ _ _ _ _ _ _ => hf
    exact ⟨a, C, dx, gs, v, ex, h1, hK ▸ k1, hK ▸ k2, l, k v F ρ H1 r .refl rw'⟩
theorem s_fldE {At : Ats} {f : Str} (hA : AtOk c.K c.cl At) (hK : c.K = X.K) (he : SE c X Wx e fa) (hb : attributeBase e f X.env (eval e X.env) = eval e X.env := by rfl) : SE c X Wx (.Attribute e f pos) (op1 (fldW At f) fa) :=
  PE.weak (pe_fld he hb) fun σ H Q h => w_op1E h fun F ρ m H1 w1 w x r q e k => by
    obtain ⟨a, C, dx, gs, v, ex, h1, k1, k2, l, rw'⟩ := fldW_ok hA r (.inl q) e fun a _ o ex _ hn _ ew => absurd hn (RW_frz (by rw [← ew, ← ex]; exact q))
    exact ⟨a, C, dx, gs, v, ex, h1, hK ▸ k1, hK ▸ k2, l, k v F ρ H1 r .refl rw'⟩
end
end Sm

/-! S15: self.f = e; an __init__ by its body; an instance made. -/
namespace Sm
open PySem PySem.Spec PyProof.Rows L2

def putO (At : Ats) (f : Str) (w : W) : MO → Option MO
  | .ins C ns vs => if hasA At C f && ns.length < 1000 then some (.ins C (putA f w ns vs).1 (putA f w ns vs).2) else none
  | .tin C ns vs kids => if hasA At C f && ns.length < 1000 && !(f == ("nodes" : Str)) then some (.tin C (putA f w ns vs).1 (putA f w ns vs).2 kids) else none
  | _ => none
theorem putO_ok {c : Cn} {F : Hp} {ρ : List Addr} {At : Ats} {f : Str} {w : W} {v : V} {o o' : MO} {a : Addr} {h : HO} (hA : AtOk c.K c.cl At) (q : OR c F ρ a o h) (hw : RW c F ρ w v) (e : putO At f w o = some o') :
    ∃ C dx gs, h = .ins C dx gs ∧ Cls c.K C ∧ NoAttr c.K C f ∧ gs.length < 1000 ∧ OR c F ρ a o' (.ins C dx (putF f v gs)) := by
  unfold putO at e
  split at e
  · split at e
    · rename_i hh
      obtain ⟨h1, h2⟩ := Bool.and_eq_true_iff.mp hh
      obtain ⟨k1, k2⟩ := hasA_ok hA h1
      cases e
      obtain ⟨dx, gs, rfl, rfl, t⟩ := q
      obtain ⟨p1, p2⟩ := putA_ok (f := f) hw t
      exact ⟨_, dx, gs, rfl, k1, k2, by simpa using h2, dx, _, rfl, p1, p2⟩
    · cases e
  · split at e
    · rename_i hh
      obtain ⟨h0, h3⟩ := Bool.and_eq_true_iff.mp hh
      obtain ⟨h1, h2⟩ := Bool.and_eq_true_iff.mp h0
      have hf : f ≠ ("nodes" : Str) := by simpa using h3
      obtain ⟨k1, k2⟩ := hasA_ok hA h1
      cases e
      obtain ⟨dx, gs, t, rr, rfl, hn, z, l, y, k⟩ := q
      obtain ⟨p1, p2⟩ := putA_ok (f := f) hw z
      rw [hn] at p1 p2
      rw [offN_keys] at hn
      refine ⟨_, dx, gs, rfl, k1, k2, ?_, dx, _, t, rr, rfl, by rw [offN_put hf]; exact p1, by rw [offN_put hf]; exact p2, by rw [lookup_putF, if_neg (Ne.symm hf)]; exact l, y, k⟩
      have : gs.length = (gs.map (·.1)).length := by simp
      rw [this, hn]
      simpa using h2
    · cases e
  · cases e
def sFldS (At : Ats) (i : Nat) (f : Str) (g : Fe) : Fs := fun τ m => exS (g τ m) τ fun w m' => match τ[i]? with
  | some (.own o) => (match putO At f w o with
    | some o' => .ok (.nx (τ.set i (.own o'))) m'
    | none => .bad)
  | _ => .bad
section
variable {c : Cn} {X : Cx} {Wx : WX} {B : Bs} {e : Expr} {g : Fe} {pos : Pos}
theorem x_fld {At : Ats} (i : Nat) {f : Str} {x : Str} {p1 p2 : Pos} (hA : AtOk c.K c.cl At) (hK : c.K = X.K) (he : SE c X Wx e g) (hN : X.N[i]? = some x := by rfl) (hv : Vis X.env.scope x := by first | exact Or.inl rfl | exact Or.inr (Or.inl rfl) | exact Or.inr (Or.inr rfl)) (hd : (x == ("__debug__" : Str)) = false := by decide)
    (hcd : (x == ("__classdict__" : Str)) = false := by decide) (hs : swapsWith e (some (.Attribute (.Name x p1) f p2)) pos.line X.env = pure false := by rfl) : SX c X Wx B (.Assign [.Attribute (.Name x p1) f p2] e pos) (sFldS At i f g) :=
  PS.weak (ps_fld (pe_var hN hv hd hcd) he hs) fun D σ H ⟨F, ρ, m, τ, fr, p⟩ => useE fr p fun w m' v F' ρ' H' fr' q k => by
    split at k
    · rename_i o eo
      split at k
      · rename_i o' ep
        obtain ⟨a, h, e1, e2, e3, e4, e5⟩ := fr'.s.own i o eo
        obtain ⟨C, dx, gs, rfl, k1, k2, k3, k4⟩ := putO_ok hA e5 q ep
        exact ⟨.ref a, e1, a, C, dx, gs, rfl, e4, hK ▸ k1, hK ▸ k2, k3, k _ _ _ _ (fr'.upd_own eo e1 k4)⟩
      · exact k.elim
    · exact k.elim
end

/-! ### an __init__ -/
def del1 (H : Hp) (a : Addr) : Hp := fun b => if b = a then none else H b
/-- self's state ahead of it and behind it -/
def spI (c : Cn) (n : Nat) (γ : MO → List W → M MO) : Sp := fun vs H Q E => vs.length = n ∧ ∃ a vs' F ρ m ws o h, vs = .ref a :: vs' ∧ R c F ρ m H ∧ RWs c F ρ ws vs' ∧ F a = none ∧ a ∉ ρ ∧ H a = some h ∧ OR c F ρ a o h ∧
  Post (fun o' m' => ∀ F' ρ' H' h', R c F' ρ' m' H' → Go F ρ (del1 H a) F' ρ' H' → F' a = none → a ∉ ρ' → H' a = some h' → OR c F' ρ' a o' h' → Q .non H')
    (fun x m' => ∀ cls d F' ρ' H', R c F' ρ' m' H' → Go F ρ (del1 H a) F' ρ' H' → XR c (del1 H a) F' ρ' H' x cls d → E cls d H') (γ o ws m)
def runI (n : Nat) (g : Fs) (o : MO) (ws : List W) : M MO := fun m => match g (.own o :: (ws.map .val ++ List.replicate (n - (ws.length + 1)) .un)) m with
  | .ok (.nx τ) m' => (match ((τ : SS)[(0 : Nat)]? : Option Sl) with
    | some (.own o') => .ok o' m'
    | _ => .bad)
  | .ok (.ex x _) m' => .exc x m'
  | _ => .bad
theorem go_del {F : Hp} {ρ : List Addr} {H : Hp} {a : Addr} : Go F ρ (del1 H a) F ρ H := ⟨Same.refl _, .refl _, fun b o e _ => by
  unfold del1 at e
  split at e
  · cases e
  · exact e, fun b o e n => ⟨n, id⟩⟩
section
variable {c : Cn} {F : Hp} {ρ : List Addr} {m : Sto} {ws : List W} {vs : List V} {H : Hp} {N : List Str} {a : Addr} {h : HO} {o : MO}
theorem start_FrI (r : R c F ρ m H) (q : RWs c F ρ ws vs) (h1 : F a = none) (h2 : a ∉ ρ) (h3 : H a = some h) (h4 : OR c F ρ a o h) :
    Fr c ⟨F, ρ, del1 H a, some a⟩ F ρ m (.own o :: (ws.map .val ++ List.replicate (N.length - (ws.length + 1)) .un)) (L2.start N (.ref a :: vs)) H := by
  have s0 : RS c F ρ (ws.map .val ++ List.replicate (N.length - (ws.length + 1)) .un) (vs.map some ++ List.replicate (N.length - (vs.length + 1)) none) H := by
    have := start_RS (N := List.replicate (N.length - 1) Str.empty) (H := H) q
    unfold L2.start at this
    rw [List.length_replicate] at this
    rwa [show N.length - (ws.length + 1) = N.length - 1 - ws.length by omega, show N.length - (vs.length + 1) = N.length - 1 - vs.length by omega]
  have no : ∀ (i : Nat) (o : MO), (ws.map Sl.val ++ List.replicate (N.length - (ws.length + 1)) Sl.un)[i]? ≠ some (.own o) := fun i o e => by
    by_cases hi : i < ws.length
    · rw [List.getElem?_append_left (by simpa using hi), List.getElem?_map] at e
      cases q : ws[i]? with
      | none =>
        rw [q] at e
        cases e
      | some w =>
        rw [q] at e
        cases e
    · rw [List.getElem?_append_right (by simpa using hi), List.getElem?_replicate] at e
      split at e <;> cases e
  have es : L2.start N (.ref a :: vs) = some (.ref a) :: (vs.map some ++ List.replicate (N.length - (vs.length + 1)) none) := rfl
  rw [es]
  refine ⟨r, ⟨by simpa using s0.len, fun i w e => ?_, fun i oo e => ?_, fun i j o1 o2 b n e1 e2 => ?_⟩, go_del, fun i oo b e1 e2 => ?_, fun oo b e1 e2 => ?_⟩
  · cases i with
    | zero => cases e
    | succ i => exact s0.val i w e
  · cases i with
    | zero =>
      cases e
      exact ⟨a, h, rfl, h1, h2, h3, h4⟩
    | succ i => exact absurd e (no i oo)
  · cases i with
    | zero =>
      cases j with
      | zero => exact absurd rfl n
      | succ j => exact absurd e2 (no j o2)
    | succ i => exact absurd e1 (no i o1)
  · cases i with
    | zero =>
      cases e2
      show del1 H a a = none
      unfold del1
      rw [if_pos rfl]
    | succ i => exact absurd e1 (no i oo)
  · cases e1
    rfl
end
theorem okI {c : Cn} {Wx : WX} {F : Hp} {ρ : List Addr} {H : Hp} {a : Addr} {n : Nat} {g : Fs} {o : MO} {ws : List W} {m : Sto} {Q : VK} {E : XK} (hW : Wx = fun cls d _ H => E cls d H)
    (p : Post (fun o' m' => ∀ F' ρ' H' h', R c F' ρ' m' H' → Go F ρ (del1 H a) F' ρ' H' → F' a = none → a ∉ ρ' → H' a = some h' → OR c F' ρ' a o' h' → Q .non H')
      (fun x m' => ∀ cls d F' ρ' H', R c F' ρ' m' H' → Go F ρ (del1 H a) F' ρ' H' → XR c (del1 H a) F' ρ' H' x cls d → E cls d H') (runI n g o ws m)) :
    Post (okS c Wx ⟨F, ρ, del1 H a, some a⟩ { nx := fun _ H' => Q .non H', rt := Q }) (fun _ _ => False) (g (.own o :: (ws.map .val ++ List.replicate (n - (ws.length + 1)) .un)) m) := by
  subst hW
  unfold runI at p
  cases e : g (.own o :: (ws.map .val ++ List.replicate (n - (ws.length + 1)) .un)) m with
  | bad =>
    rw [e] at p
    exact p
  | exc x m' =>
    rw [e] at p
    exact p.elim
  | ok t m' =>
    rw [e] at p
    cases t with
    | nx τ =>
      dsimp only at p
      intro σ' F' ρ' H' fr
      split at p
      · rename_i o' e0
        obtain ⟨b, h', e1, e2, e3, e4, e5⟩ := fr.s.own 0 o' e0
        have e6 := fr.slf o' a rfl e0
        rw [e6] at e1
        cases e1
        exact p F' ρ' H' h' fr.r fr.g e2 e3 e4 e5
      · exact p.elim
    | rt v => exact p.elim
    | ex z τ => exact fun k d σ' F' ρ' H' fr q => p k d F' ρ' H' fr.r fr.g q
    | bk τ => exact p.elim
    | ct τ => exact p.elim
section
variable {P : Program} {w : World} {K : PySem.W.Frag} {mg : Str → Option Value} {base : Heap} {cl : Str → Addr}
theorem init_ok {x qual : Str} {params : Arguments} {body : List Stmt} {scope : Scope} {dvs : List V} {kws : List (Str × V)} {f : Addr} {fd : FuncData} {N ps : List Str} {k : Nat} {g : Fs} (Fd : FunD K x qual params body scope dvs kws f fd) (S : FnScope N ps scope)
    (hb : ∀ (cdv : Value) (A : Around) (outer : List Env) (s : Shared) (H : Hp) (E : XK) (B : Bs), Ctx (cxOf (CX P w) P w K mg base N qual scope f cdv A outer s H E) (fun cls d _ H => E cls d H) k → SXs ⟨K, cl⟩ (cxOf (CX P w) P w K mg base N qual scope f cdv A outer s H E) (fun cls d _ H => E cls d H) B body g) :
    FnOk P w K mg base (CX P w) (k + 1) f fd ps (spI ⟨K, cl⟩ ps.length (runI N.length g)) := by
  obtain ⟨⟨oc, od, dV, kV, doc, pm, an, cdv, ct, osl, rfl, lk, hcd, _, _⟩, _⟩ := Fd
  refine fn_of lk hcd S (fun vs H Q E h => h.1) fun A outer s H vs Q E hr hsp => ?_
  obtain ⟨hl, a, vs', F, ρ, m, ws, o, h, rfl, r, q, h1, h2, h3, h4, p⟩ := hsp
  have tk : Takes (cxOf (CX P w) P w K mg base N qual scope f cdv A outer s H E) (fun cls d _ H => E cls d H) := takes_of rfl rfl rfl rfl
  exact ⟨sS ⟨K, cl⟩ (fun cls d _ H => E cls d H) ⟨F, ρ, del1 H a, some a⟩ g, hb cdv A outer s H E _ ⟨rfl, tk, passes_of rfl, hr, S.nd⟩, F, ρ, m, _, start_FrI r q h1 h2 h3 h4, okI rfl p⟩
end
end Sm

/-! S16: C(..); calls of methods. -/
namespace Sm
open PySem PySem.Spec PyProof.Rows L2

section
variable {c : Cn} {F : Hp} {ρ : List Addr} {m : Sto} {H : Hp} {x : Addr} {h : HO} {o : MO}
theorem R.frzO (r : R c F ρ m H) (h1 : F x = none) (h2 : x ∉ ρ) (h3 : H x = some h) (q : OR c F ρ x o h) (hz : frzb o = true) : R c (upd F x h) ρ m H ∧ RW c (upd F x h) ρ (toW o) (.ref x) := by
  have fs : Same F (upd F x h) := upd_new h1
  refine ⟨⟨fun b z e => ?_, r.len, r.nd, fun b hb => ?_, fun j b oo g1 g2 => ?_⟩, ?_⟩
  · by_cases hb : b = x
    · subst hb
      rw [upd_same] at e
      cases e
      exact h3
    · rw [upd_ne hb] at e
      exact r.sub b z e
  · rw [upd_ne (fun z => h2 (by rw [← z]; exact hb))]
    exact r.off b hb
  · obtain ⟨ho, k1, k2⟩ := r.at_ j b oo g1 g2
    exact ⟨ho, k1, k2.mono fs (.refl _)⟩
  · cases o with
    | lst xs =>
      obtain ⟨vs, rfl, t⟩ := q
      unfold toW RW
      exact ⟨x, vs, rfl, .inl upd_same, t.mono fs (.refl _)⟩
    | ins C ns vs =>
      obtain ⟨dx, gs, rfl, n, t⟩ := q
      unfold toW RW
      exact ⟨x, dx, gs, rfl, upd_same, n, t.mono fs (.refl _)⟩
    | tin C ns vs kids =>
      obtain ⟨dx, gs, t, rr, rfl, n, z, l, y, k⟩ := q
      unfold toW RW
      exact ⟨x, dx, gs, t, rr, rfl, upd_same, n, z.mono fs (.refl _), l, sqT_mono fs y, NRs.mono fs (.refl _) _ _ k⟩
    | dK _ _ => cases hz
    | dT _ _ => cases hz
theorem Go.frzO {F' : Hp} {ρ' : List Addr} {H' : Hp} (g : Go F ρ H F' ρ' H') (hx : H x = none) (h1 : F' x = none) : Go F ρ H (upd F' x h) ρ' H' := ⟨g.ff.trans (upd_new h1), g.pre, g.keep, fun b z e n => ⟨(g.off b z e n).1, fun w => by
  rw [upd_ne (fun q => by rw [q, hx] at e; cases e)]
  exact (g.off b z e n).2 w⟩⟩
end
/-- the class C's __init__ is worth γ; n parameters with self, the last ones by default dws -/
structure CalI (P : Program) (w : World) (K : PySem.W.Frag) (mg : Str → Option Value) (base : Heap) (cl : Str → Addr) (k : Nat) (C : Str) (n : Nat) (dws : List W) (γ : MO → List W → M MO) : Prop where
  ex : ∃ f fd ps ds dvs, FnOk P w K mg base (CX P w) k f fd ps (spI ⟨K, cl⟩ ps.length γ) ∧ ps.length = n ∧ mg C = some (.ref (cl C)) ∧ Mk K (cl C) f ∧ Binds K fd ps ds ∧ Vals dvs ds ∧ ∀ F ρ, RWs ⟨K, cl⟩ F ρ dws dvs
def newM (C : Str) (γ : MO → List W → M MO) (ws : List W) : M W := bnd (γ (.ins C [] []) ws) fun o m => if frzb o = true then .ok (toW o) m else .bad
def eNew (C : Str) (n : Nat) (γ : MO → List W → M MO) (dws : List W) (g : Fas) : Fe := fun τ => bnd (g τ) fun ws m => if (ws ++ dws).length + 1 = n then newM C γ (ws ++ dws) m else .bad

section
variable {X : Cx} {Wx : WX} {cl : Str → Addr} {k : Nat} {C : Str} {n : Nat} {dws : List W} {γ : MO → List W → M MO} {e : Expr} {es : List Expr} {g : Fas} {p pos : Pos}
theorem run_makeS {k : Nat} {C f : Addr} {fd : FuncData} {ps : List Str} {sp : Sp} {ds : List Value} {dvs : List V} {pins : List (Addr × Obj)} {σ : L2.St} {H : Hp} {s : Shared} {Q : VK} {us : List Value} {vs : List V} (M : Mk X.K C f) (F : FnOk X.prog X.w X.K X.mg X.base (CX X.prog X.w) k f fd ps sp) (hr : Room (k + 1) X.A) (hb : Binds X.K fd ps ds) (hd : Vals dvs ds)
    (tk : Takes X Wx) (I : Inv X pins σ H s) (r : Vals vs us)
    (h : ∀ x dx, H x = none → H dx = none → dx ≠ x → sp (.ref x :: (vs ++ dvs)) (upd (upd H dx (.own x)) x (.ins C dx [])) (fun v H2 => v = .non ∧ Q (.ref x) H2) fun c d H' => Wx c d σ H') :
    wpAny (model X.prog X.w) X.A (call (.ref C) us) (EP X pins σ Q) X.xe s := by
  have hq := h (s.heap.objs.size + 1) s.heap.objs.size (I.hok.fresh (Nat.le_succ _)) (I.hok.fresh (Nat.le_refl _)) (Nat.ne_of_lt (Nat.lt_succ_self _))
  have I2 := Inv.made (C := C) I
  have r2 : Vals (V.ref (s.heap.objs.size + 1) :: (vs ++ dvs)) (Value.ref (s.heap.objs.size + 1) :: (us ++ ds)) := .cons rfl (r.append hd)
  have hl : (Value.ref (s.heap.objs.size + 1) :: us ++ ds).length = ps.length := by
    have e := r2.length
    rw [F.len _ _ _ _ hq] at e
    exact e.symm
  refine wpAny_call (make_map (f := f) I.kIn M.makes M.init (beq_iff_eq.mp M.fn) (codeAny_mono (F.run _ X.stack _ _ ⟨Value.ref (s.heap.objs.size + 1) :: us, []⟩ (Value.ref (s.heap.objs.size + 1) :: (us ++ ds)) _ _ _ (hr.make C us [])
    (I2.env0.make C us []) (hb _ (Value.ref (s.heap.objs.size + 1) :: us) I2.kIn hl) r2 hq) fun r s' hq' => ?_))
  cases r with
  | error e => exact tk e s' (XE.of_call I2 (fun _ _ _ z => z) hq')
  | ok fl =>
    cases fl with
    | ret u =>
      obtain ⟨v, H', I3, rv, ev, q3⟩ := I2.after hq'
      subst ev
      exact ⟨rv, ⟨V.ref (s.heap.objs.size + 1), H', I3, rfl, q3⟩⟩
    | next => exact False.elim hq'
    | brk => exact False.elim hq'
    | cont => exact False.elim hq'
theorem w_new {K : PySem.W.Frag} {σ : L2.St} {H : Hp} {Q : VK} {dvs : List V} (hd : ∀ F ρ, RWs ⟨K, cl⟩ F ρ dws dvs) (h : sE ⟨K, cl⟩ Wx (eNew C n γ dws g) σ H Q) :
    sA ⟨K, cl⟩ Wx g σ H (fun vs H1 => ∀ x dx, H1 x = none → H1 dx = none → dx ≠ x → spI ⟨K, cl⟩ n γ (.ref x :: (vs ++ dvs)) (upd (upd H1 dx (.own x)) x (.ins (cl C) dx [])) (fun v H2 => v = .non ∧ Q (.ref x) H2) fun k d H' => Wx k d σ H') := by
  obtain ⟨F, ρ, m, τ, r, s, p⟩ := h
  refine ⟨F, ρ, m, τ, r, s, ?_⟩
  unfold eNew bnd at p
  cases e : g τ m with
  | bad =>
    rw [e] at p
    exact p
  | exc x m' =>
    rw [e] at p
    exact p
  | ok ws m1 =>
    rw [e] at p
    dsimp only at p
    intro vs F1 ρ1 H1 r1 g1 q1 x dx hx hdx ne
    split at p
    · rename_i hl
      have h2 := q1.append (hd F1 ρ1)
      obtain ⟨r2, g2⟩ := r1.newH hdx (.own x)
      have hx2 : upd H1 dx (.own x) x = none := by rw [upd_ne (Ne.symm ne)]; exact hx
      obtain ⟨r3, g3⟩ := r2.newH hx2 (.ins (cl C) dx [])
      have gd : Go F1 ρ1 H1 F1 ρ1 (del1 (upd (upd H1 dx (.own x)) x (.ins (cl C) dx [])) x) := ⟨Same.refl _, .refl _, fun b z eb _ => by
        have n1 : b ≠ x := ne_of_none eb hx
        have n2 : b ≠ dx := ne_of_none eb hdx
        unfold del1
        rw [if_neg n1, upd_ne n1, upd_ne n2]
        exact eb, fun b z eb nb => ⟨nb, id⟩⟩
      refine ⟨by rw [List.length_cons, h2.length]; exact hl, x, vs ++ dvs, F1, ρ1, m1, ws ++ dws, .ins C [] [], _, rfl, r3, h2, r1.fnone hx, r1.notin hx, upd_same, ⟨dx, [], rfl, rfl, .nil⟩, ?_⟩
      unfold newM bnd at p
      cases e2 : γ (.ins C [] []) (ws ++ dws) m1 with
      | bad =>
        rw [e2] at p
        exact p
      | exc z m' =>
        rw [e2] at p
        intro cls d F' ρ' H' r' g' q'
        have gg := gd.trans g'
        refine p cls d F' ρ' H' r' (g1.trans gg) (XR.back g1 ?_ g1.nn (r1.live1 g1))
        refine XR.back (H1 := del1 (upd (upd H1 dx (.own x)) x (.ins (cl C) dx [])) x) gd q' gd.nn (fun b hb => ?_)
        have hl := r1.live b hb
        cases eb : H1 b with
        | none => exact absurd eb hl
        | some z =>
          have n1 : b ≠ x := ne_of_none eb hx
          have n2 : b ≠ dx := ne_of_none eb hdx
          unfold del1
          rw [if_neg n1, upd_ne n1, upd_ne n2, eb]
          exact fun w => by cases w
      | ok o m2 =>
        rw [e2] at p
        dsimp only at p
        intro F' ρ' H' h' r' g' k1 k2 k3 k4
        split at p
        · rename_i hz
          obtain ⟨r4, q4⟩ := r'.frzO k1 k2 k3 k4 hz
          exact ⟨rfl, p _ _ _ _ r4 (g1.trans ((gd.trans g').frzO hx k1)) q4⟩
        · exact p.elim
    · exact p.elim
theorem s_new (Ci : CalI X.prog X.w X.K X.mg X.base cl k C n dws γ) (hr : Room (k + 1) X.A) (tk : Takes X Wx) (ha : SA ⟨X.K, cl⟩ X Wx (e :: es) g) (hg : Gl X C := by rfl) (hdb : (C == ("__debug__" : Str)) = false := by decide)
    (he : starEach (e :: es) X.env = (false, eval e X.env) :: starEach es X.env := by rfl) (hpl : (backTo pos (starEach es X.env)).any (·.1) = false := by rfl) : SE ⟨X.K, cl⟩ X Wx (.Call (.Name C p) (e :: es) [] pos) (eNew C n γ dws g) := by
  obtain ⟨f, fd, ps, ds, dvs, F, rfl, hm, M, hb, hd, hw⟩ := Ci.ex
  refine ⟨fun pins s σ H Q I h => ?_⟩
  refine wpAny_Call_Name_kw (ld_glob I hg hm ?_ hdb)
  refine PySem.W.callWith_K (h₀ := X.base) I.ok.mod.kin M.kp (thn (ha.run pos pins s σ H _ I (w_new hw h)) fun us s1 ⟨vs, H1, I1, r, q⟩ => ⟨I1.kIn, ?_⟩) he hpl
  exact run_makeS M F hr hb hd tk I1 r q
theorem s_new0 (Ci : CalI X.prog X.w X.K X.mg X.base cl k C n dws γ) (hr : Room (k + 1) X.A) (tk : Takes X Wx) (hg : Gl X C := by rfl) (hdb : (C == ("__debug__" : Str)) = false := by decide) : SE ⟨X.K, cl⟩ X Wx (.Call (.Name C p) [] [] pos) (eNew C n γ dws aNil) := by
  obtain ⟨f, fd, ps, ds, dvs, F, rfl, hm, M, hb, hd, hw⟩ := Ci.ex
  refine ⟨fun pins s σ H Q I h => ?_⟩
  refine wpAny_Call_Name_kw (ld_glob I hg hm ?_ hdb)
  obtain ⟨F0, ρ, m, τ, r, hs, p⟩ := w_new hw h
  exact PySem.W.callWith_K0 I.kIn M.kp (run_makeS (us := []) M F hr hb hd tk I .nil (p [] F0 ρ H r .refl rfl))
end
end Sm

/-! S17: defs that say super(). -/
namespace Sm
open PySem PySem.Spec PyProof.Rows L2

structure FunS (P : Program) (K : PySem.W.Frag) (x qual : Str) (params : Arguments) (body : List Stmt) (scope : Scope) (f : Addr) (fd : FuncData) (cc D cda : Addr) : Prop where
  ex : ∃ (oc : Value) (od : Option Addr) (dV kV doc pm : Value) (an : Option Addr) (ct : Value) (osl : Array (Option Value)), fd = PySem.W.ksFn x qual params body scope dV kV doc pm an (.ref cda) ct cc ∧ K.lookup f = some ⟨oc, od, .func fd, osl⟩
  code : PySem.W.codeIn K (.ref cda) qual = true
  file : ∃ (ccl : Value) (cdd : Option Addr) (vs : Array Value) (ccs : Array (Option Value)) (file : Str) (tf : Tok), K.lookup cda = some ⟨ccl, cdd, .fields vs, ccs⟩ ∧ vs[2]? = some (.str file tf) ∧ ((P.main.file : Str) == file) = true
  cell : ∃ (cl : Value) (cld : Option Addr) (csl : Array (Option Value)), K.lookup cc = some ⟨cl, cld, .cell (some (.ref D)), csl⟩
  cls : ∃ cd, PySem.W.clsIn K D = some cd
structure ScS (N P : List Str) (sc : Scope) : Prop where
  kind : sc.kind = .function
  co : sc.isCoroutine = false
  gen : sc.isGenerator = false
  nd : N.Nodup
  pre : N.take P.length = P
  par : ∀ x ∈ P, sc.names.lookup x = some .local
  nocell : ∀ y ∈ sc.names, y.2 ≠ .cell
  free : ∀ y ∈ sc.names, y.2 = .free → y.1 = ("__class__" : Str)

abbrev envS (qual : Str) (scope : Scope) (L f cda cc : Addr) : Env := PySem.W.ksEnv qual scope L f (.ref cda) cc
def cxS (CX : CXT) (P : Program) (w : World) (K : PySem.W.Frag) (mg : Str → Option Value) (base : Heap) (N : List Str) (qual : Str) (scope : Scope) (f cda cc : Addr) (A : Around) (outer : List Env) (s : Shared) (H : Hp) (E : XK) : Cx where
  prog := P
  w := w
  K := K
  mg := mg
  base := base
  A := A.deeper (envS qual scope s.heap.objs.size f cda cc)
  N := N
  s_0 := s
  H_0 := H
  env := envS qual scope s.heap.objs.size f cda cc
  outer := outer
  stack := envS qual scope s.heap.objs.size f cda cc :: outer
  ex := []
  calm := true
  fn := fun x => !(x == ("__class__" : Str))
  pn := []
  xe := fun e s' => wpAny (model P w) (A.deeper (envS qual scope s.heap.objs.size f cda cc)) (leaving (envS qual scope s.heap.objs.size f cda cc) e) (fun _ s'' => CX outer H s E e s'') (fun e' s'' => CX outer H s E e' s'') s'

theorem rev_lookup {α : Type} {x : Str} {v : α} : ∀ {P : List Str} {vs : List α} {i : Nat}, P.Nodup → P[i]? = some x → vs[i]? = some v → (P.zip vs).reverse.lookup x = some v
  | [], _, _, _, h, _ => by simp at h
  | _ :: _, [], _, _, _, h => by simp at h
  | p :: P, w :: vs, 0, nd, h1, h2 => by
    simp at h1 h2
    subst h1 h2
    rw [List.zip_cons_cons, List.reverse_cons, List.lookup_append]
    have : (P.zip vs).reverse.lookup p = none := by
      rw [List.lookup_eq_none_iff]
      intro q hq
      have hq' := List.mem_reverse.mp hq
      have := (List.of_mem_zip (a := q.1) (b := q.2) hq').1
      simp only [bne_iff_ne, ne_eq, beq_eq_false_iff_ne]
      intro e
      first
        | exact (List.nodup_cons.mp nd).1 (e ▸ this)
    rw [this]
    simp
  | p :: P, w :: vs, i + 1, nd, h1, h2 => by
    rw [List.zip_cons_cons, List.reverse_cons, List.lookup_append, rev_lookup (i := i) (List.nodup_cons.mp nd).2 (by simpa using h1) (by simpa using h2)]
    rfl
section
variable {CXx : CXT} {P : Program} {w : World} {K : PySem.W.Frag} {mg : Str → Option Value} {base : Heap} {N ps : List Str} {qual : Str} {scope : Scope} {f cda cc D : Addr} {A : Around} {outer : List Env} {s : Shared} {H : Hp} {E : XK} {us : List Value} {vs : List V}
theorem inv_startS (S : ScS N ps scope) (hcell : ∃ (cl : Value) (cld : Option Addr) (csl : Array (Option Value)), K.lookup cc = some ⟨cl, cld, .cell (some (.ref D)), csl⟩) (hd : A.handled = none) (e0 : Env0 P w K mg base A outer s H) (hl : vs.length = ps.length) (r : Vals vs us) {h0 : Heap} {t' : Nat}
    (hns : h0.Ns s.heap.objs.size (fun x => (ps.zip us).reverse.lookup x)) (hk : ∀ b o, s.heap.get? b = some o → h0.get? b = some o) :
    Inv (cxS CXx P w K mg base N qual scope f cda cc A outer s H E) [] (L2.start N vs) H { s with heap := h0, toks := t' } := by
  have hpl : ps.length ≤ N.length := by have := congrArg List.length S.pre; rw [List.length_take] at this; omega
  have noA : ∀ b : Addr, b ∉ (cxS CXx P w K mg base N qual scope f cda cc A outer s H E).ex := fun b z => absurd (show b ∈ ([] : List Addr) from z) (by simp)
  obtain ⟨cl, cld, csl, lkc⟩ := hcell
  have hcb := e0.bs _ _ (e0.mod.kin _ _ lkc)
  have cel : ∀ {y : Str} {c : Addr}, List.lookup y [(("__class__" : Str), cc)] = some c → y = ("__class__" : Str) ∧ c = cc := fun {y c} h => by
    by_cases e : y = ("__class__" : Str)
    · subst e
      simp [List.lookup] at h
      exact ⟨rfl, h.symm⟩
    · have : (y == ("__class__" : Str)) = false := by simpa using e
      simp [List.lookup, this] at h
  refine ⟨⟨e0.mod, S.kind, rfl, rfl, Nat.le_refl _, fun y z c h1 h2 => ?_, fun y hy => ?_, fun y c hf h => ?_, fun _ => hd, Around.frames_deeper e0.frames, .inr ⟨rfl, rfl⟩, fun b z => absurd z (noA b), e0.bs, e0.bsz, fun b _ _ => noA b, fun b z => absurd z (noA b), e0.funs, e0.frf⟩,
    rfl, e0.bare, Un.kept hk, ⟨_, hns, fun i y v h1 h2 h3 => ?_⟩, fun y c h => ?_, e0.hok.fresh (Nat.le_refl _), fun y c h => ?_, fun p hp => absurd (show p ∈ ([] : List (Addr × Obj)) from hp) (by simp), e0.hok.kept hk, ?_⟩
  · exact (cel h1).1.trans (cel h2).1.symm
  · have hy : scope.names.lookup y = some .cell ∨ scope.names.lookup y = some .free := hy
    rcases hy with hy | hy
    · exact absurd rfl (S.nocell _ (PySem.mem_of_lookup hy))
    · have := S.free _ (PySem.mem_of_lookup hy) rfl
      dsimp only at this
      subst this
      exact ⟨cc, rfl⟩
  · have e := (cel h).1
    subst e
    have hf' : (!(("__class__" : Str) == ("__class__" : Str))) = true := hf
    exact absurd hf' (by decide)
  · have hi : i < vs.length := by
      unfold L2.start at h2
      by_cases hi : i < vs.length
      · exact hi
      · rw [List.getElem?_append_right (by simpa using hi)] at h2
        rw [List.getElem?_replicate] at h2
        split at h2 <;> cases h2
    have ha : vs[i]? = some v := by
      unfold L2.start at h2
      rw [List.getElem?_append_left (by simpa using hi), List.getElem?_map] at h2
      cases e : vs[i]? with
      | none => rw [e] at h2; cases h2
      | some a => rw [e] at h2; cases h2; rfl
    obtain ⟨u, hu, rv⟩ := r.get ha
    have hp : ps[i]? = some y := by
      rw [← S.pre, List.getElem?_take_of_lt (by omega)]; exact h1
    have ndP : ps.Nodup := by rw [← S.pre]; exact S.nd.sublist (List.take_sublist _ _)
    exact ⟨u, rv, .inl ⟨S.par y (List.mem_of_getElem? hp), rev_lookup ndP hp hu⟩⟩
  · obtain ⟨_, rfl⟩ := cel h
    exact ⟨_, _, hk _ _ hcb.1, rfl⟩
  · obtain ⟨_, rfl⟩ := cel h
    exact hcb.2
  · unfold L2.start
    show _ = N.length
    rw [List.length_append, List.length_map, List.length_replicate]
    omega
end

/-! ### statements right within the def -/
structure PA1 (X : Cx) (c : Code) (st : Stmt) (t : TS) : Prop where
  run : ∀ (pins : List (Addr × Obj)) (s : Shared) (σ : L2.St) (H : Hp) (D : Ends), Inv X pins σ H s → t D σ H → _root_.PySem.wpAt (model X.prog X.w) X.A c (exec st X.env) (SP X pins D) X.xe s
structure PAs (X : Cx) (c : Code) (st : List Stmt) (t : TS) : Prop where
  run : ∀ (pins : List (Addr × Obj)) (s : Shared) (σ : L2.St) (H : Hp) (D : Ends), Inv X pins σ H s → t D σ H → _root_.PySem.wpAt (model X.prog X.w) X.A c (execs st X.env) (SP X pins D) X.xe s
abbrev SX1 (c : Cn) (X : Cx) (Wx : WX) (B : Bs) (cd : Code) (st : Stmt) (f : Fs) : Prop := PA1 X cd st (sS c Wx B f)
abbrev SXA (c : Cn) (X : Cx) (Wx : WX) (B : Bs) (cd : Code) (st : List Stmt) (f : Fs) : Prop := PAs X cd st (sS c Wx B f)
section
variable {c : Cn} {X : Cx} {Wx : WX} {B : Bs} {cd : Code}
theorem a_of {st : List Stmt} {f : Fs} (h : SXs c X Wx B st f) : SXA c X Wx B cd st f := ⟨fun pins s σ H D I q => PySem.wpAt_of_wpAny (h.run pins s σ H D I q)⟩
theorem a_one {st : Stmt} {f : Fs} (h : SX c X Wx B st f) : SX1 c X Wx B cd st f := ⟨fun pins s σ H D I q => PySem.wpAt_of_wpAny (h.run pins s σ H D I q)⟩
theorem a_step {st : Stmt} {rest : List Stmt} {f g : Fs} (h1 : SX1 c X Wx B cd st f) (h2 : SXA c X Wx B cd rest g) : SXA c X Wx B cd (st :: rest) (sSeq f g) := ⟨fun pins s σ H D I ⟨F, ρ, m, τ, fr, p⟩ => by
  refine PySem.ks_wpAt_execs_cons (PySem.ks_wpAt_mono (h1.run pins s σ H { D with nx := sS c Wx B g D } I ⟨F, ρ, m, τ, fr, ?_⟩) (fun fl s1 q => ?_) fun _ _ z => z)
  · unfold sSeq at p
    cases e : f τ m with
    | bad =>
      rw [e] at p
      exact p
    | exc x m' =>
      rw [e] at p
      exact p
    | ok o m1 =>
      rw [e] at p
      cases o with
      | nx τ1 => exact fun σ1 F1 ρ1 H1 fr1 => ⟨F1, ρ1, m1, τ1, fr1, p⟩
      | rt w => exact p
      | bk τ1 => exact p
      | ct τ1 => exact p
      | ex x τ1 => exact p
  · cases fl with
    | next =>
      obtain ⟨σ', H', I', q⟩ := q
      exact h2.run pins s1 σ' H' D I' q
    | ret v => exact q
    | brk => exact q
    | cont => exact q⟩
end
end Sm

/-! S18: super().__init__(..). -/
namespace Sm
open PySem PySem.Spec PyProof.Rows L2

def clsO : MO → Option Str
  | .ins C _ _ => some C
  | .tin C _ _ _ => some C
  | _ => none
theorem clsO_ok {c : Cn} {F : Hp} {ρ : List Addr} {a : Addr} {o : MO} {h : HO} {C : Str} (e : clsO o = some C) (q : OR c F ρ a o h) : ∃ dx gs, h = .ins (c.cl C) dx gs := by
  cases o with
  | ins C' ns vs =>
    cases e
    obtain ⟨dx, gs, rfl, _⟩ := q
    exact ⟨dx, gs, rfl⟩
  | tin C' ns vs kids =>
    cases e
    obtain ⟨dx, gs, t, rr, rfl, _⟩ := q
    exact ⟨dx, gs, rfl⟩
  | lst _ => cases e
  | dK _ _ => cases e
  | dT _ _ => cases e
def sSup (C : Str) (n : Nat) (γ : MO → List W → M MO) (g : Fas) : Fs := fun τ m => match (τ[(0 : Nat)]? : Option Sl) with
  | some (.own o) => if clsO o = some C then exS (g τ m) τ fun ws m' => if ws.length + 1 = n then (match γ o ws m' with
      | .ok o' m2 => .ok (.nx (τ.set 0 (.own o'))) m2
      | _ => .bad) else .bad
    else .bad
  | _ => .bad
theorem useAG {c : Cn} {Wx : WX} {B : Bs} {F : Hp} {ρ : List Addr} {m : Sto} {τ : SS} {σ : L2.St} {H : Hp} {g : Fas} {k : List W → Sto → Res Out} {Q : List V → Hp → Prop} {D : Ends} (fr : Fr c B F ρ m τ σ H) (p : Post (okS c Wx B D) (fun _ _ => False) (exS (g τ m) τ k))
    (h : ∀ w m' v F' ρ' H', Fr c B F' ρ' m' τ σ H' → Go F ρ H F' ρ' H' → RWs c F' ρ' w v → Post (okS c Wx B D) (fun _ _ => False) (k w m') → Q v H') : sA c Wx g σ H Q := by
  refine ⟨F, ρ, m, τ, fr.r, fr.s, ?_⟩
  unfold exS at p
  cases e : g τ m with
  | bad =>
    rw [e] at p
    exact p
  | exc x m' =>
    rw [e] at p
    exact Fr.ex (D := D) fr p
  | ok w m1 =>
    rw [e] at p
    exact fun v F1 ρ1 H1 r1 g1 q => h w m1 v F1 ρ1 H1 (fr.go r1 g1) g1 q p
theorem Fr.self {c : Cn} {B : Bs} {F F' : Hp} {ρ ρ' : List Addr} {m m' : Sto} {τ : SS} {σ : L2.St} {H H' : Hp} {i : Nat} {o o' : MO} {a : Addr} {h' : HO} (x : Fr c B F ρ m τ σ H) (e : τ[i]? = some (.own o)) (es : σ[i]? = some (some (V.ref a)))
    (r : R c F' ρ' m' H') (g : Go F ρ (del1 H a) F' ρ' H') (h1 : F' a = none) (h2 : a ∉ ρ') (h3 : H' a = some h') (h4 : OR c F' ρ' a o' h') : Fr c B F' ρ' m' (τ.set i (.own o')) σ H' := by
  have nb := x.fresh i o a e es
  have gd : Go B.F B.ρ B.H F ρ (del1 H a) := ⟨x.g.ff, x.g.pre, fun b z eb n => by
    have ne : b ≠ a := fun w => by rw [w, nb] at eb; cases eb
    unfold del1
    rw [if_neg ne]
    exact x.g.keep b z eb n, x.g.off⟩
  have old : ∀ {k : Nat} {oo : MO}, (τ.set i (.own o'))[k]? = some (.own oo) → ∃ o2, τ[k]? = some (.own o2) := fun {k oo} hk => by
    rcases get_set hk with ⟨ei, _⟩ | ⟨ne, hk⟩
    · subst ei
      exact ⟨o, e⟩
    · exact ⟨oo, hk⟩
  refine ⟨r, ⟨by rw [List.length_set]; exact x.s.len, fun j w ew => ?_, fun j oo ej => ?_, fun j k o1 o2 b n e1 e2 e3 e4 => ?_⟩, gd.trans g, fun j oo b e1 e2 => ?_, fun oo b eb e1 => ?_⟩
  · rcases get_set ew with ⟨_, ew⟩ | ⟨ne, ew⟩
    · cases ew
    · obtain ⟨v, q1, q2⟩ := x.s.val j w ew
      exact ⟨v, q1, q2.mono g.ff g.pre⟩
  · rcases get_set ej with ⟨ei, ew⟩ | ⟨ne, ej⟩
    · subst ei
      cases ew
      exact ⟨a, h', es, h1, h2, h3, h4⟩
    · obtain ⟨b, hb, k1, k2, k3, k4, k5⟩ := x.s.own j oo ej
      have nba : b ≠ a := fun z => by
        subst z
        exact x.s.nd i j o oo b ne e ej es k1
      have kd : del1 H a b = some hb := by
        unfold del1
        rw [if_neg nba]
        exact k4
      obtain ⟨q1, q2⟩ := g.off b hb kd k3
      exact ⟨b, hb, k1, q2 k2, q1, g.keep b hb kd k3, k5.mono g.ff g.pre⟩
  · obtain ⟨p1, g1⟩ := old e1
    obtain ⟨p2, g2⟩ := old e2
    exact x.s.nd j k p1 p2 b n g1 g2 e3 e4
  · obtain ⟨p1, g1⟩ := old e1
    exact x.fresh j p1 b g1 e2
  · obtain ⟨p1, g1⟩ := old e1
    exact x.slf p1 b eb g1

theorem callWith_Mp {M : Model} {A : Around} {E : Value → Shared → Prop} {s : Shared} {K : PySem.W.Frag} {env : Env} {pos : Pos} {first : List Value} {Q : Value → Shared → Prop} {q g : Addr} {self : Value} {e : Expr} {rest : List Expr} (hf : PySem.W.fnIn K g = true)
    (h : wpAny M A (spliced (backTo pos (starEach (e :: rest) env))) (fun vs s₁ => PySem.W.MethP K q g self s₁.heap ∧ wpAny M A (call (.ref q) (first ++ vs)) Q E s₁) E s)
    (he : starEach (e :: rest) env = (false, eval e env) :: starEach rest env) (hplain : (backTo pos (starEach rest env)).any (·.1) = false) :
    wpAny M A (callWith pos (.ref q) first (backTo pos (starEach (e :: rest) env)) []) Q E s := by
  rw [he] at h ⊢
  exact PySem.W.callWith_of (by show ((false || (backTo pos (starEach rest env)).any (·.1)) || false) = false; rw [hplain]; rfl) (PySem.W.keeps_M hf) (Calls.evalArgs_plain h)
/-- what of the text super().__init__ in a def of the class C leads to -/
structure SupI (P : Program) (w : World) (K : PySem.W.Frag) (mg : Str → Option Value) (base : Heap) (cl : Str → Addr) (k : Nat) (C : Str) (n : Nat) (γ : MO → List W → M MO) : Prop where
  sub : PySem.W.mroIn K (cl C) (.ref (cl C)) = some true
  op : PySem.W.nsIn K cStatics "thirdparty.any" = some none
  top : (P.main.scope.names.lookup ("super" : Str)).isSome = false
  nmg : mg "super" = none
  ex : ∃ f fd ps, FnOk P w K mg base (CX P w) k f fd ps (spI ⟨K, cl⟩ ps.length γ) ∧ ps.length = n ∧ Binds K fd ps [] ∧ PySem.W.ks_superIn K (cl C) (cl C) "__init__" = some (some (.ref f)) ∧ PySem.W.typeIn K (.ref f) = some (.type "function") ∧ PySem.W.fnIn K f = true
section
variable {P : Program} {w : World} {K : PySem.W.Frag} {mg : Str → Option Value} {base : Heap} {cl : Str → Addr} {N : List Str} {x qual : Str} {params : Arguments} {body body' : List Stmt} {scope : Scope} {f cda cc : Addr} {fd : FuncData} {A : Around} {outer : List Env} {s0 : Shared} {H0 : Hp} {E : XK}
  {Wx : WX} {B : Bs} {k n : Nat} {C : Str} {γ : MO → List W → M MO} {e : Expr} {es : List Expr} {g : Fas} {p0 p1 p2 p3 p4 : Pos} {ar : Arg}
theorem a_super {pl : Sem Bool} (Fs : FunS P K x qual params body' scope f fd cc (cl C) cda) (SI : SupI P w K mg base cl k C n γ) (hr : Room k (cxS (CX P w) P w K mg base N qual scope f cda cc A outer s0 H0 E).A) (tk : Takes (cxS (CX P w) P w K mg base N qual scope f cda cc A outer s0 H0 E) Wx)
    (ha : SA ⟨K, cl⟩ (cxS (CX P w) P w K mg base N qual scope f cda cc A outer s0 H0 E) Wx (e :: es) g)
    (hp : (params.posonlyargs ++ params.args).head? = some ar) (hN : N[0]? = some ar.arg) (hka : scope.names.lookup ar.arg = some .local) (hks : scope.names.lookup ("super" : Str) = some .globalImplicit) (hkc : scope.names.lookup ("__class__" : Str) = some .free)
    (hc : eval (.Call (.Attribute (.Call (.Name "super" p0) [] [] p1) "__init__" p2) (e :: es) [] p3) (envS qual scope s0.heap.objs.size f cda cc) = (do
      let ov ← attributeBase (.Call (.Name "super" p0) [] [] p1) "__init__" (envS qual scope s0.heap.objs.size f cda cc) (eval (.Call (.Name "super" p0) [] [] p1) (envS qual scope s0.heap.objs.size f cda cc))
      standAt p2.atName
      let (f', first) ← holding [ov] (getMethod ov "__init__" pl)
      callWith p3 f' first (backTo p3 (starEach (e :: es) (envS qual scope s0.heap.objs.size f cda cc))) []) := by rfl)
    (hi : interactive (envS qual scope s0.heap.objs.size f cda cc) = false := by rfl)
    (hs : swapsWith (.Call (.Attribute (.Call (.Name "super" p0) [] [] p1) "__init__" p2) (e :: es) [] p3) none p4.line (envS qual scope s0.heap.objs.size f cda cc) = pure false := by rfl)
    (he : starEach (e :: es) (envS qual scope s0.heap.objs.size f cda cc) = (false, eval e (envS qual scope s0.heap.objs.size f cda cc)) :: starEach es (envS qual scope s0.heap.objs.size f cda cc) := by rfl) (hpl : (backTo p3 (starEach es (envS qual scope s0.heap.objs.size f cda cc))).any (·.1) = false := by rfl) :
    SX1 ⟨K, cl⟩ (cxS (CX P w) P w K mg base N qual scope f cda cc A outer s0 H0 E) Wx B (.func body (envS qual scope s0.heap.objs.size f cda cc)) (.Expr (.Call (.Attribute (.Call (.Name "super" p0) [] [] p1) "__init__" p2) (e :: es) [] p3) p4) (sSup C n γ g) := by
  refine ⟨fun pins s σ H D I h => ?_⟩
  obtain ⟨F, ρ, m, τ, fr, p⟩ := h
  unfold sSup at p
  split at p
  rotate_left
  · exact p.elim
  rename_i o eo
  split at p
  rotate_left
  · exact p.elim
  rename_i ec
  obtain ⟨a, h0, e1, e2, e3, e4, e5⟩ := fr.s.own 0 o eo
  obtain ⟨dx, gs, rfl⟩ := clsO_ok ec e5
  obtain ⟨f2, fd2, ps2, F2, rfl, hb2, hsi, ht, hfn⟩ := SI.ex
  obtain ⟨oc, od, dV, kV, doc, pm, an, ct, osl, rfl, lkf⟩ := Fs.ex
  obtain ⟨ccl, cdd, vs, ccs, file, tf, lkc, hvs, hfile⟩ := Fs.file
  obtain ⟨lcl, cld, csl, lcc⟩ := Fs.cell
  obtain ⟨cdD, hD⟩ := Fs.cls
  have KI := I.kIn
  have hok : ObjOk P w H s.heap a (.ins (cl C) dx gs) := I.hok a _ e4
  obtain ⟨k1, k2, k3, k4, mA, k5, k6, k7⟩ := hok
  have ks4 : scope.kind = .function := I.ok.kind
  obtain ⟨oD, hD1, hD2⟩ : ∃ oD, s.heap.get? (cl C) = some oD ∧ oD.data = .cls cdD := by
    unfold PySem.W.clsIn at hD
    split at hD
    · rename_i c d cd' sl ho
      cases hD
      exact ⟨_, KI _ _ ho, rfl⟩
    · cases hD
  have nac : a ≠ cl C := fun z => by
    rw [← z, k4] at hD1
    cases hD1
    cases hD2
  refine ks_wpAt_Expr_any (env := envS qual scope s0.heap.objs.size f cda cc) (ks_wpAt_MethodCall (ks_wpAt_super_base (env := envS qual scope s0.heap.objs.size f cda cc) (ar := ar) hks hkc (by decide) rfl (KI _ _ lkf) rfl hp rfl (KI _ _ lkc) rfl hvs hfile SI.top ?_) hc) hi hs
  obtain ⟨mb, b1, b2⟩ := I.mod.blt
  refine PySem.W.ks_loadName_global (env := envS qual scope s0.heap.objs.size f cda cc) ks4 hks (Calls.loadGlobal_builtin (env := envS qual scope s0.heap.objs.size f cda cc) (I.mod.glob.keeps I.bk) SI.nmg (b1.keeps I.bk) ((b2 _ (by decide)).trans (show bootBuiltins "super" = some (.type "super") from by kernel_rfl)) ⟨rfl, ?_⟩)
  refine wpAny_loadName_free (env := envS qual scope s0.heap.objs.size f cda cc) ks4 hkc rfl ⟨_, KI _ _ lcc, rfl⟩ ?_
  obtain ⟨ml, hn, hl⟩ := I.loc
  obtain ⟨u, ru, l⟩ := hl 0 ar.arg (.ref a) hN e1 (Or.inl hka)
  obtain rfl : u = Value.ref a := ru
  have hml : ml ar.arg = some (.ref a) := by
    rcases l with ⟨_, hm⟩ | ⟨hk, _⟩
    · exact hm
    · have hk' : scope.names.lookup ar.arg = some .cell ∨ scope.names.lookup ar.arg = some .free := hk
      rw [hka] at hk'
      rcases hk' with z | z <;> cases z
  refine wpAny_loadName_local (env := envS qual scope s0.heap.objs.size f cda cc) ks4 hka hn hml ?_
  refine ks_wpAny_isType_cls hD1 hD2 ⟨rfl, ?_⟩
  obtain ⟨hh, gg, dd, tt, os⟩ := s
  refine ks_wpAny_call_super hD1 hD2 k4 rfl (fun c z => by cases z) (PySem.W.looks_mroIn KI SI.sub) (fun h1 es1 kk => ?_)
  have I1 : Inv (cxS (CX P w) P w K mg base N qual scope f cda cc A outer s0 H0 E) pins σ H ⟨h1, gg, dd, tt, os⟩ := I.kept (t' := tt) kk
  obtain ⟨cdC, hC, hsi'⟩ : ∃ cd, PySem.W.clsIn K (cl C) = some cd ∧ PySem.W.alongIn K "__init__" ((cd.mro.dropWhile (· != .ref (cl C))).drop 1) = some (some (.ref f2)) := by
    unfold PySem.W.ks_superIn at hsi
    cases hc : PySem.W.clsIn K (cl C) with
    | none => rw [hc] at hsi; cases hsi
    | some cd => rw [hc] at hsi; exact ⟨cd, rfl, hsi⟩
  obtain ⟨of, hof, hofc⟩ : ∃ of, h1.get? f2 = some of ∧ of.cls = .type "function" := by
    have ht' : (K.lookup f2).map (·.cls) = some (.type "function") := ht
    cases z : K.lookup f2 with
    | none => rw [z] at ht'; cases ht'
    | some of => rw [z] at ht'; exact ⟨of, I1.kIn _ _ z, Option.some.inj ht'⟩
  refine ks_wpAny_getMethod_super es1 (PySem.W.looks_opaque I1.kIn SI.op) (l₀ := cdC.mro) ?_ rfl I1.kIn hsi' hof hofc nac (by decide) ?_
  · exact fun A Q E s k q => wpAny_bind ((PySem.W.looks_clsIn I1.kIn hC) A _ E s k (wpAny_pure q))
  have hq0 : H h1.objs.size = none := I1.hok.fresh (Nat.le_refl _)
  have I2 : Inv (cxS (CX P w) P w K mg base N qual scope f cda cc A outer s0 H0 E) pins σ (upd H h1.objs.size (.met f2 a)) ⟨h1.push (PySem.W.methodObj (.ref f2) (.ref a)), gg, dd, tt + 1, os⟩ :=
    I1.laid (t' := tt + 1) (a := h1.objs.size) (o := .met f2 a) (h' := h1.push (PySem.W.methodObj (.ref f2) (.ref a))) (fun b o z => Heap.get?_push_of_some _ z) (Nat.le_refl _) (show _ = _ from Heap.get?_push_size _ rfl)
  obtain ⟨r2, g2⟩ := fr.r.newH hq0 (.met f2 a)
  have fr2 := fr.go r2 g2
  refine callWith_Mp (q := h1.objs.size) (self := .ref a) hfn ?_ he hpl
  refine thn (ha.run p3 pins _ σ _ (fun vs H2 => ∃ F' ρ' m' ws, Fr ⟨K, cl⟩ B F' ρ' m' τ σ H2 ∧ RWs ⟨K, cl⟩ F' ρ' ws vs ∧ H2 h1.objs.size = some (.met f2 a) ∧ Post (okS ⟨K, cl⟩ Wx B D) (fun _ _ => False) (if ws.length + 1 = ps2.length then (match γ o ws m' with
      | .ok o' m2 => .ok (.nx (τ.set 0 (.own o'))) m2
      | _ => .bad) else .bad)) I2 (useAG fr2 p fun ws m' vs F' ρ' H' fr' gg' rws q => ⟨F', ρ', m', ws, fr', rws, gg'.keep _ _ upd_same (fr.r.notin hq0), q⟩)) fun us s3 ⟨vs, H3, I3, rv, F', ρ', m', ws, fr3, rws, hq3, p3'⟩ => ?_
  have hmet : s3.heap.get? h1.objs.size = some (PySem.W.methodObj (.ref f2) (.ref a)) := I3.hok _ _ hq3
  refine ⟨⟨hmet, I3.kIn⟩, ?_⟩
  split at p3'
  rotate_left
  · exact p3'.elim
  rename_i hlen
  obtain ⟨a', h3, q1, q2, q3, q4, q5⟩ := fr3.s.own 0 o eo
  rw [e1] at q1
  cases q1
  have r3 : Vals (V.ref a :: vs) (Value.ref a :: us) := .cons rfl rv
  have hsp : spI ⟨K, cl⟩ ps2.length γ (V.ref a :: vs) H3 (fun v H4 => D.nx σ H4) (fun c d H' => Wx c d σ H') := by
    refine ⟨by rw [List.length_cons, rws.length]; exact hlen, a, vs, F', ρ', m', ws, o, h3, rfl, fr3.r, rws, q2, q3, q4, q5, ?_⟩
    cases eg : γ o ws m' with
    | bad =>
      rw [eg] at p3'
      exact p3'
    | exc z m2 =>
      rw [eg] at p3'
      exact p3'.elim
    | ok o' m2 =>
      rw [eg] at p3'
      intro F4 ρ4 H4 h4 r4 g4 t1 t2 t3 t4
      exact p3' σ F4 ρ4 H4 (fr3.self eo e1 r4 g4 t1 t2 t3 t4)
  have hl2 : (Value.ref a :: us).length = ps2.length := by rw [← r3.length]; exact F2.len _ _ _ _ hsp
  have bt := hb2 s3 (Value.ref a :: us) I3.kIn (by rw [List.append_nil]; exact hl2)
  rw [List.append_nil] at bt
  refine wpAny_call (ks_codeAny_call_bound hmet (codeAny_mono (F2.run _ _ s3 H3 ⟨Value.ref a :: us, []⟩ (Value.ref a :: us) (V.ref a :: vs) _ _ hr I3.env0 bt r3 hsp) fun r s' hq => ?_))
  cases r with
  | error er => exact tk er s' (XE.of_call I3 (fun _ _ _ z => z) hq)
  | ok fl =>
    cases fl with
    | ret u =>
      obtain ⟨v, H5, I5, _, hnx⟩ := I3.after hq
      exact ⟨σ, H5, I5, hnx⟩
    | next => exact False.elim hq
    | brk => exact False.elim hq
    | cont => exact False.elim hq
end
end Sm

/-! S19: an __init__ that says super(); Tree.__init__. -/
namespace Sm
open PySem PySem.Spec PyProof.Rows L2

section
variable {P : Program} {w : World} {K : PySem.W.Frag} {mg : Str → Option Value} {base : Heap} {cl : Str → Addr}
theorem init_okS {x qual : Str} {params : Arguments} {body : List Stmt} {scope : Scope} {f cda cc D : Addr} {fd : FuncData} {N ps : List Str} {k : Nat} {g : Fs} (Fs : FunS P K x qual params body scope f fd cc D cda) (S : ScS N ps scope)
    (hb : ∀ (A : Around) (outer : List Env) (s : Shared) (H : Hp) (E : XK) (B : Bs), Ctx (cxS (CX P w) P w K mg base N qual scope f cda cc A outer s H E) (fun cls d _ H => E cls d H) k →
      SXA ⟨K, cl⟩ (cxS (CX P w) P w K mg base N qual scope f cda cc A outer s H E) (fun cls d _ H => E cls d H) B (.func body (envS qual scope s.heap.objs.size f cda cc)) body g) :
    FnOk P w K mg base (CX P w) (k + 1) f fd ps (spI ⟨K, cl⟩ ps.length (runI N.length g)) := by
  refine ⟨fun vs H Q E h => h.1, fun A outer s H args us vs Q E hr e0 hbd r hsp => ?_⟩
  obtain ⟨oc, od, dV, kV, doc, pm, an, ct, osl, rfl, lk⟩ := Fs.ex
  have hl := hsp.1
  have KX : K.In s.heap := e0.mod.kin.keeps fun b o e => (e0.bs b o e).1
  have lim : s.heap.NoLimit := e0.mod.nolimit.keeps fun b o e => (e0.bs b o e).1
  refine ks_codeAny_call_defAt hr.depth (KX _ _ lk) rfl lim (PySem.W.codeRec_of KX Fs.code) rfl hbd S.nocell (fun y hy => ?_) (fun h0 hns hk => ?_) S.co S.gen S.kind
  · obtain ⟨n, v⟩ := y
    exact S.par n (List.of_mem_zip hy).1
  obtain ⟨_, a, vs', F, ρ, m, ws, o, h, rfl, rr, q, h1, h2, h3, h4, p⟩ := hsp
  have tk : Takes (cxS (CX P w) P w K mg base N qual scope f cda cc A outer s H E) (fun cls d _ H => E cls d H) := takes_of rfl rfl rfl rfl
  have I := inv_startS (CXx := CX P w) (E := E) (f := f) (cda := cda) (qual := qual) (t' := s.toks + (ps.zip us).length) S Fs.cell hr.hd e0 hl r hns hk
  have B := hb A outer s H E ⟨F, ρ, del1 H a, some a⟩ ⟨rfl, tk, passes_of rfl, hr.deeper _, S.nd⟩
  refine ks_wpAt_mono (B.run [] _ _ H _ I ⟨F, ρ, m, _, start_FrI rr q h1 h2 h3 h4, okI rfl p⟩) (fun fl s' hs => ?_) fun e s' hs => hs
  have fin : ∀ {σ' : L2.St} {H' : Hp} {v : V} {u : Value}, Inv (cxS (CX P w) P w K mg base N qual scope f cda cc A outer s H E) [] σ' H' s' → RelV v u → Q v H' → CE outer P w H s Q u s' :=
    fun {σ' H' v u} J rv q => ⟨v, H', J.os, J.bare, J.base, J.hok, rv, q⟩
  cases fl with
  | ret u =>
    obtain ⟨v, σ', H', J, rv, q⟩ := hs
    exact fin J rv q
  | next =>
    obtain ⟨σ', H', J, q⟩ := hs
    exact fin (v := V.non) (u := Value.none) J rfl q
  | brk =>
    obtain ⟨_, _, _, q⟩ := hs
    exact False.elim q
  | cont =>
    obtain ⟨_, _, _, q⟩ := hs
    exact False.elim q
end
end Sm

/-! S20: extend by a tuple; Tree.__init__. -/
namespace Sm
open PySem PySem.Spec PySem.AutoSeq1
theorem ext_tup (l : Addr) (items : Array Value) (n : Nat) (b : Addr) (items2 : Array Value) (n2 : Nat) (dd : Option Addr) (sl : Array (Option Value)) (hs0 : ¬(!items.isEmpty && Builtin.List.listTooLong (items.size + items2.size)) = true) (hs1 : items.size ≤ sizeLine) (hs2 : items.size + items2.size ≤ sizeLine + 1) :
    Meets (Builtin.«list.extend» ⟨[.ref l, .ref b], []⟩) (fun _ R s => s.heap.get? l = some { cls := .type "list", dict := none, data := .seq items n, slots := #[] } ∧ s.heap.get? b = some { cls := .type "tuple", dict := dd, data := .seq items2 n2, slots := sl } ∧ R (.ok (.ret Value.none)) { s with heap := s.heap.update l (Obj.mapSeq fun x => x ++ items2), toks := s.toks }) :=
  .of_wp fun prog w A R s h => by
    obtain ⟨hp, g, d, tk, os⟩ := s; obtain ⟨hl, hb, h⟩ := h; have f1 := idx_int; have f2 := sub_tuple_tuple; have f3 := sub_list_list; have f4 := sub_tuple_list; have f5 := sub_list_tuple;
    have hz' : (items ++ items2).size ≤ sizeLine + 1 := by rw [Array.size_append]; exact hs2
    wp_walk using (wpAny_updateSeq hl rfl (hz := hs1) (_hz' := hz')), wpAny_loadPart' hl, wpAny_loadPart' hb; exact ⟨_, rfl, h⟩
end Sm
namespace Sm
open PySem PySem.Spec PyProof.Rows L2
def rExtT (K : PySem.W.Frag) : V → List V → Hp → VK → Prop := fun x vs H Q => ∃ l b xs zs, x = .ref l ∧ vs = [.ref b] ∧ H l = some (.lst xs) ∧ SqT K H b zs ∧ xs.length + zs.length ≤ sizeLine ∧ Q .non (upd H l (.lst (xs ++ zs)))
theorem mt_extT {X : Cx} : MtM X "list.extend" (rExtT X.K) := by
  intro pins s σ H x vs v us Q I rx rv h
  obtain ⟨l, b, xs, zs, rfl, rfl, hH, hB, hz, q⟩ := h
  cases rx
  obtain ⟨u, rfl, ru⟩ := rv.one
  cases ru
  obtain ⟨z, its, n, r, hl, e⟩ := I.lstM hH
  obtain ⟨its2, r2, ⟨o2, e2, hc2, n2, hd2⟩, z2⟩ := I.tuple hB
  have hl2 : zs.length = its2.length := r2.length
  obtain ⟨cls, dd, dat, sl⟩ := o2
  dsimp only at hc2 hd2
  subst hc2 hd2
  have hsz : its.toArray.size + its2.toArray.size ≤ sizeLine := by rw [List.size_toArray, List.size_toArray]; omega
  have hlong : ¬ (!its.toArray.isEmpty && Builtin.List.listTooLong (its.toArray.size + its2.toArray.size)) = true := by
    rw [notLongL hsz, Bool.and_false]
    exact Bool.false_ne_true
  refine call_meets F.slot_list_extend ⟨_, e, rfl⟩ F.entry_list_extend (F.args_list_extend_2 _ _)
    (ext_tup l its.toArray n b its2.toArray n2 dd sl hlong (by rw [List.size_toArray]; omega) (by omega)) ⟨e, e2, ?_⟩
  refine ⟨.non, _, I.lset (its' := its ++ its2) hH e (by simp) (r.append r2) ?_, rfl, q⟩
  rw [List.length_append]
  omega
/-! ### an own list is extended by a tuple -/
def sExt (i : Nat) (f : Fe) : Fs := fun τ m => match τ[i]? with
  | some (.own (.lst xs)) => exS (f τ m) τ fun w m' => match w with
    | .tup ys => if xs.length + ys.length ≤ sizeLine then .ok (.nx (τ.set i (.own (.lst (xs ++ ys))))) m' else .bad
    | _ => .bad
  | _ => .bad
section
variable {cl : Str → Addr} {X : Cx} {Wx : WX} {B : Bs} {e : Expr} {pos apos cpos : Pos}
theorem x_extend {i : Nat} {x : Str} {np : Pos} {f : Fe} (he : SE ⟨X.K, cl⟩ X Wx e f) (hN : X.N[i]? = some x := by rfl) (hv : Vis X.env.scope x := by first | exact Or.inl rfl | exact Or.inr (Or.inl rfl) | exact Or.inr (Or.inr rfl)) (hd : (x == ("__debug__" : Str)) = false := by decide) (hcd : (x == ("__classdict__" : Str)) = false := by decide)
    (hbase : attributeBase (.Name x np) "extend" X.env (eval (.Name x np) X.env) = eval (.Name x np) X.env := by rfl)
    (hfew : ((backTo cpos (starEach [e] X.env)).all (fun x => !x.1) && (backToKw cpos (keywordEach [] X.env)).all (fun x => x.1.isSome)
      && decide ([e].length + ([] : List Keyword).length + (if ([] : List Keyword).isEmpty then 0 else 1) < 30)) = true := by rfl)
    (hline : (apos.endLine == cpos.line) = true := by rfl) (hs : starEach [e] X.env = (false, eval e X.env) :: starEach [] X.env := by rfl) (hplain : (backTo cpos (starEach [] X.env)).any (·.1) = false := by rfl)
    (hsw : swapsWith (.Call (.Attribute (.Name x np) "extend" apos) [e] [] cpos) none pos.line X.env = pure false := by rfl) :
    SX ⟨X.K, cl⟩ X Wx B (.Expr (.Call (.Attribute (.Name x np) "extend" apos) [e] [] cpos) pos) (sExt i f) :=
  PS.weak (ps_expr (pe_bm PySem.F.plainAttrs_list PySem.F.slot_list_extend PySem.F.type_list_extend mt_extT (pe_var hN hv hd hcd) (pa_cons he pa_nil hs) hbase hfew hline hs hplain) hsw) fun D σ H ⟨F, ρ, m, τ, fr, p⟩ => by
    unfold sExt at p
    split at p
    · rename_i xs ho
      obtain ⟨a, h, e1, e2, e3, e4, vs, rfl, t⟩ := fr.s.own i _ ho
      refine ⟨.ref a, e1, .inl ⟨rfl, _, .of e4⟩, useE fr p fun w m' v F' ρ' H' fr' r q => ?_⟩
      obtain ⟨a', h', k1, k2, k3, k4, vs', rfl, t'⟩ := fr'.s.own i _ ho
      rw [e1] at k1
      cases k1
      split at q
      · rename_i ys
        split at q
        · rename_i hz
          unfold RW at r
          obtain ⟨b, us, rfl, sq, tu⟩ := r
          exact ⟨a, b, vs', us, rfl, rfl, k4, sqT_mono fr'.r.sub sq, by rw [t'.length, tu.length]; exact hz, q σ F' ρ' _ (fr'.upd_own ho e1 ⟨_, rfl, t'.append tu⟩)⟩
        · exact q.elim
      · exact q.elim
    · exact p.elim
end
end Sm

/-! S21: Tree.__init__. -/
namespace Sm
open PySem PySem.Spec PyProof.Rows L2
theorem NRs.snoc {c : Cn} {F : Hp} {ρ : List Addr} {C : Str} {ns : List Str} {vs kids : List W} {v : V} {r' : List V} (h1 : RW c F ρ (.tree C ns vs kids) v) (h2 : NRs c F ρ kids r') : ∀ {ks : List W} {r : List V}, NRs c F ρ ks r → NRs c F ρ (ks ++ [.tree C ns vs kids]) (r ++ (v :: r'))
  | [], r, h => by
    have e : r = [] := by unfold NRs at h; exact h
    subst e
    show NRs c F ρ [.tree C ns vs kids] (v :: r')
    unfold NRs
    refine ⟨v, r', [], by simp, h1, h2, ?_⟩
    unfold NRs
    rfl
  | .tree C' ns' vs' kids' :: ks, r, h => by
    unfold NRs at h
    obtain ⟨v1, r1, r2, rfl, q, t1, t2⟩ := h
    show NRs c F ρ (.tree C' ns' vs' kids' :: (ks ++ [.tree C ns vs kids])) _
    unfold NRs
    exact ⟨v1, r1, r2 ++ (v :: r'), by simp, q, t1, NRs.snoc h1 h2 t2⟩
  | .non :: _, _, h => by unfold NRs at h; exact h.elim
  | .bl _ :: _, _, h => by unfold NRs at h; exact h.elim
  | .int _ :: _, _, h => by unfold NRs at h; exact h.elim
  | .str _ :: _, _, h => by unfold NRs at h; exact h.elim
  | .tup _ :: _, _, h => by unfold NRs at h; exact h.elim
  | .lst _ :: _, _, h => by unfold NRs at h; exact h.elim
  | .dct _ _ :: _, _, h => by unfold NRs at h; exact h.elim
  | .obj _ _ _ :: _, _, h => by unfold NRs at h; exact h.elim
  | .ref _ :: _, _, h => by unfold NRs at h; exact h.elim
  | .ty _ :: _, _, h => by unfold NRs at h; exact h.elim
  | .cls _ :: _, _, h => by unfold NRs at h; exact h.elim
  | .exc _ _ _ :: _, _, h => by unfold NRs at h; exact h.elim
theorem Fr.slots {c : Cn} {B : Bs} {F : Hp} {ρ : List Addr} {m : Sto} {τ τ' : SS} {σ σ' : L2.St} {H : Hp} (x : Fr c B F ρ m τ σ H) (hl : τ'.length = σ'.length) (hv : ∀ (j : Nat) (w : W), τ'[j]? = some (.val w) → τ[j]? = some (.val w) ∧ σ'[j]? = σ[j]?)
    (ho : ∀ (j : Nat) (o : MO), τ'[j]? = some (.own o) → τ[j]? = some (.own o) ∧ σ'[j]? = σ[j]?) : Fr c B F ρ m τ' σ' H := by
  refine ⟨x.r, ⟨hl, fun j w e => ?_, fun j o e => ?_, fun i j o o' a n e1 e2 e3 e4 => ?_⟩, x.g, fun j o a e1 e2 => ?_, fun o a e e1 => ?_⟩
  · obtain ⟨h1, h2⟩ := hv j w e
    rw [h2]
    exact x.s.val j w h1
  · obtain ⟨h1, h2⟩ := ho j o e
    rw [h2]
    exact x.s.own j o h1
  · obtain ⟨h1, h2⟩ := ho i o e1
    obtain ⟨h3, h4⟩ := ho j o' e2
    rw [h2] at e3
    rw [h4] at e4
    exact x.s.nd i j o o' a n h1 h3 e3 e4
  · obtain ⟨h1, h2⟩ := ho j o e1
    rw [h2] at e2
    exact x.fresh j o a h1 e2
  · obtain ⟨h1, h2⟩ := ho 0 o e1
    rw [h2]
    exact x.slf o a e h1

theorem nodesL_app : ∀ (a b : List W), nodesL (a ++ b) = nodesL a ++ nodesL b
  | [], b => by
    rw [List.nil_append]
    conv => rhs; rw [nodesL]
    rfl
  | k :: a, b => by
    rw [List.cons_append]
    conv => lhs; rw [nodesL]
    conv => rhs; rw [nodesL]
    rw [nodesL_app a b, List.append_assoc]
theorem nodesL_take (ks : List W) (i : Nat) : (nodesL (ks.take i)).length ≤ (nodesL ks).length := by
  have := nodesL_app (ks.take i) (ks.drop i)
  rw [List.take_append_drop] at this
  rw [this, List.length_append]
  omega
def isT (At : Ats) : W → Bool
  | .tree C _ _ _ => hasA At C "nodes"
  | _ => false
theorem putF_new {f : Str} {v : V} : ∀ {gs : List (Str × V)}, f ∉ gs.map (·.1) → putF f v gs = gs ++ [(f, v)]
  | [], _ => rfl
  | (n, x) :: gs, h => by
    have hn : n ≠ f := fun e => h (by simp [e])
    show (if n = f then (n, v) :: gs else (n, x) :: putF f v gs) = _
    rw [if_neg hn, putF_new (fun q => h (by simp only [List.map_cons]; exact List.mem_cons_of_mem _ q))]
    rfl
theorem offN_none : ∀ {gs : List (Str × V)}, ("nodes" : Str) ∉ gs.map (·.1) → offN gs = gs
  | [], _ => rfl
  | (n, x) :: gs, h => by
    have hn : n ≠ ("nodes" : Str) := fun e => h (by simp [e])
    show (if n = ("nodes" : Str) then (n, V.non) else (n, x)) :: offN gs = _
    rw [if_neg hn, offN_none (fun q => h (by simp only [List.map_cons]; exact List.mem_cons_of_mem _ q))]
theorem lookup_none : ∀ {gs : List (Str × V)} {f : Str}, f ∉ gs.map (·.1) → gs.lookup f = none
  | [], _, _ => rfl
  | (n, x) :: gs, f, h => by
    have hn : f ≠ n := fun e => h (by simp [e])
    rw [lookup_put, if_neg hn]
    exact lookup_none (fun q => h (by simp only [List.map_cons]; exact List.mem_cons_of_mem _ q))
/-- found = [self]; for block in blocks: found.extend(block.nodes); self.nodes = tuple(found) -/
def sTree (At : Ats) : Fs := fun τ m => match (τ[(0 : Nat)]? : Option Sl), (τ[(2 : Nat)]? : Option Sl) with
  | some (.own (.ins C ns vs)), some (.val (.tup kids)) =>
    if kids.all (isT At) && hasA At C "nodes" && decide (ns.length < 1000) && !(ns.contains ("nodes" : Str)) && decide ((nodesL kids).length + 1 ≤ sizeLine) && decide (5 < τ.length)
    then .ok (.nx (((τ.set 4 .un).set 5 .un).set 0 (.own (.tin C (ns ++ [("nodes" : Str)]) (vs ++ [.non]) kids)))) m else .bad
  | _, _ => .bad
section
variable {cl : Str → Addr} {X : Cx} {Wx : WX} {B : Bs} {k : Nat} {At : Ats}
theorem x_tree {p1 p2 p3 p4 q1 q2 q3 q4 q5 q6 q7 q8 q9 r1 r2 r3 r4 r5 r6 : Pos} (x : Ctx X Wx k) (hA : AtOk X.K cl At) (hm : X.mg "tuple" = none)
    (n0 : X.N[0]? = some ("self" : Str)) (n2 : X.N[2]? = some ("blocks" : Str)) (n4 : X.N[4]? = some ("found" : Str)) (n5 : X.N[5]? = some ("block" : Str))
    (v0 : X.env.scope.names.lookup ("self" : Str) = some .local) (v2 : X.env.scope.names.lookup ("blocks" : Str) = some .local) (v4 : X.env.scope.names.lookup ("found" : Str) = some .local) (v5 : X.env.scope.names.lookup ("block" : Str) = some .local) (gt : Gl X "tuple")
    (h1 : swapsWith (.List [.Name "self" p2] p3) (some (.Name "found" p1)) p4.line X.env = pure false := by rfl)
    (h2 : swapsWith (.Call (.Attribute (.Name "found" q3) "extend" q4) [.Attribute (.Name "block" q5) "nodes" q6] [] q7) none q8.line X.env = pure false := by rfl)
    (h3 : swapsWith (.Call (.Name "tuple" r3) [.Name "found" r4] [] r5) (some (.Attribute (.Name "self" r1) "nodes" r2)) r6.line X.env = pure false := by rfl)
    (hl : (q4.endLine == q7.line) = true := by rfl) (hs : ∀ x, foldedSetIterable (.Name "blocks" q2) X.env x = pure x := by intro _; rfl)
    (hb1 : attributeBase (.Name "found" q3) "extend" X.env (eval (.Name "found" q3) X.env) = eval (.Name "found" q3) X.env := by rfl)
    (hb2 : attributeBase (.Name "block" q5) "nodes" X.env (eval (.Name "block" q5) X.env) = eval (.Name "block" q5) X.env := by rfl) :
    SXs ⟨X.K, cl⟩ X Wx B [.Assign [.Name "found" p1] (.List [.Name "self" p2] p3) p4, .For (.Name "block" q1) (.Name "blocks" q2) [.Expr (.Call (.Attribute (.Name "found" q3) "extend" q4) [.Attribute (.Name "block" q5) "nodes" q6] [] q7) q8] [] q9,
      .Assign [.Attribute (.Name "self" r1) "nodes" r2] (.Call (.Name "tuple" r3) [.Name "found" r4] [] r5) r6] (sTree At) := by
  have e0 : ∀ {p : Pos}, PE X (.Name "self" p) (tVar 0) := pe_var n0 (.inl v0)
  have e2 : ∀ {p : Pos}, PE X (.Name "blocks" p) (tVar 2) := pe_var n2 (.inl v2)
  have e4 : ∀ {p : Pos}, PE X (.Name "found" p) (tVar 4) := pe_var n4 (.inl v4)
  have e5 : ∀ {p : Pos}, PE X (.Name "block" p) (tVar 5) := pe_var n5 (.inl v5)
  refine PSs.weak (pss_cons (ps_set x.nd n4 (.inl v4) (pe_lst (pa_cons e0 pa_nil)) h1 (.inr v4)) (pss_cons (ps_for x.po x.calm (pi_tup e2) (pg_name x.nd n5 (.inl v5) (.inr v5)) (pss_one (ps_expr (pe_bm PySem.F.plainAttrs_list PySem.F.slot_list_extend PySem.F.type_list_extend mt_extT e4 (pa_cons (pe_fld e5 hb2) pa_nil) hb1 (by rfl) hl) h2)) hs)
    (pss_one (ps_fld e0 (pe_callTy call_tuple_of gt hm (by kernel_rfl) (pa_cons e4 pa_nil)) h3)))) fun D σ H ⟨F, ρ, m, τ, fr, p⟩ => ?_
  unfold sTree at p
  split at p
  rotate_left
  · exact p.elim
  rename_i C ns vs kids w0 w2
  split at p
  rotate_left
  · exact p.elim
  rename_i hc
  simp only [Bool.and_eq_true, decide_eq_true_eq, Bool.not_eq_true'] at hc
  obtain ⟨⟨⟨⟨⟨c1, c2⟩, c3⟩, c4⟩, c5⟩, c6⟩ := hc
  obtain ⟨a, h, s0, f1, f2, f3, f4⟩ := fr.s.own 0 _ w0
  obtain ⟨dx, gs, rfl, rfl, t⟩ := f4
  obtain ⟨vb, s2, rb⟩ := fr.s.val 2 _ w2
  unfold RW at rb
  obtain ⟨tb, us, rfl, sq, tu⟩ := rb
  obtain ⟨k1, k2⟩ := hasA_ok hA c2
  have hσ : 5 < σ.length := by rw [← fr.s.len]; exact c6
  have sz : 1 ≤ sizeLine := by rw [sizeLine_eq]; omega
  refine ⟨.ref a, s0, sz, fun b nb => ?_⟩
  have nba : b ≠ a := fun z => by rw [z, f3] at nb; cases nb
  have sub1 : ∀ {r : List V}, Same F (upd H b (.lst (.ref a :: r))) := fr.r.sub.trans (upd_new nb)
  refine ⟨.ref tb, by rw [List.getElem?_set_ne (by decide)]; exact s2, tb, rfl, ⟨us, sqT_mono sub1 sq⟩, fun i n σ' H' => n = kids.length - i ∧ i ≤ kids.length ∧ ∃ r, NRs ⟨X.K, cl⟩ F ρ (kids.take i) r ∧ H' = upd H b (.lst (.ref a :: r)) ∧ σ'.length = σ.length ∧ σ'[4]? = some (some (V.ref b)) ∧ ∀ j, j ≠ 4 → j ≠ 5 → σ'[j]? = σ[j]?,
    ⟨kids.length, rfl, Nat.zero_le _, [], (by rw [List.take_zero]; unfold NRs; rfl), rfl, by rw [List.length_set], set_get (by omega), fun j h4 h5 => List.getElem?_set_ne (Ne.symm h4)⟩, ?_⟩
  rintro i n σ1 H1 ⟨rfl, hi, r, nr, rfl, l1, s4, so⟩
  have hus := tu.length
  by_cases hlt : i < kids.length
  · refine .inr ⟨⟨us, us[i]'(by omega), sqT_mono sub1 sq, by simp⟩, fun σ' H' => ∃ r, NRs ⟨X.K, cl⟩ F ρ (kids.take (i + 1)) r ∧ H' = upd H b (.lst (.ref a :: r)) ∧ σ'.length = σ.length ∧ σ'[4]? = some (some (V.ref b)) ∧ ∀ j, j ≠ 4 → j ≠ 5 → σ'[j]? = σ[j]?,
      fun σ' H' h => ⟨kids.length - (i + 1), by omega, rfl, hlt, h⟩, fun v H2 y => ?_⟩
    obtain ⟨rfl, y⟩ := y
    obtain ⟨v', g1, g2⟩ := tu.get (i := i) (w := kids[i]) (by simp)
    have g3 := y us (sqT_mono sub1 sq)
    rw [g1] at g3
    cases g3
    have ht := List.all_eq_true.mp c1 kids[i] (List.getElem_mem hlt)
    cases ek : kids[i] with
    | tree C' ns' vs' kids' =>
      rw [ek] at g2 ht
      obtain ⟨j1, j2⟩ := hasA_ok hA (show hasA At C' "nodes" = true from ht)
      have g20 := g2
      unfold RW at g2
      obtain ⟨ab, dxb, gb, tt, rr, rfl, b1, b2, b3, b4, b5, b6⟩ := g2
      have tk : kids.take (i + 1) = kids.take i ++ [.tree C' ns' vs' kids'] := by rw [List.take_succ_eq_append_getElem hlt, ek]
      have nr2 := NRs.snoc g20 b6 nr
      rw [← tk] at nr2
      have len2 := (NRs.all nr2).length
      have len3 := nodesL_take kids (i + 1)
      refine ⟨.ref b, by rw [List.getElem?_set_ne (by decide)]; exact s4, .inl ⟨rfl, _, .of upd_same⟩, .ref ab, set_get (by omega), ab, _, dxb, gb, .ref tt, rfl, sub1 _ _ b1, j1, j2, b4, ?_⟩
      refine ⟨b, tt, .ref a :: r, .ref ab :: rr, rfl, rfl, upd_same, sqT_mono sub1 b5, ?_, r ++ (.ref ab :: rr), nr2, ?_, by rw [List.length_set, l1], by rw [List.getElem?_set_ne (by decide)]; exact s4, fun j h4 h5 => by rw [List.getElem?_set_ne (Ne.symm h5)]; exact so j h4 h5⟩
      · rw [List.length_append] at len2
        rw [List.length_cons]
        omega
      · rw [upd_upd]
        rfl
    | _ =>
      rw [ek] at ht
      cases ht
  · have ei : i = kids.length := by omega
    subst ei
    rw [List.take_length] at nr
    refine .inl ⟨⟨us, sqT_mono sub1 sq, by omega⟩, ?_⟩
    refine ⟨.ref b, s4, b, .ref a :: r, rfl, .inl ⟨.of upd_same, fun l nl => ?_⟩⟩
    have nlb : l ≠ b := fun z => by rw [z, upd_same] at nl; cases nl
    have nl0 : H l = none := by rw [upd_ne nlb] at nl; exact nl
    have nla : l ≠ a := fun z => by rw [z, f3] at nl0; cases nl0
    refine ⟨.ref a, by rw [so 0 (by decide) (by decide)]; exact s0, a, cl C, dx, gs, rfl, by rw [upd_ne (Ne.symm nla), upd_ne (Ne.symm nba)]; exact f3, k1, k2, by simpa using c3, ?_⟩
    obtain ⟨r1, g1⟩ := fr.r.newH nb (.lst (.ref a :: r))
    have fr1 := fr.go r1 g1
    obtain ⟨r2, g2⟩ := fr1.r.new nl (.tup (.ref a :: r))
    have fr2 := fr1.go r2 g2
    have fs : Same F (upd F l (.tup (.ref a :: r))) := g2.ff
    have fr3 : Fr ⟨X.K, cl⟩ B (upd F l (.tup (.ref a :: r))) ρ m ((τ.set 4 .un).set 5 .un) σ1 (upd (upd H b (.lst (.ref a :: r))) l (.tup (.ref a :: r))) := by
      refine fr2.slots (by rw [List.length_set, List.length_set, l1, fr.s.len]) (fun j w e => ?_) fun j o e => ?_
      · rcases get_set e with ⟨_, e⟩ | ⟨n5, e⟩
        · cases e
        · rcases get_set e with ⟨_, e⟩ | ⟨n4, e⟩
          · cases e
          · exact ⟨e, so j (Ne.symm n4) (Ne.symm n5)⟩
      · rcases get_set e with ⟨_, e⟩ | ⟨n5, e⟩
        · cases e
        · rcases get_set e with ⟨_, e⟩ | ⟨n4, e⟩
          · cases e
          · exact ⟨e, so j (Ne.symm n4) (Ne.symm n5)⟩
    have hno : ("nodes" : Str) ∉ gs.map (·.1) := fun z => by
      have := List.contains_iff_mem.mpr z
      rw [c4] at this
      cases this
    refine p σ1 _ _ _ (fr3.upd_own (o := .ins C (gs.map (·.1)) vs) (i := 0) (by rw [List.getElem?_set_ne (by decide), List.getElem?_set_ne (by decide)]; exact w0) (by rw [so 0 (by decide) (by decide)]; exact s0) ?_)
    refine ⟨dx, _, l, r, rfl, ?_, ?_, by rw [lookup_putF, if_pos rfl], .inl (.of upd_same), NRs.mono fs (.refl _) _ _ nr⟩
    · rw [offN_keys, putF_new hno, List.map_append]
      rfl
    · rw [putF_new hno]
      have eo : offN (gs ++ [(("nodes" : Str), V.ref l)]) = gs ++ [(("nodes" : Str), V.non)] := by
        unfold offN
        rw [List.map_append]
        have := offN_none hno
        unfold offN at this
        rw [this]
        rfl
      rw [eo, List.map_append]
      exact (t.mono fs (.refl _)).append (.cons rfl .nil)
end
end Sm

/-! S22: isinstance; all, any; names of the module; what is not reached. -/
namespace Sm
open PySem PySem.Spec PyProof.Rows L2

/-! ### what is never reached is worth nothing -/
theorem x_bad {c : Cn} {X : Cx} {Wx : WX} {B : Bs} {st : Stmt} : SX c X Wx B st (fun _ _ => .bad) := ⟨fun pins s σ H D I ⟨_, _, _, _, _, p⟩ => p.elim⟩
theorem x_bads {c : Cn} {X : Cx} {Wx : WX} {B : Bs} {st : List Stmt} : SXs c X Wx B st (fun _ _ => .bad) := ⟨fun pins s σ H D I ⟨_, _, _, _, _, p⟩ => p.elim⟩
theorem s_bad {c : Cn} {X : Cx} {Wx : WX} {e : Expr} : SE c X Wx e (fun _ _ => .bad) := ⟨fun pins s σ H D I ⟨_, _, _, _, _, _, p⟩ => p.elim⟩

/-! ### names of the module -/
section
variable {c : Cn} {X : Cx} {Wx : WX} {x : Str} {pos : Pos}
/-- a built-in type -/
theorem s_ty {n : String} (hm : X.mg x = none) (hv : bootBuiltins x = some (.type n)) (hg : Gl X x := by rfl) (hn : x ≠ "__name__" := by decide) (hd : (x == ("__debug__" : Str)) = false := by decide) : SE c X Wx (.Name x pos) (eC (.ty n)) := const (pe_bltn (v := .ty n) hg hm hv rfl hn hd) fun _ _ => rfl
/-- a class -/
theorem s_cls {C : Str} (hm : X.mg x = some (.ref (c.cl C))) (hg : Gl X x := by rfl) (hd : (x == ("__debug__" : Str)) = false := by decide) : SE c X Wx (.Name x pos) (eC (.cls C)) := const (pe_glob (v := .ref (c.cl C)) hg hm rfl hd) fun _ _ => rfl
/-- a text of the module -/
theorem s_gstr {z : Str} {tk : Tok} (hm : X.mg x = some (.str z tk)) (hg : Gl X x := by rfl) (hd : (x == ("__debug__" : Str)) = false := by decide) : SE c X Wx (.Name x pos) (eC (.str z)) := const (pe_glob (v := .str z) hg hm ⟨tk, rfl⟩ hd) fun _ _ => rfl
end

/-! ### isinstance -/
inductive Ty where
  | b (n : String) | c (C : Str)
deriving DecidableEq
def tyV (cl : Str → Addr) : Ty → Value
  | .b n => .type n
  | .c C => .ref (cl C)
/-- what isinstance says of a type and a class -/
abbrev Kt := List ((Ty × Ty) × Bool)
def KtOk (K : PySem.W.Frag) (cl : Str → Addr) (T : Kt) : Prop := ∀ p ∈ T, PySem.W.kitOne K (tyV cl p.1.1) (tyV cl p.1.2) = some p.2
def ktB (T : Kt) (a b : Ty) : Option Bool := (T.find? fun p => decide (p.1 = (a, b))).map (·.2)
theorem ktB_ok {K : PySem.W.Frag} {cl : Str → Addr} {T : Kt} {a b : Ty} {r : Bool} (h : KtOk K cl T) (e : ktB T a b = some r) : PySem.W.kitOne K (tyV cl a) (tyV cl b) = some r := by
  unfold ktB at e
  cases q : T.find? fun p => decide (p.1 = (a, b)) with
  | none =>
    rw [q] at e
    cases e
  | some p =>
    rw [q] at e
    cases e
    have h1 := h p (List.mem_of_find?_eq_some q)
    have h2 := List.find?_some q
    have h3 : p.1 = (a, b) := by simpa using h2
    rw [h3] at h1
    exact h1
/-- the own classes whose instances may be asked -/
structure TyC (K : PySem.W.Frag) (C : Addr) : Prop where
  cls : Cls K C
  ha : PySem.W.findIn K (.ref C) "__class__" = some (some (.builtin "object.__class__"))
  hn : PySem.W.specialIn K (.builtin "object.__class__") "__get__" = some (some (.builtin "getset_descriptor.__get__"))
  htk : PySem.W.takesIn K (.builtin "object.__class__") = some true
  hm : PySem.W.mroIn K C (.type "object") = some true
def TcOk (K : PySem.W.Frag) (cl : Str → Addr) (L : List Str) : Prop := ∀ C ∈ L, TyC K (cl C)
def tyW (L : List Str) : W → Sto → Option Ty
  | .non, _ => some (.b "NoneType")
  | .bl _, _ => some (.b "bool")
  | .int _, _ => some (.b "int")
  | .str _, _ => some (.b "str")
  | .tup _, _ => some (.b "tuple")
  | .lst _, _ => some (.b "list")
  | .obj C _ _, _ => if L.contains C then some (.c C) else none
  | .tree C _ _ _, _ => if L.contains C then some (.c C) else none
  | .ref i, m => match m[i]? with
    | some (.lst _) => some (.b "list")
    | some (.ins C _ _) => if L.contains C then some (.c C) else none
    | _ => none
  | _, _ => none
section
variable {cl : Str → Addr} {X : Cx} {L : List Str} {T : Kt} {F : Hp} {ρ : List Addr} {m : Sto} {H : Hp}
theorem tyW_ok {w : W} {v : V} {t : Ty} (hL : TcOk X.K cl L) (r : R ⟨X.K, cl⟩ F ρ m H) (q : RB ⟨X.K, cl⟩ F ρ H w v) (e : tyW L w m = some t) : TyX X.K H v (tyV cl t) := by
  have own : ∀ {C : Str} {a dx : Addr} {gs : List (Str × V)} {t : Ty}, H a = some (.ins (cl C) dx gs) → (if L.contains C then some (Ty.c C) else none) = some t → TyX X.K H (.ref a) (tyV cl t) := fun {C a dx gs t} h e => by
    split at e
    · rename_i hc
      cases e
      have k := hL C (List.contains_iff_mem.mp hc)
      exact .base (.ins h k.cls k.ha k.hn k.htk k.hm)
    · cases e
  cases w with
  | non =>
    cases e
    rw [q.non]
    exact .base .non
  | bl _ =>
    cases e
    rw [q.bl]
    exact .base (.bl _)
  | int _ =>
    cases e
    rw [q.int]
    exact .base (.int _)
  | str _ =>
    cases e
    rw [q.str]
    exact .base (.str _)
  | tup _ =>
    cases e
    obtain ⟨a, vs, rfl, h1, _⟩ := q.tup r
    rcases h1 with (h1 | ⟨o, h1⟩) | ⟨o, its, n, h1, h2, _⟩
    · exact .base (.tup h1)
    · exact .fTuple h1
    · exact .kTuple h1 h2
  | lst _ =>
    cases e
    obtain ⟨a, vs, rfl, h1, _⟩ := q.lst r
    rcases h1 with h1 | ⟨o, h1⟩
    · exact .base (.lst h1)
    · exact .base (.frz h1)
  | obj C ns vs =>
    rcases q with q | ⟨a, h, o, rfl, h2, h3, h4, h5, h6⟩
    · unfold RW at q
      obtain ⟨a, dx, gs, rfl, h1, _⟩ := q
      exact own (r.sub _ _ h1) e
    · cases o with
      | ins C' ns' vs' =>
        cases h2
        obtain ⟨dx, gs, rfl, _⟩ := h6
        exact own h3 e
      | _ => cases h2
  | tree C ns vs kids =>
    rcases q with q | ⟨a, h, o, rfl, h2, h3, h4, h5, h6⟩
    · unfold RW at q
      obtain ⟨a, dx, gs, t, rr, rfl, h1, _⟩ := q
      exact own (r.sub _ _ h1) e
    · cases o with
      | tin C' ns' vs' kids' =>
        cases h2
        obtain ⟨dx, gs, t, rr, rfl, _⟩ := h6
        exact own h3 e
      | _ => cases h2
  | ref i =>
    obtain ⟨a, rfl, h1⟩ := q.ref
    have e' : (match m[i]? with
      | some (.lst _) => some (Ty.b "list")
      | some (.ins C _ _) => if L.contains C then some (.c C) else none
      | _ => none) = some t := e
    split at e'
    · rename_i xs h2
      cases e'
      obtain ⟨vs, h3, _⟩ := r.lst h1 h2
      exact .base (.lst h3)
    · rename_i C ns vs h2
      obtain ⟨h, k1, dx, gs, rfl, _⟩ := r.at_ i a _ h1 h2
      exact own k1 e'
    · cases e'
  | dct _ _ => cases e
  | ty _ => cases e
  | cls _ => cases e
  | exc _ _ _ => cases e
def clsT : W → Option Ty
  | .ty n => some (.b n)
  | .cls C => some (.c C)
  | _ => none
def isiAny (T : Kt) (t : Ty) : List W → Option Bool
  | [] => some false
  | w :: r => match clsT w with
    | some u => (match ktB T t u with
      | some true => some true
      | some false => isiAny T t r
      | none => none)
    | none => none
/-- the classes are well formed all through -/
def clsTs : List W → Option (List Ty)
  | [] => some []
  | w :: r => match clsT w, clsTs r with
    | some t, some ts => some (t :: ts)
    | _, _ => none
def isiW (L : List Str) (T : Kt) : List W → Sto → Option W
  | [x, .tup cs], m => (match tyW L x m, clsTs cs with
    | some t, some _ => (isiAny T t cs).map .bl
    | _, _ => none)
  | [x, c], m => (match tyW L x m, clsT c with
    | some t, some u => (ktB T t u).map .bl
    | _, _ => none)
  | _, _ => none
theorem clsT_ok {w : W} {v : V} {u : Ty} (q : RW ⟨X.K, cl⟩ F ρ w v) (e : clsT w = some u) : ClsV v (tyV cl u) := by
  cases w with
  | ty n =>
    cases e
    have : v = .ty n := q
    rw [this]
    exact .ty n
  | cls C =>
    cases e
    have : v = .ref (cl C) := q
    rw [this]
    exact .own _
  | _ => cases e
theorem isiAny_ok (hT : KtOk X.K cl T) {t : Ty} : ∀ {cs : List W} {vs : List V} {ts : List Ty} {b : Bool}, RWs ⟨X.K, cl⟩ F ρ cs vs → clsTs cs = some ts → isiAny T t cs = some b → Paired ClsV vs (ts.map (tyV cl)) ∧ PySem.W.kitAny X.K (tyV cl t) (ts.map (tyV cl)) = some b
  | [], vs, ts, b, h, e1, e2 => by
    have e : vs = [] := h
    subst e
    cases e1
    cases e2
    exact ⟨.nil, kitAny_nil⟩
  | w :: cs, vs, ts, b, h, e1, e2 => by
    obtain ⟨v, r, rfl, h1, tl⟩ := h.inv
    unfold clsTs at e1
    unfold isiAny at e2
    cases k1 : clsT w with
    | none =>
      rw [k1] at e1
      cases e1
    | some u =>
      rw [k1] at e1 e2
      cases k2 : clsTs cs with
      | none =>
        rw [k2] at e1
        cases e1
      | some us =>
        rw [k2] at e1
        cases e1
        dsimp only at e2
        have pw : ∀ {cs : List W} {r : List V} {us : List Ty}, RWs ⟨X.K, cl⟩ F ρ cs r → clsTs cs = some us → Paired ClsV r (us.map (tyV cl)) := by
          intro cs
          induction cs with
          | nil =>
            intro r us h e
            have e0 : r = [] := h
            subst e0
            cases e
            exact .nil
          | cons w cs ih =>
            intro r us h e
            obtain ⟨v, r, rfl, h1, tl⟩ := h.inv
            unfold clsTs at e
            cases k1 : clsT w with
            | none =>
              rw [k1] at e
              cases e
            | some u =>
              cases k2 : clsTs cs with
              | none =>
                rw [k1, k2] at e
                cases e
              | some us =>
                rw [k1, k2] at e
                cases e
                exact .cons (clsT_ok h1 k1) (ih tl k2)
        refine ⟨.cons (clsT_ok h1 k1) (pw tl k2), ?_⟩
        cases k3 : ktB T t u with
        | none =>
          rw [k3] at e2
          cases e2
        | some x =>
          rw [k3] at e2
          cases x with
          | true =>
            cases e2
            exact kitAny_cons (ktB_ok hT k3) (fun z => nomatch z) fun _ => rfl
          | false => exact kitAny_cons (ktB_ok hT k3) (fun _ => (isiAny_ok hT tl k2 e2).2) fun z => nomatch z
/-- isinstance(x, (c1, ..)), the tuple frozen or not -/
theorem call_isiS : CallR X (.builtin "isinstance") (fun xs H Q => ∃ (x : V) (tp : Addr) (cs : List V) (t : Value) (us : List Value) (b : Bool), xs = [x, .ref tp] ∧ SqT X.K H tp cs ∧ Paired ClsV cs us ∧ TyX X.K H x t ∧ PySem.W.kitAny X.K t us = some b ∧ Q (.bl b) H) := by
  intro pins s σ H xs us Q I r h
  obtain ⟨x, tp, cs, t, ws, b, rfl, hT, k, ty, e, q⟩ := h
  obtain ⟨u1, u2, rfl, r1, r2⟩ := vals2 r
  cases (show u2 = Value.ref tp from r2)
  obtain ⟨P, Z, p, hx⟩ := kit_of I r1 ty
  obtain ⟨its, rv, ⟨o, h1, h2, n, h3⟩, _⟩ := I.tuple hT
  have e3 := ClsV.all k rv
  subst e3
  obtain ⟨oc, od, dt, sl⟩ := o
  simp only at h2 h3
  subst h2 h3
  exact PySem.W.kia_tup Z I.kIn p h1 e hx fun tk => ⟨.bl b, H, I.tok tk, rfl, q⟩
theorem c_isi (hL : TcOk X.K cl L) (hT : KtOk X.K cl T) : CallR X (.builtin "isinstance") (rC ⟨X.K, cl⟩ (isiW L T)) := by
  intro pins s σ H xs us Q I rv h
  obtain ⟨F, ρ, m, ws, w, r, q, e, k⟩ := h
  unfold isiW at e
  split at e
  · obtain ⟨v, u, rfl, q1, q2⟩ := q.two
    split at e
    · rename_i t ts h1 h2
      obtain ⟨b, e1, rfl⟩ := Option.map_eq_some_iff.mp e
      obtain ⟨a, vs, rfl, h3, tl⟩ := q2.tup r
      obtain ⟨k1, k2⟩ := isiAny_ok hT tl h2 e1
      exact call_isiS pins s σ H _ us Q I rv ⟨v, a, vs, _, _, b, rfl, h3, k1, tyW_ok hL r q1 h1, k2, k _ F ρ H r .refl rfl⟩
    · cases e
  · obtain ⟨v, u, rfl, q1, q2⟩ := q.two
    split at e
    · rename_i t tu h1 h2
      obtain ⟨b, e1, rfl⟩ := Option.map_eq_some_iff.mp e
      have q3 : RW ⟨X.K, cl⟩ F ρ _ u := q2.scal fun o eo => by
        rw [eo] at h2
        cases o <;> cases h2
      exact call_isi pins s σ H _ us Q I rv ⟨v, u, _, _, b, rfl, clsT_ok q3 h2, tyW_ok hL r q1 h1, ktB_ok hT e1, k _ F ρ H r .refl rfl⟩
    · cases e
  · cases e

/-! ### all, any -/
def blsOf : List W → Option (List Bool)
  | [] => some []
  | .bl b :: r => (blsOf r).map (b :: ·)
  | _ => none
theorem blsOf_ok {c : Cn} : ∀ {ws : List W} {vs : List V} {bs : List Bool}, RWs c F ρ ws vs → blsOf ws = some bs → vs = bs.map V.bl
  | [], vs, bs, h, e => by
    cases e
    exact h
  | w :: ws, vs, bs, h, e => by
    obtain ⟨v, r, rfl, h1, t⟩ := h.inv
    cases w with
    | bl b =>
      have e' : (blsOf ws).map (b :: ·) = some bs := e
      obtain ⟨bs', e1, rfl⟩ := Option.map_eq_some_iff.mp e'
      rw [blsOf_ok t e1, show v = .bl b from h1]
      rfl
    | _ => cases e
def allW : List W → Sto → Option W
  | [.lst xs], _ => (blsOf xs).map fun bs => .bl (bs.all id)
  | _, _ => none
def anyW : List W → Sto → Option W
  | [.lst xs], _ => (blsOf xs).map fun bs => .bl (bs.any id)
  | _, _ => none
theorem c_all (hc : X.calm = true) : CallR X (.builtin "all") (rC ⟨X.K, cl⟩ allW) := by
  intro pins s σ H xs us Q I rv h
  obtain ⟨F, ρ, m, ws, w, r, q, e, k⟩ := h
  unfold allW at e
  split at e
  · obtain ⟨v, rfl, q1⟩ := q.one
    obtain ⟨bs, e1, rfl⟩ := Option.map_eq_some_iff.mp e
    obtain ⟨a, vs, rfl, h1, t⟩ := q1.lst r
    rw [blsOf_ok t e1] at h1
    exact cr_all hc pins s σ H _ us Q I rv ⟨a, bs, rfl, .inl h1, k _ F ρ H r .refl rfl⟩
  · cases e
theorem c_any (hc : X.calm = true) : CallR X (.builtin "any") (rC ⟨X.K, cl⟩ anyW) := by
  intro pins s σ H xs us Q I rv h
  obtain ⟨F, ρ, m, ws, w, r, q, e, k⟩ := h
  unfold anyW at e
  split at e
  · obtain ⟨v, rfl, q1⟩ := q.one
    obtain ⟨bs, e1, rfl⟩ := Option.map_eq_some_iff.mp e
    obtain ⟨a, vs, rfl, h1, t⟩ := q1.lst r
    rw [blsOf_ok t e1] at h1
    exact cr_any hc pins s σ H _ us Q I rv ⟨a, bs, rfl, .inl h1, k _ F ρ H r .refl rfl⟩
  · cases e
end
end Sm

/-! S23: starred items, f-strings, join. -/
namespace Sm
open PySem PySem.Spec PyProof.Rows L2

/-- the items of a list or a tuple -/
def seqW : W → Sto → Option (List W)
  | .tup xs, _ => some xs
  | .lst xs, _ => some xs
  | .ref i, m => match m[i]? with
    | some (.lst xs) => some xs
    | _ => none
  | _, _ => none
theorem seqW_ok {cl : Str → Addr} {K : PySem.W.Frag} {F : Hp} {ρ : List Addr} {m : Sto} {H : Hp} {w : W} {v : V} {xs : List W} (r : R ⟨K, cl⟩ F ρ m H) (q : RB ⟨K, cl⟩ F ρ H w v) (e : seqW w m = some xs) : ∃ p vs, v = .ref p ∧ (SqT K H p vs ∨ SqL K H p vs) ∧ RWs ⟨K, cl⟩ F ρ xs vs := by
  cases w with
  | tup ys =>
    cases e
    obtain ⟨a, vs, rfl, h1, t⟩ := q.tup r
    exact ⟨a, vs, rfl, .inl h1, t⟩
  | lst ys =>
    cases e
    obtain ⟨a, vs, rfl, h1, t⟩ := q.lst r
    exact ⟨a, vs, rfl, .inr (.inl h1), t⟩
  | ref i =>
    obtain ⟨a, rfl, h1⟩ := q.ref
    have e' : (match m[i]? with
      | some (.lst xs) => some xs
      | _ => none) = some xs := e
    split at e'
    · rename_i ys h2
      cases e'
      obtain ⟨vs, h3, t⟩ := r.lst h1 h2
      exact ⟨a, vs, rfl, .inr (.of h3), t⟩
    · cases e'
  | _ => cases e
def aStar (f : Fe) (g : Fas) : Fas := fun τ => bnd (f τ) fun w m => match seqW w m with
  | some xs => bnd (g τ) (fun ws m => .ok (xs ++ ws) m) m
  | none => .bad
section
variable {cl : Str → Addr} {X : Cx} {Wx : WX} {e o : Expr} {es : List Expr} {f fo : Fe} {g : Fas} {pos apos p : Pos}
theorem a_star (he : SR ⟨X.K, cl⟩ X Wx e f) (hs : SA ⟨X.K, cl⟩ X Wx es g) (hst : starEach (.Starred e p :: es) X.env = (true, eval e X.env) :: starEach es X.env := by rfl) : SA ⟨X.K, cl⟩ X Wx (.Starred e p :: es) (aStar f g) :=
  PA.weak (StX.pa_star he hs hst) fun σ H Q ⟨F, ρ, m, τ, r, s, p⟩ => by
    refine ⟨F, ρ, m, τ, r, s, ?_⟩
    unfold aStar bnd at p
    cases e : f τ m with
    | bad =>
      rw [e] at p
      exact p
    | exc x m' =>
      rw [e] at p
      exact p
    | ok w m1 =>
      rw [e] at p
      dsimp only at p
      intro v F1 ρ1 H1 r1 g1 q1
      cases e3 : seqW w m1 with
      | none =>
        rw [e3] at p
        exact p.elim
      | some xs =>
        rw [e3] at p
        dsimp only at p
        obtain ⟨b, vs, rfl, h1, t⟩ := seqW_ok r1 q1 e3
        refine ⟨b, vs, rfl, h1, F1, ρ1, m1, τ, r1, s.go g1, ?_⟩
        cases e2 : g τ m1 with
        | bad =>
          rw [e2] at p
          exact p
        | exc x m' =>
          rw [e2] at p
          exact OkX.back r1 g1 p
        | ok ws m2 =>
          rw [e2] at p
          exact fun us F2 ρ2 H2 r2 g2 q2 => p (vs ++ us) F2 ρ2 H2 r2 (g1.trans g2) ((t.mono g2.ff g2.pre).append q2)

/-! ### f-strings -/
def fmtW : W → Sto → Option W
  | .str y, _ => if y.length ≤ sizeLine then some (.str y) else none
  | .int i, _ => if i.natAbs.log2 < 1920 then some (.str (toString i)) else none
  | _, _ => none
theorem s_fmt {c : Cn} (he : SR c X Wx e f) : SE c X Wx (.FormattedValue e (-1) none pos) (op1 fmtW f) := PE.weak (pe_fmt he) fun σ H Q h => w_op1R h fun F ρ m H1 w1 w x r q e k => by
  cases w1 with
  | str y =>
    have e' : (if y.length ≤ sizeLine then some (W.str y) else none) = some w := e
    split at e'
    · rename_i hz
      cases e'
      exact .inl ⟨y, q.str, hz, k _ F ρ H1 r .refl rfl⟩
    · cases e'
  | int i =>
    have e' : (if i.natAbs.log2 < 1920 then some (W.str (toString i)) else none) = some w := e
    split at e'
    · rename_i hz
      cases e'
      exact .inr ⟨i, q.int, hz, k _ F ρ H1 r .refl rfl⟩
    · cases e'
  | _ => cases e
def jsW : List Fe → Str → Fe
  | [], acc => fun _ m => .ok (.str acc) m
  | f :: fs, acc => fun τ => bnd (f τ) fun w => match w with
    | .str y => if (acc ++ y).length ≤ sizeLine then jsW fs (acc ++ y) τ else bad
    | _ => bad
/-- the pieces of an f-string -/
inductive SJ (c : Cn) (X : Cx) (Wx : WX) : List Expr → List Fe → Prop where
  | nil : SJ c X Wx [] []
  | cons {e : Expr} {f : Fe} {es : List Expr} {fs : List Fe} (h : SE c X Wx e f) (t : SJ c X Wx es fs) : SJ c X Wx (e :: es) (f :: fs)
theorem SJ.pj {c : Cn} : ∀ {es : List Expr} {fs : List Fe}, SJ c X Wx es fs → PJ X es (fs.map (sE c Wx))
  | _, _, .nil => .nil
  | _, _, .cons h t => .cons h t.pj
theorem w_js {c : Cn} {σ : L2.St} {Q : VK} : ∀ {fs : List Fe} {acc : Str} {H : Hp}, sE c Wx (jsW fs acc) σ H Q → tJs (fs.map (sE c Wx)) acc σ H fun out H1 => Q (.str out) H1
  | [], acc, H, ⟨F, ρ, m, τ, r, s, p⟩ => p _ F ρ H r .refl rfl
  | f :: fs, acc, H, ⟨F, ρ, m, τ, r, s, p⟩ => by
    refine ⟨F, ρ, m, τ, r, s, ?_⟩
    unfold jsW bnd at p
    cases e : f τ m with
    | bad =>
      rw [e] at p
      exact p
    | exc x m' =>
      rw [e] at p
      exact p
    | ok w m1 =>
      rw [e] at p
      dsimp only at p
      intro v F1 ρ1 H1 r1 g1 q1
      cases w with
      | str y =>
        dsimp only at p
        split at p
        · rename_i hz
          refine ⟨y, q1, hz, w_js ⟨F1, ρ1, m1, τ, r1, s.go g1, ?_⟩⟩
          cases e2 : jsW fs (acc ++ y) τ m1 with
          | bad =>
            rw [e2] at p
            exact p
          | exc x m' =>
            rw [e2] at p
            exact OkX.back r1 g1 p
          | ok w2 m2 =>
            rw [e2] at p
            exact OkE.back g1 p
        · exact p.elim
      | _ => exact p.elim
theorem s_js {c : Cn} {v1 v2 : Expr} {rest : List Expr} {fs : List Fe} (h : SJ c X Wx (v1 :: v2 :: rest) fs) : SE c X Wx (.JoinedStr (v1 :: v2 :: rest) pos) (jsW fs Str.empty) := PE.weak (pe_joined h.pj) fun _ _ _ q => w_js q
theorem s_js1 {c : Cn} (h : SE c X Wx e f) : SE c X Wx (.JoinedStr [e] pos) f := pe_joined1 h

/-! ### join -/
def strsOf : List W → Option (List Str)
  | [] => some []
  | .str b :: r => (strsOf r).map (b :: ·)
  | _ => none
theorem strsOf_ok {c : Cn} {F : Hp} {ρ : List Addr} : ∀ {ws : List W} {vs : List V} {bs : List Str}, RWs c F ρ ws vs → strsOf ws = some bs → vs = bs.map V.str
  | [], vs, bs, h, e => by
    cases e
    exact h
  | w :: ws, vs, bs, h, e => by
    obtain ⟨v, r, rfl, h1, t⟩ := h.inv
    cases w with
    | str b =>
      have e' : (strsOf ws).map (b :: ·) = some bs := e
      obtain ⟨bs', e1, rfl⟩ := Option.map_eq_some_iff.mp e'
      rw [strsOf_ok t e1, show v = .str b from h1]
      rfl
    | _ => cases e
def joinW (a : Str) (w : W) (m : Sto) : Option W := match seqW w m with
  | some xs => (match strsOf xs with
    | some ys => if (ys.map (·.length)).sum + ys.length * a.length ≤ 16777216 then some (.str (Txt.join a ys)) else none
    | none => none)
  | none => none
def eJoin (fo f : Fe) : Fe := fun τ => bnd (fo τ) fun x => match x with
  | .str a => bnd (f τ) fun y m => lift (joinW a y m) m
  | _ => bad
theorem s_join (ho : SE ⟨X.K, cl⟩ X Wx o fo) (he : SR ⟨X.K, cl⟩ X Wx e f) (hs : starEach [e] X.env = [(false, eval e X.env)] := by rfl) (hbase : attributeBase o "join" X.env (eval o X.env) = eval o X.env := by rfl) (hline : (apos.endLine == pos.line) = true := by rfl) :
    SE ⟨X.K, cl⟩ X Wx (.Call (.Attribute o "join" apos) [e] [] pos) (eJoin fo f) := PE.weak (pe_join ho he hs hbase hline) fun σ H Q ⟨F, ρ, m, τ, r, s, p⟩ => by
  refine ⟨F, ρ, m, τ, r, s, ?_⟩
  unfold eJoin bnd at p
  cases e : fo τ m with
  | bad =>
    rw [e] at p
    exact p
  | exc x m' =>
    rw [e] at p
    exact p
  | ok w1 m1 =>
    rw [e] at p
    dsimp only at p
    intro v F1 ρ1 H1 r1 g1 q1
    cases w1 with
    | str a =>
      dsimp only at p
      have ev : v = .str a := q1
      subst ev
      refine ⟨⟨a, rfl⟩, F1, ρ1, m1, τ, r1, s.go g1, ?_⟩
      cases e2 : f τ m1 with
      | bad =>
        rw [e2] at p
        exact p
      | exc x m' =>
        rw [e2] at p
        exact OkX.back r1 g1 p
      | ok w2 m2 =>
        rw [e2] at p
        dsimp only at p
        intro u F2 ρ2 H2 r2 g2 q2
        unfold joinW at p
        cases e3 : seqW w2 m2 with
        | none =>
          rw [e3] at p
          exact p.elim
        | some xs =>
          rw [e3] at p
          dsimp only at p
          cases e4 : strsOf xs with
          | none =>
            rw [e4] at p
            exact p.elim
          | some ys =>
            rw [e4] at p
            dsimp only at p
            obtain ⟨b, vs, rfl, h1, t⟩ := seqW_ok r2 q2 e3
            rw [strsOf_ok t e4] at h1
            split at p
            · rename_i hz
              exact ⟨a, b, ys, rfl, rfl, h1.symm, hz, p _ F2 ρ2 H2 r2 (g1.trans g2) rfl⟩
            · exact p.elim
    | _ => exact p.elim
end
end Sm

/-! S24: operators of own classes. -/
namespace Sm
open PySem PySem.Spec PySem.W PySem.Calls PyProof.Rows
section
variable {prog : Program} {w : World} {A : Around} {E : Value → Shared → Prop} {s : Shared} {K : Frag} {x C y D f g : Addr} {ox oy : Obj} {od oe : Option Obj} {nm : String} {rd : Option Value}
theorem bin2 {op : Operator} {Q : Value → Shared → Prop} (X : K.In s.heap) (I : InstAt s.heap x ox C od) (J : InstAt s.heap y oy D oe) (ne : D ≠ C) (hc : selfFirst K C = true) (hd : selfFirst K D = true)
    (hs : findIn K (.ref C) (PySem.dunder op.info.2) = some (some (.ref f))) (hf : isFn K (.ref f) = true) (hr : findIn K (.ref C) (dunderR op.info.2) = some none)
    (hs' : findIn K (.ref D) (PySem.dunder op.info.2) = some (some (.ref g))) (hr' : findIn K (.ref D) (dunderR op.info.2) = some none) (hsub : subIn K (.ref D) (.ref C) = some false)
    (h : wpAny (model prog w) A (call (.ref f) [.ref x, .ref y]) (PySem.W.CmpBack Q) E s) : wpAny (model prog w) A (binaryOp op (.ref x) (.ref y)) Q E s := by
  obtain ⟨cd, rest, hcd, hm⟩ := ksp_first hc
  obtain ⟨dd, rest', hdd, hm'⟩ := ksp_first hd
  rcases hi : op.info with ⟨sym, nm'⟩
  rw [hi] at hs hr hs' hr'
  dsimp only at hs hr hs' hr'
  have one := ksp_try X I hs hf h
  obtain ⟨hh, gg, d, tt, os⟩ := s
  have L1 : Looks (model prog w) hh (typeOf (.ref x)) (.ref C) := I.type
  have L2 : Looks (model prog w) hh (typeOf (.ref y)) (.ref D) := J.type
  have L3 : Looks (model prog w) hh (fillsNumberSlot (.ref C) nm') true := fills_K X hcd hm hs
  have L4 : Looks (model prog w) hh (fillsNumberSlot (.ref D) nm') true := fills_K X hdd hm' hs'
  have L5 : Looks (model prog w) hh (isSubtype (.ref D) (.ref C)) false := looks_subIn X hsub
  have L6 : Looks (model prog w) hh (numberSlotInPython (.ref C) nm') true := ksp_inPy X hs hr (.inl rfl)
  have L7 : Looks (model prog w) hh (numberSlotInPython (.ref D) nm') true := ksp_inPy X hs' hr' (.inl rfl)
  have hne : (Value.ref C == Value.ref D) = false := by simpa using fun e => ne e.symm
  simp only [binaryOp, hi]
  refine wpAny_holding (wpAny_bind ?_)
  unfold binaryOp1
  refine wpAny_bind (L1.at (wpAny_bind (L2.at (wpAny_bind (L3.at ?_)))))
  simp only [hne, Bool.false_eq_true, if_false]
  ksp_lk
  refine wpAny_mono one (fun r s' hr' => ?_) fun _ _ e => e
  obtain ⟨v, rfl, hq⟩ := hr'
  ksp_lk
  exact hq
end
end Sm

/-! S25: operators and methods of own classes, as rules. -/
namespace Sm
open PySem PySem.Spec PyProof.Rows L2

def clsW : W → Option Str
  | .obj C _ _ => some C
  | .tree C _ _ _ => some C
  | _ => none
/-- the method m of the class C is worth γ -/
structure CalM (P : Program) (w : World) (K : PySem.W.Frag) (mg : Str → Option Value) (base : Heap) (cl : Str → Addr) (k : Nat) (C m : Str) (n : Nat) (dws : List W) (γ : List W → M W) : Prop where
  ex : ∃ f fd ps ds dvs, FnOk P w K mg base (CX P w) k f fd ps (spF ⟨K, cl⟩ ps.length γ) ∧ ps.length = n ∧ Binds K fd ps ds ∧ Vals dvs ds ∧ (∀ F ρ, RWs ⟨K, cl⟩ F ρ dws dvs) ∧ PySem.W.findIn K (.ref (cl C)) m = some (some (.ref f)) ∧ PySem.W.isFn K (.ref f) = true ∧ PySem.W.keepIn K (.ref f) = true
section
variable {cl : Str → Addr} {X : Cx} {pins : List (Addr × Obj)} {σ : L2.St} {H : Hp} {s : Shared} {F : Hp} {ρ : List Addr} {m : Sto}
theorem inst_of {w : W} {v : V} {C : Str} (I : Inv X pins σ H s) (r : R ⟨X.K, cl⟩ F ρ m H) (q : RW ⟨X.K, cl⟩ F ρ w v) (e : clsW w = some C) : ∃ a ox od, v = .ref a ∧ PySem.W.InstAt s.heap a ox (cl C) (some od) := by
  have key : ∀ {a dx : Addr} {gs : List (Str × V)}, F a = some (.ins (cl C) dx gs) → ∃ ox od, PySem.W.InstAt s.heap a ox (cl C) (some od) := fun {a dx gs} h => by
    obtain ⟨mA, O, _⟩ := ins_get I.hok (r.sub _ _ h)
    obtain ⟨od, J, _⟩ := O.look
    exact ⟨_, od, J⟩
  cases w with
  | obj C' ns vs =>
    cases e
    unfold RW at q
    obtain ⟨a, dx, gs, rfl, h1, _⟩ := q
    obtain ⟨ox, od, J⟩ := key h1
    exact ⟨a, ox, od, rfl, J⟩
  | tree C' ns vs kids =>
    cases e
    unfold RW at q
    obtain ⟨a, dx, gs, t, rr, rfl, h1, _⟩ := q
    obtain ⟨ox, od, J⟩ := key h1
    exact ⟨a, ox, od, rfl, J⟩
  | _ => cases e
theorem cmpBack {Q : VK} {u : Value} {s' : Shared} (h : EP X pins σ Q u s') : PySem.W.CmpBack (EP X pins σ Q) u s' := by
  obtain ⟨v, H', I, rv, q⟩ := h
  cases u with
  | notImplemented => cases v <;> first | (obtain ⟨_, e⟩ := rv; cases e) | (have e : _ = _ := rv; cases e)
  | _ => exact ⟨v, H', I, rv, q⟩
/-- a call of a def of the text with values, told of results -/
theorem run_M {Wx : WX} {k : Nat} {f : Addr} {fd : FuncData} {ps : List Str} {ds : List Value} {dvs : List V} {dws : List W} {γ : List W → M W} {Q : VK} {us : List Value} {vs : List V} {ws : List W} (Fn : FnOk X.prog X.w X.K X.mg X.base (CX X.prog X.w) k f fd ps (spF ⟨X.K, cl⟩ ps.length γ)) (hr : Room k X.A) (hb : Binds X.K fd ps ds) (hd : Vals dvs ds)
    (hw : ∀ F ρ, RWs ⟨X.K, cl⟩ F ρ dws dvs) (tk : Takes X Wx) (I : Inv X pins σ H s) (rv : Vals vs us) (r : R ⟨X.K, cl⟩ F ρ m H) (q : RWs ⟨X.K, cl⟩ F ρ ws vs) (hl : (ws ++ dws).length = ps.length)
    (p : Post (OkE ⟨X.K, cl⟩ F ρ H Q) (OkX ⟨X.K, cl⟩ F ρ H fun k d H' => Wx k d σ H') (γ (ws ++ dws) m)) : wpAny (model X.prog X.w) X.A (call (.ref f) us) (EP X pins σ Q) X.xe s :=
  run_fnS Fn hr hb hd tk I rv ⟨by rw [(q.append (hw F ρ)).length]; exact hl, F, ρ, m, ws ++ dws, r, q.append (hw F ρ), p⟩
end

/-! ### a op b -/
structure OpT (K : PySem.W.Frag) (cl : Str → Addr) (nm : String) (T : List Str) : Prop where
  fst : ∀ C ∈ T, PySem.W.selfFirst K (cl C) = true
  refl : ∀ C ∈ T, PySem.W.findIn K (.ref (cl C)) (dunderR nm) = some none
  sub : ∀ C ∈ T, ∀ D ∈ T, cl D = cl C ∨ PySem.W.subIn K (.ref (cl D)) (.ref (cl C)) = some false
/-- .. with an int at the right -/
structure OpI (K : PySem.W.Frag) (cl : Str → Addr) (nm : String) (T : List Str) : Prop where
  int1 : ∃ fo, PySem.W.findIn K (.type "int") (PySem.dunder nm) = some fo
  int2 : ∃ ro, PySem.W.findIn K (.type "int") (dunderR nm) = some ro
  isub : ∀ C ∈ T, PySem.W.subIn K (.type "int") (.ref (cl C)) = some false
def opM (T : List Str) (Γ : Str → List W → M W) (x y : W) : M W := fun m => match clsW x, clsW y with
  | some C, some D => if T.contains C && T.contains D then Γ C [x, y] m else .bad
  | _, _ => .bad
def opMI (T : List Str) (Γ : Str → List W → M W) (x y : W) : M W := fun m => match clsW x, y with
  | some C, .int _ => if T.contains C then Γ C [x, y] m else .bad
  | _, _ => .bad
def e2M (g : W → W → M W) (fa fb : Fe) : Fe := fun τ => bnd (fa τ) fun x => bnd (fb τ) fun y => g x y
section
variable {cl : Str → Addr} {X : Cx} {Wx : WX} {a b : Expr} {fa fb : Fe} {pos : Pos} {k : Nat} {T : List Str} {Γ : Str → List W → M W}
def r2M (c : Cn) (Wx : WX) (σ : L2.St) (Q : VK) (g : W → W → M W) : V → V → Hp → Prop := fun x y H => ∃ F ρ m wx wy, R c F ρ m H ∧ RW c F ρ wx x ∧ RW c F ρ wy y ∧ Post (OkE c F ρ H Q) (OkX c F ρ H fun k d H' => Wx k d σ H') (g wx wy m)
theorem w_2M {c : Cn} {g : W → W → M W} {σ : L2.St} {H : Hp} {Q : VK} (h : sE c Wx (e2M g fa fb) σ H Q) : sE c Wx fa σ H fun x H1 => sE c Wx fb σ H1 fun y H2 => r2M c Wx σ Q g x y H2 := by
  obtain ⟨F, ρ, m, τ, r, s, p⟩ := h
  refine ⟨F, ρ, m, τ, r, s, ?_⟩
  unfold e2M bnd at p
  cases e : fa τ m with
  | bad =>
    rw [e] at p
    exact p
  | exc x m' =>
    rw [e] at p
    exact p
  | ok w1 m1 =>
    rw [e] at p
    dsimp only at p
    intro v F1 ρ1 H1 r1 g1 q1
    refine ⟨F1, ρ1, m1, τ, r1, s.go g1, ?_⟩
    cases e2 : fb τ m1 with
    | bad =>
      rw [e2] at p
      exact p
    | exc x m' =>
      rw [e2] at p
      exact OkX.back r1 g1 p
    | ok w2 m2 =>
      rw [e2] at p
      dsimp only at p
      intro u F2 ρ2 H2 r2 g2 q2
      refine ⟨F2, ρ2, m2, w1, w2, r2, q1.mono g2.ff g2.pre, q2, ?_⟩
      cases e3 : g w1 w2 m2 with
      | bad =>
        rw [e3] at p
        exact p
      | exc x m' =>
        rw [e3] at p
        exact OkX.back r2 (g1.trans g2) p
      | ok w m3 =>
        rw [e3] at p
        exact OkE.back (g1.trans g2) p
theorem s_binO {op : Operator} (hT : OpT X.K cl op.info.2 T) (hΓ : ∀ C ∈ T, CalM X.prog X.w X.K X.mg X.base cl k C (PySem.dunder op.info.2) 2 [] (Γ C)) (hr : Room k X.A) (tk : Takes X Wx) (ha : SE ⟨X.K, cl⟩ X Wx a fa) (hb : SE ⟨X.K, cl⟩ X Wx b fb) :
    SE ⟨X.K, cl⟩ X Wx (.BinOp a op b pos) (e2M (opM T Γ) fa fb) := by
  refine ⟨fun pins s σ H Q I h => wpAny_BinOp (binT ha hb I (w_2M h) fun v u s2 x y H2 I2 rx ry q => ?_)⟩
  obtain ⟨F, ρ, m, wx, wy, r, q1, q2, p⟩ := q
  unfold opM at p
  split at p
  · rename_i C D e1 e2
    split at p
    · rename_i hc
      obtain ⟨c1, c2⟩ := Bool.and_eq_true_iff.mp hc
      have c1' := List.contains_iff_mem.mp c1
      have c2' := List.contains_iff_mem.mp c2
      obtain ⟨ax, ox, od, rfl, J1⟩ := inst_of I2 r q1 e1
      obtain ⟨ay, oy, oe, rfl, J2⟩ := inst_of I2 r q2 e2
      cases rx
      cases ry
      obtain ⟨f, fd, ps, ds, dvs, Fn, hn, hbd, hd, hw, hs, hf, _⟩ := (hΓ C c1').ex
      obtain ⟨f', fd', ps', ds', dvs', Fn', _, _, _, _, hs', _, _⟩ := (hΓ D c2').ex
      have call := thn (run_M (us := [.ref ax, .ref ay]) (vs := [.ref ax, .ref ay]) Fn hr hbd hd hw tk I2 (.cons rfl (.cons rfl .nil)) r (.cons q1 (.cons q2 .nil)) (by rw [hn]; rfl) p) fun u s' z => cmpBack z
      rcases hT.sub C c1' D c2' with e | e
      · rw [e] at J2
        obtain ⟨fm, fr⟩ := I2.fr
        exact PySem.W.binop_K fr I2.mod.kin J1 J2.type (hT.fst C c1') hs hf call
      · by_cases ne : cl D = cl C
        · rw [ne] at J2
          obtain ⟨fm, fr⟩ := I2.fr
          exact PySem.W.binop_K fr I2.mod.kin J1 J2.type (hT.fst C c1') hs hf call
        · exact bin2 I2.kIn J1 J2 ne (hT.fst C c1') (hT.fst D c2') hs hf (hT.refl C c1') hs' (hT.refl D c2') e call
    · exact p.elim
  · exact p.elim
theorem s_binI {op : Operator} (hT : OpT X.K cl op.info.2 T) (hI : OpI X.K cl op.info.2 T) (hΓ : ∀ C ∈ T, CalM X.prog X.w X.K X.mg X.base cl k C (PySem.dunder op.info.2) 2 [] (Γ C)) (hr : Room k X.A) (tk : Takes X Wx) (ha : SE ⟨X.K, cl⟩ X Wx a fa) (hb : SE ⟨X.K, cl⟩ X Wx b fb) :
    SE ⟨X.K, cl⟩ X Wx (.BinOp a op b pos) (e2M (opMI T Γ) fa fb) := by
  refine ⟨fun pins s σ H Q I h => wpAny_BinOp (binT ha hb I (w_2M h) fun v u s2 x y H2 I2 rx ry q => ?_)⟩
  obtain ⟨F, ρ, m, wx, wy, r, q1, q2, p⟩ := q
  unfold opMI at p
  split at p
  · rename_i C i e1
    split at p
    · rename_i hc
      have c1' := List.contains_iff_mem.mp hc
      obtain ⟨ax, ox, od, rfl, J1⟩ := inst_of I2 r q1 e1
      have ey : y = .int i := q2
      subst ey
      cases rx
      obtain ⟨t, rfl⟩ := ry
      obtain ⟨f, fd, ps, ds, dvs, Fn, hn, hbd, hd, hw, hs, hf, _⟩ := (hΓ C c1').ex
      have call := thn (run_M (us := [.ref ax, .int i t]) (vs := [.ref ax, .int i]) Fn hr hbd hd hw tk I2 (.cons rfl (.cons ⟨t, rfl⟩ .nil)) r (.cons q1 (.cons q2 .nil)) (by rw [hn]; rfl) p) fun u s' z => cmpBack z
      obtain ⟨fo, i1⟩ := hI.int1
      obtain ⟨ro, i2⟩ := hI.int2
      obtain ⟨fm, fr⟩ := I2.fr
      exact PySem.W.ksp_binT fr I2.mod.kin J1 (T := "int") rfl (hT.fst C c1') hs hf (hT.refl C c1') (.inl rfl) i1 i2 (hI.isub C c1') call
    · exact p.elim
  · exact p.elim
end
end Sm

/-! S26: o.m(..), ~o, str(o), o == p. -/
namespace Sm
open PySem PySem.Spec PyProof.Rows L2

def attrs : W → List Str
  | .obj _ ns _ => ns
  | .tree _ ns _ _ => ns
  | _ => []
theorem ins_of {c : Cn} {F : Hp} {ρ : List Addr} {w : W} {v : V} {C : Str} (q : RW c F ρ w v) (e : clsW w = some C) : ∃ a dx gs, v = .ref a ∧ F a = some (.ins (c.cl C) dx gs) ∧ gs.map (·.1) = attrs w := by
  cases w with
  | obj C' ns vs =>
    cases e
    unfold RW at q
    obtain ⟨a, dx, gs, rfl, h1, h2, _⟩ := q
    exact ⟨a, dx, gs, rfl, h1, h2⟩
  | tree C' ns vs kids =>
    cases e
    unfold RW at q
    obtain ⟨a, dx, gs, t, rr, rfl, h1, h2, _⟩ := q
    rw [offN_keys] at h2
    exact ⟨a, dx, gs, rfl, h1, h2⟩
  | _ => cases e
def eMeth (mn : Str) (T : List Str) (n : Nat) (dws : List W) (Γ : Str → List W → M W) (fo : Fe) (g : Fas) : Fe := fun τ => bnd (fo τ) fun x m => match clsW x with
  | some C => if T.contains C && !((attrs x).contains mn) then bnd (g τ) (fun ws m => if (x :: ws ++ dws).length = n then Γ C (x :: ws ++ dws) m else .bad) m else .bad
  | none => .bad
section
variable {cl : Str → Addr} {X : Cx} {Wx : WX} {o e : Expr} {es : List Expr} {fo : Fe} {g : Fas} {pos apos : Pos} {k n : Nat} {T : List Str} {dws : List W} {Γ : Str → List W → M W} {mn : Str}
/-- behind the receiver -/
def rMeth (c : Cn) (Wx : WX) (σ : L2.St) (Q : VK) (mn : Str) (T : List Str) (n : Nat) (dws : List W) (Γ : Str → List W → M W) (g : Fas) (x : V) (H : Hp) : Prop :=
  ∃ F ρ m τ wx C, R c F ρ m H ∧ RS c F ρ τ σ H ∧ RW c F ρ wx x ∧ clsW wx = some C ∧ C ∈ T ∧ mn ∉ attrs wx ∧ Post (OkE c F ρ H Q) (OkX c F ρ H fun k d H' => Wx k d σ H') (bnd (g τ) (fun ws m => if (wx :: ws ++ dws).length = n then Γ C (wx :: ws ++ dws) m else .bad) m)
theorem w_meth {c : Cn} {σ : L2.St} {H : Hp} {Q : VK} (h : sE c Wx (eMeth mn T n dws Γ fo g) σ H Q) : sE c Wx fo σ H (rMeth c Wx σ Q mn T n dws Γ g) := by
  obtain ⟨F, ρ, m, τ, r, s, p⟩ := h
  refine ⟨F, ρ, m, τ, r, s, ?_⟩
  unfold eMeth bnd at p
  cases e : fo τ m with
  | bad =>
    rw [e] at p
    exact p
  | exc x m' =>
    rw [e] at p
    exact p
  | ok w1 m1 =>
    rw [e] at p
    dsimp only at p
    intro v F1 ρ1 H1 r1 g1 q1
    split at p
    · rename_i C ec
      split at p
      · rename_i hc
        obtain ⟨c1, c2⟩ := Bool.and_eq_true_iff.mp hc
        refine ⟨F1, ρ1, m1, τ, w1, C, r1, s.go g1, q1, ec, List.contains_iff_mem.mp c1, (fun z => by rw [List.contains_iff_mem.mpr z] at c2; exact Bool.noConfusion c2), ?_⟩
        unfold bnd
        cases e2 : g τ m1 with
        | bad =>
          rw [e2] at p
          exact p
        | exc x m' =>
          rw [e2] at p
          exact OkX.back r1 g1 p
        | ok ws m2 =>
          rw [e2] at p
          dsimp only at p ⊢
          split at p
          · rename_i hl
            rw [if_pos hl]
            cases e3 : Γ C (w1 :: ws ++ dws) m2 with
            | bad =>
              rw [e3] at p
              exact p
            | exc x m' =>
              rw [e3] at p
              exact OkX.back r1 g1 p
            | ok w m3 =>
              rw [e3] at p
              exact OkE.back g1 p
          · exact p.elim
      · exact p.elim
    · exact p.elim
/-- the call, behind the arguments -/
def rMeth2 (c : Cn) (Wx : WX) (σ : L2.St) (Q : VK) (n : Nat) (dws : List W) (Γ : List W → M W) (x : V) (vs : List V) (H : Hp) : Prop :=
  ∃ F ρ m ws, R c F ρ m H ∧ RWs c F ρ ws (x :: vs) ∧ (ws ++ dws).length = n ∧ Post (OkE c F ρ H Q) (OkX c F ρ H fun k d H' => Wx k d σ H') (Γ (ws ++ dws) m)
theorem w_meth2 {c : Cn} {F : Hp} {ρ : List Addr} {m : Sto} {τ : SS} {σ : L2.St} {H : Hp} {Q : VK} {wx : W} {x : V} {γ : List W → M W} (r : R c F ρ m H) (s : RS c F ρ τ σ H) (q : RW c F ρ wx x)
    (p : Post (OkE c F ρ H Q) (OkX c F ρ H fun k d H' => Wx k d σ H') (bnd (g τ) (fun ws m => if (wx :: ws ++ dws).length = n then γ (wx :: ws ++ dws) m else .bad) m)) : sA c Wx g σ H fun vs H2 => rMeth2 c Wx σ Q n dws γ x vs H2 := by
  refine ⟨F, ρ, m, τ, r, s, ?_⟩
  unfold bnd at p
  cases e : g τ m with
  | bad =>
    rw [e] at p
    exact p
  | exc x m' =>
    rw [e] at p
    exact p
  | ok ws m1 =>
    rw [e] at p
    dsimp only at p
    intro vs F1 ρ1 H1 r1 g1 q1
    split at p
    · rename_i hl
      refine ⟨F1, ρ1, m1, wx :: ws, r1, .cons (q.mono g1.ff g1.pre) q1, hl, ?_⟩
      show Post _ _ (γ (wx :: ws ++ dws) m1)
      cases e3 : γ (wx :: ws ++ dws) m1 with
      | bad =>
        rw [e3] at p
        exact p
      | exc x m' =>
        rw [e3] at p
        exact OkX.back r1 g1 p
      | ok w m3 =>
        rw [e3] at p
        exact OkE.back g1 p
    · exact p.elim
theorem s_meth {pl : Sem Bool} (hC : ∀ C ∈ T, Cls X.K (cl C)) (hΓ : ∀ C ∈ T, CalM X.prog X.w X.K X.mg X.base cl k C mn n dws (Γ C)) (hr : Room k X.A) (tk : Takes X Wx) (ho : SE ⟨X.K, cl⟩ X Wx o fo) (ha : SA ⟨X.K, cl⟩ X Wx (e :: es) g)
    (hst : starEach (e :: es) X.env = (false, eval e X.env) :: starEach es X.env := by rfl) (hpl : (backTo pos (starEach es X.env)).any (·.1) = false := by rfl)
    (ht : eval (.Call (.Attribute o mn apos) (e :: es) [] pos) X.env = (do
      let ov ← eval o X.env
      standAt apos.atName
      let (f, first) ← holding [ov] (getMethod ov mn pl)
      callWith pos f first (backTo pos (starEach (e :: es) X.env)) (backToKw pos (keywordEach [] X.env))) := by rfl) :
    SE ⟨X.K, cl⟩ X Wx (.Call (.Attribute o mn apos) (e :: es) [] pos) (eMeth mn T n dws Γ fo g) := by
  refine ⟨fun pins s σ H Q I h => ?_⟩
  refine PySem.W.methodCall_KW (pl := pl) (thn (ho.run pins s σ H _ I (w_meth h)) fun u s1 ⟨x, H1, I1, rx, F, ρ, m, τ, wx, C, r, hs, q, ec, hc, hn, p⟩ => ?_) ht
  obtain ⟨a, dx, gs, rfl, h1, h2⟩ := ins_of q ec
  obtain rfl : u = Value.ref a := rx
  obtain ⟨f, fd, ps, ds, dvs, Fn, hps, hbd, hd, hw, hf1, hf2, hf3⟩ := (hΓ C hc).ex
  refine getmeth_ok I1 (r.sub _ _ h1) (hC C hc) ⟨hf1, hf2, hf3⟩ (lookup_none (by rw [h2]; exact hn)) ?_
  refine PySem.W.callWith_K (first := [.ref a]) (h₀ := X.base) I.ok.mod.kin hf3 (thn (ha.run pos pins s1 σ H1 _ I1 (w_meth2 r hs q p)) fun us s2 ⟨vs, H2, I2, rv, F2, ρ2, m2, ws, r2, q2, hl, p2⟩ => ⟨I2.kIn, ?_⟩) hst hpl
  exact run_M (us := .ref a :: us) (vs := .ref a :: vs) Fn hr hbd hd hw tk I2 (.cons rfl rv) r2 q2 (by rw [hps]; exact hl) p2
theorem s_meth0 {pl : Sem Bool} (hC : ∀ C ∈ T, Cls X.K (cl C)) (hΓ : ∀ C ∈ T, CalM X.prog X.w X.K X.mg X.base cl k C mn n dws (Γ C)) (hr : Room k X.A) (tk : Takes X Wx) (ho : SE ⟨X.K, cl⟩ X Wx o fo)
    (ht : eval (.Call (.Attribute o mn apos) [] [] pos) X.env = (do
      let ov ← eval o X.env
      standAt apos.atName
      let (f, first) ← holding [ov] (getMethod ov mn pl)
      callWith pos f first (backTo pos (starEach [] X.env)) (backToKw pos (keywordEach [] X.env))) := by rfl) :
    SE ⟨X.K, cl⟩ X Wx (.Call (.Attribute o mn apos) [] [] pos) (eMeth mn T n dws Γ fo aNil) := by
  refine ⟨fun pins s σ H Q I h => ?_⟩
  refine PySem.W.methodCall_KW (pl := pl) (thn (ho.run pins s σ H _ I (w_meth h)) fun u s1 ⟨x, H1, I1, rx, F, ρ, m, τ, wx, C, r, hs, q, ec, hc, hn, p⟩ => ?_) ht
  obtain ⟨a, dx, gs, rfl, h1, h2⟩ := ins_of q ec
  obtain rfl : u = Value.ref a := rx
  obtain ⟨f, fd, ps, ds, dvs, Fn, hps, hbd, hd, hw, hf1, hf2, hf3⟩ := (hΓ C hc).ex
  refine getmeth_ok I1 (r.sub _ _ h1) (hC C hc) ⟨hf1, hf2, hf3⟩ (lookup_none (by rw [h2]; exact hn)) ?_
  obtain ⟨F0, ρ0, m0, τ0, r0, hs0, p0⟩ := w_meth2 (γ := Γ C) r hs q p
  obtain ⟨F2, ρ2, m2, ws, r2, q2, hl, p2⟩ := p0 [] F0 ρ0 H1 r0 .refl rfl
  exact PySem.W.callWith_K0 (first := [.ref a]) I1.kIn hf3 (run_M (us := [.ref a]) (vs := [.ref a]) Fn hr hbd hd hw tk I1 (.cons rfl .nil) r2 q2 (by rw [hps]; exact hl) p2)

/-! ### ~o -/
def op1M (T : List Str) (Γ : Str → List W → M W) (x : W) : M W := fun m => match clsW x with
  | some C => if T.contains C then Γ C [x] m else .bad
  | none => .bad
def e1M (g : W → M W) (fa : Fe) : Fe := fun τ => bnd (fa τ) fun x => g x
theorem w_1M {c : Cn} {g : W → M W} {σ : L2.St} {H : Hp} {Q : VK} {fa : Fe} (h : sE c Wx (e1M g fa) σ H Q) : sE c Wx fa σ H fun x H1 => ∃ F ρ m wx, R c F ρ m H1 ∧ RW c F ρ wx x ∧ Post (OkE c F ρ H1 Q) (OkX c F ρ H1 fun k d H' => Wx k d σ H') (g wx m) := by
  obtain ⟨F, ρ, m, τ, r, s, p⟩ := h
  refine ⟨F, ρ, m, τ, r, s, ?_⟩
  unfold e1M bnd at p
  cases e : fa τ m with
  | bad =>
    rw [e] at p
    exact p
  | exc x m' =>
    rw [e] at p
    exact p
  | ok w1 m1 =>
    rw [e] at p
    dsimp only at p
    intro v F1 ρ1 H1 r1 g1 q1
    refine ⟨F1, ρ1, m1, w1, r1, q1, ?_⟩
    cases e3 : g w1 m1 with
    | bad =>
      rw [e3] at p
      exact p
    | exc x m' =>
      rw [e3] at p
      exact OkX.back r1 g1 p
    | ok w m3 =>
      rw [e3] at p
      exact OkE.back g1 p
theorem s_inv (hΓ : ∀ C ∈ T, CalM X.prog X.w X.K X.mg X.base cl k C "__invert__" 1 [] (Γ C)) (hr : Room k X.A) (tk : Takes X Wx) (ho : SE ⟨X.K, cl⟩ X Wx o fo) : SE ⟨X.K, cl⟩ X Wx (.UnaryOp .Invert o pos) (e1M (op1M T Γ) fo) := by
  refine ⟨fun pins s σ H Q I h => UnaryOp_ (thn (ho.run pins s σ H _ I (w_1M h)) fun v s1 ⟨x, H1, I1, rx, F, ρ, m, wx, r, q, p⟩ => ?_)⟩
  unfold op1M at p
  split at p
  · rename_i C ec
    split at p
    · rename_i hc
      obtain ⟨a, ox, od, rfl, J⟩ := inst_of I1 r q ec
      cases rx
      obtain ⟨f, fd, ps, ds, dvs, Fn, hps, hbd, hd, hw, hf1, hf2, hf3⟩ := (hΓ C (List.contains_iff_mem.mp hc)).ex
      obtain ⟨fm, fr⟩ := I1.fr
      exact PySem.W.ksp_inv fr I1.mod.kin J hf1 hf2 (run_M (us := [.ref a]) (vs := [.ref a]) Fn hr hbd hd hw tk I1 (.cons rfl .nil) r (.cons q .nil) (by rw [hps]; rfl) p)
    · exact p.elim
  · exact p.elim
end
end Sm

/-! S27: own == and !=, str(o). -/
namespace Sm
open PySem PySem.Spec PySem.W PySem.Calls PyProof.Rows
section
variable {prog : Program} {w : World} {M : Model} {A : Around} {E : Value → Shared → Prop} {s : Shared} {K : Frag} {x C f : Addr} {ox : Obj} {od : Option Obj} {b tb : Value} {name : Str} {id : String}
theorem ifBound_B {args : List Value} {Q : Option Value → Shared → Prop} (X : K.In s.heap) (I : InstAt s.heap x ox C od) (hs : findIn K (.ref C) name = some (some (.builtin id))) (hb : ∀ self, bindSpecial (.builtin id) self = pure (.builtin id, [self]))
    (h : wpAny M A (call (.builtin id) (.ref x :: args)) (fun v => Q (some v)) E s) : wpAny M A (callSpecialIfBound? (.ref x) name args) Q E s := by
  simp only [callSpecialIfBound?, bindSpecialIfBound?]
  refine wpAny_holding (wpAny_bind (wpAny_bind (wpAny_bind (I.type.here ((looks_findIn X hs).here ?_)))))
  refine wpAny_bind (wpAny_askSetting (wpAny_ite ?_))
  have fin : wpAny M A (call (.builtin id) ([.ref x] ++ args) >>= fun v => pure (some v)) Q E s := wpAny_bind (wpAny_mono h (fun v s' h' => wpAny_pure h') fun _ _ h' => h')
  split
  · exact wpAny_bind ((Looks.of_pure (hb _)).here (wpAny_pure (by exact fin)))
  · exact wpAny_tryCatch (wpAny_bind ((Looks.of_pure (hb _)).here (wpAny_pure (by exact fin))))
open Builtin in
theorem one_ne {Q : Value → Shared → Prop} (hu : A.in1.units < cLine) (X : K.In s.heap) (I : InstAt s.heap x ox C od) (hm : mroIn K C (.type "object") = some true) (he : findIn K (.ref C) "__eq__" = some (some (.ref f))) (hf : isFn K (.ref f) = true)
    (h : wpAny (model prog w) A.in1 (call (.ref f) [.ref x, b]) (fun v s' => ∃ r, v = .bool r ∧ Q (.bool (!r)) s') E s) : wpAny (model prog w) A (call (.builtin "object.__ne__") [.ref x, b]) Q E s := by
  refine wpAny_call (codeAny_call_builtin PySem.F.slot_object_ne.plain PySem.F.entry_object_ne (check_slot (i := "object.__ne__") (owner := "object") (n := "__ne__") (by decide +kernel) (by decide +kernel) (I.type.andThen (looks_mroIn X hm)) (PySem.F.args_object_ne_2 _ _) ?_))
  unfold Builtin.«object.__ne__»
  refine wpAny_bind (m := slotArgs "__ne__" 1 _) (wpAny_pure ?_)
  refine wpAny_bind (m := cRoomFor _ _) (wpAny_cRoomFor hu ?_)
  refine wpAny_bind (m := callSpecialIfBound? (.ref x) (Str.ofString "__eq__") _) (ifBound_K X I he hf (wpAny_mono h (fun v s' hq => ?_) fun _ _ y => y))
  obtain ⟨r, rfl, q⟩ := hq
  exact wpAny_bind (wpAny_truthy_bool (wpAny_pure q))
theorem ne_K {Q : Value → Shared → Prop} (hu : A.units < cLine) (hu1 : A.in1.units < cLine) (X : K.In s.heap) (I : InstAt s.heap x ox C od) (hb : Looks (model prog w) s.heap (typeOf b) tb) (hn : notFirst K C tb = true) (hm : mroIn K C (.type "object") = some true)
    (hs : findIn K (.ref C) "__ne__" = some (some (.builtin "object.__ne__"))) (he : findIn K (.ref C) "__eq__" = some (some (.ref f))) (hf : isFn K (.ref f) = true)
    (h : wpAny (model prog w) A.in1 (call (.ref f) [.ref x, b]) (fun v s' => ∃ r, v = .bool r ∧ Q (.bool (!r)) s') E s) : wpAny (model prog w) A (richCompare .NotEq (.ref x) b) Q E s := by
  have one : wpAny (model prog w) A (tryCompare (.ref x) "__ne__" b) (fun r s' => ∃ v, r = some v ∧ Q v s') E s := by
    unfold tryCompare
    refine wpAny_bind (ifBound_B X I hs PySem.F.slot_object_ne.bind (one_ne hu1 X I hm he hf (wpAny_mono h (fun v s' hv => ?_) fun _ _ e => e)))
    obtain ⟨r, rfl, q⟩ := hv
    exact ⟨r, rfl, wpAny_pure ⟨_, rfl, q⟩⟩
  unfold richCompare
  simp only [oneThing_ref]
  refine wpAny_holding (wpAny_bind (wpAny_cRoomFor hu ?_))
  refine wpAny_bind (I.type.here (wpAny_bind (hb.here ?_)))
  split
  · rename_i q
    have e : subIn K tb (.ref C) = some false := by
      rcases Bool.or_eq_true_iff.mp hn with e | e
      · rw [beq_iff_eq.mp e] at q; simp at q
      · exact beq_iff_eq.mp e
    refine wpAny_bind ((looks_subIn X e).here ?_)
    simp only [Bool.false_eq_true, if_false]
    refine wpAny_bind (wpAny_mono one (fun r s' z => ?_) fun _ _ e => e)
    obtain ⟨v, rfl, hq⟩ := z
    exact wpAny_pure hq
  · refine wpAny_bind (wpAny_pure ?_)
    simp only [Bool.false_eq_true, if_false]
    refine wpAny_bind (wpAny_mono one (fun r s' z => ?_) fun _ _ e => e)
    obtain ⟨v, rfl, hq⟩ := z
    exact wpAny_pure hq
end
end Sm

/-! S28: a == b, a != b of instances. -/
namespace Sm
open PySem PySem.Spec PyProof.Rows L2
section
variable {cl : Str → Addr} {X : Cx} {pins : List (Addr × Obj)} {σ : L2.St} {H : Hp} {s : Shared} {F : Hp} {ρ : List Addr} {m : Sto}
/-- run_M, deeper within a built-in -/
theorem run_MA {A : Around} {Wx : WX} {k : Nat} {f : Addr} {fd : FuncData} {ps : List Str} {ds : List Value} {dvs : List V} {dws : List W} {γ : List W → M W} {Q : VK} {us : List Value} {vs : List V} {ws : List W} (Fn : FnOk X.prog X.w X.K X.mg X.base (CX X.prog X.w) k f fd ps (spF ⟨X.K, cl⟩ ps.length γ)) (hr : Room k A) (hfr : A.frames = X.A.frames) (hb : Binds X.K fd ps ds) (hd : Vals dvs ds)
    (hw : ∀ F ρ, RWs ⟨X.K, cl⟩ F ρ dws dvs) (tk : Takes X Wx) (I : Inv X pins σ H s) (rv : Vals vs us) (r : R ⟨X.K, cl⟩ F ρ m H) (q : RWs ⟨X.K, cl⟩ F ρ ws vs) (hl : (ws ++ dws).length = ps.length)
    (p : Post (OkE ⟨X.K, cl⟩ F ρ H Q) (OkX ⟨X.K, cl⟩ F ρ H fun k d H' => Wx k d σ H') (γ (ws ++ dws) m)) : wpAny (model X.prog X.w) A (call (.ref f) us) (EP X pins σ Q) X.xe s := by
  have h : spF ⟨X.K, cl⟩ ps.length γ (vs ++ dvs) H Q (fun k d H' => Wx k d σ H') := ⟨by rw [(q.append (hw F ρ)).length]; exact hl, F, ρ, m, ws ++ dws, r, q.append (hw F ρ), p⟩
  have r2 : Vals (vs ++ dvs) (us ++ ds) := rv.append hd
  have hl2 : (us ++ ds).length = ps.length := by rw [← r2.length]; exact Fn.len _ _ _ _ h
  have e0 : Env0 X.prog X.w X.K X.mg X.base A X.stack s H := by
    have e := I.env0
    exact ⟨by rw [hfr]; exact e.frames, e.mod, e.bs, e.bsz, e.funs, e.frf, e.hok, e.bare⟩
  refine wpAny_call (codeAny_mono (Fn.run A X.stack s H ⟨us, []⟩ (us ++ ds) (vs ++ dvs) Q _ hr e0 (hb s us I.kIn hl2) r2 h) fun r s' hq => ?_)
  cases r with
  | error e => exact tk e s' (XE.of_call I (fun _ _ _ z => z) hq)
  | ok fl =>
    cases fl with
    | ret u => exact I.after hq
    | next => exact False.elim hq
    | brk => exact False.elim hq
    | cont => exact False.elim hq
end
structure EqT (K : PySem.W.Frag) (cl : Str → Addr) (T : List Str) : Prop where
  nf : ∀ C ∈ T, ∀ D ∈ T, PySem.W.notFirst K (cl C) (.ref (cl D)) = true
  ob : ∀ C ∈ T, PySem.W.mroIn K (cl C) (.type "object") = some true
  ne : ∀ C ∈ T, PySem.W.findIn K (.ref (cl C)) "__ne__" = some (some (.builtin "object.__ne__"))
/-- the own == turned -/
def notM (T : List Str) (Γ : Str → List W → M W) (x y : W) : M W := bnd (opM T Γ x y) fun w m => match w with
  | .bl b => .ok (.bl (!b)) m
  | _ => .bad
section
variable {cl : Str → Addr} {X : Cx} {Wx : WX} {a b : Expr} {fa fb : Fe} {pos : Pos} {k : Nat} {T : List Str} {Γ : Str → List W → M W}
/-- a comparison that may run own code -/
def CmpM (c : Cn) (X : Cx) (Wx : WX) (op : CmpOp) (g : W → W → M W) : Prop :=
  ∀ (pins : List (Addr × Obj)) (s : Shared) (σ : L2.St) (H : Hp) (x y : V) (v u : Value) (Q : VK), Inv X pins σ H s → RelV x v → RelV y u → r2M c Wx σ Q g x y H → wpAny (model X.prog X.w) X.A (compareOp op v u) (EP X pins σ Q) X.xe s
theorem s_cmpM {c : Cn} {op : CmpOp} {g : W → W → M W} (ho : CmpM c X Wx op g) (ha : SE c X Wx a fa) (hb : SE c X Wx b fb) (hm : behindInMarks op b = false := by first | exact nomark _ | rfl | with_unfolding_all rfl) : SE c X Wx (.Compare a [op] [b] pos) (e2M g fa fb) :=
  ⟨fun pins s σ H Q I h => wpAny_Compare1 (binT ha hb I (w_2M h) fun v u s2 x y H2 I2 rx ry q => ho pins s2 σ H2 x y v u Q I2 rx ry q) hm⟩
theorem t_cmpM {c : Cn} {op : CmpOp} {g : W → W → M W} (ho : CmpM c X Wx op g) (ha : SE c X Wx a fa) (hb : SE c X Wx b fb) (hm : behindInMarks op b = false := by first | exact nomark _ | rfl | with_unfolding_all rfl) : ST c X Wx (.Compare a [op] [b] pos) (tBl (e2M g fa fb)) := by
  refine ⟨fun pins s σ H Q I h => ?_⟩
  obtain ⟨F, ρ, m, τ, r, hs, p⟩ := h
  have h' : sE c Wx (e2M g fa fb) σ H (fun x H' => ∃ k, x = V.bl k ∧ Q k H') := by
    refine ⟨F, ρ, m, τ, r, hs, ?_⟩
    unfold tBl bnd at p
    cases e : e2M g fa fb τ m with
    | bad =>
      rw [e] at p
      exact p
    | exc x m' =>
      rw [e] at p
      exact p
    | ok w m1 =>
      rw [e] at p
      dsimp only at p
      cases w with
      | bl k => exact fun v F' ρ' H' r' g' q' => ⟨k, q', p F' ρ' H' r' g'⟩
      | _ => exact p.elim
  refine wpAny_isTrue_Compare1 (thn (ha.run pins s σ H _ I (w_2M h')) fun v s1 ⟨x, H1, I1, r1, q1⟩ => thn (hb.run pins s1 σ H1 _ I1 q1) fun u s2 ⟨y, H2, I2, r2, q2⟩ =>
    thn (ho pins s2 σ H2 x y v u _ I2 r1 r2 q2) fun c s3 ⟨z, H3, I3, r3, k, e, q3⟩ => ?_) hm
  subst e
  cases r3
  exact wpAny_truthy_bool ⟨H3, I3, q3⟩
theorem m_eqO (hT : EqT X.K cl T) (hΓ : ∀ C ∈ T, CalM X.prog X.w X.K X.mg X.base cl k C "__eq__" 2 [] (Γ C)) (hr : Room k X.A) (tk : Takes X Wx) : CmpM ⟨X.K, cl⟩ X Wx .Eq (opM T Γ) := by
  intro pins s2 σ H2 x y v u Q I2 rx ry q
  obtain ⟨F, ρ, m, wx, wy, r, q1, q2, p⟩ := q
  unfold opM at p
  split at p
  · rename_i C D e1 e2
    split at p
    · rename_i hc
      obtain ⟨c1, c2⟩ := Bool.and_eq_true_iff.mp hc
      have c1' := List.contains_iff_mem.mp c1
      have c2' := List.contains_iff_mem.mp c2
      obtain ⟨ax, ox, od, rfl, J1⟩ := inst_of I2 r q1 e1
      obtain ⟨ay, oy, oe, rfl, J2⟩ := inst_of I2 r q2 e2
      cases rx
      cases ry
      obtain ⟨f, fd, ps, ds, dvs, Fn, hn, hbd, hd, hw, hs, hf, _⟩ := (hΓ C c1').ex
      obtain ⟨fm, fr⟩ := I2.fr
      exact PySem.W.cmp_ofEq (PySem.W.cmp_K (op := .Eq) hr.units0 fr I2.mod.kin J1 J2.type (hT.nf C c1' D c2') hs hf
        (thn (run_M (us := [.ref ax, .ref ay]) (vs := [.ref ax, .ref ay]) Fn hr hbd hd hw tk I2 (.cons rfl (.cons rfl .nil)) r (.cons q1 (.cons q2 .nil)) (by rw [hn]; rfl) p) fun u s' z => cmpBack z))
    · exact p.elim
  · exact p.elim
theorem m_neO (hT : EqT X.K cl T) (hΓ : ∀ C ∈ T, CalM X.prog X.w X.K X.mg X.base cl k C "__eq__" 2 [] (Γ C)) (hr : Room (k + 1) X.A) (tk : Takes X Wx) : CmpM ⟨X.K, cl⟩ X Wx .NotEq (notM T Γ) := by
  intro pins s2 σ H2 x y v u Q I2 rx ry q
  obtain ⟨F, ρ, m, wx, wy, r, q1, q2, p⟩ := q
  unfold notM opM bnd at p
  dsimp only at p
  cases e1 : clsW wx with
  | none =>
    rw [e1] at p
    exact p.elim
  | some C =>
    cases e2 : clsW wy with
    | none =>
      rw [e1, e2] at p
      exact p.elim
    | some D =>
      rw [e1, e2] at p
      dsimp only at p
      by_cases hc : (T.contains C && T.contains D) = true
      · rw [if_pos hc] at p
        obtain ⟨c1, c2⟩ := Bool.and_eq_true_iff.mp hc
        have c1' := List.contains_iff_mem.mp c1
        have c2' := List.contains_iff_mem.mp c2
        obtain ⟨ax, ox, od, rfl, J1⟩ := inst_of I2 r q1 e1
        obtain ⟨ay, oy, oe, rfl, J2⟩ := inst_of I2 r q2 e2
        cases rx
        cases ry
        obtain ⟨f, fd, ps, ds, dvs, Fn, hn, hbd, hd, hw, hs, hf, _⟩ := (hΓ C c1').ex
        have p' : Post (OkE ⟨X.K, cl⟩ F ρ H2 (fun v H' => ∃ b, v = .bl b ∧ Q (.bl (!b)) H')) (OkX ⟨X.K, cl⟩ F ρ H2 fun k d H' => Wx k d σ H') (Γ C ([wx, wy] ++ []) m) := by
          show Post _ _ (Γ C [wx, wy] m)
          cases e3 : Γ C [wx, wy] m with
          | bad =>
            rw [e3] at p
            exact p
          | exc z m' =>
            rw [e3] at p
            exact p
          | ok w m' =>
            rw [e3] at p
            cases w with
            | bl b =>
              intro v F' ρ' H' r' g' q'
              exact ⟨b, q', p _ F' ρ' H' r' g' rfl⟩
            | _ => exact p.elim
        refine PySem.W.cmp_ofNotEq (ne_K hr.units0 hr.in1.units0 I2.kIn J1 J2.type (hT.nf C c1' D c2') (hT.ob C c1') (hT.ne C c1') hs hf
          (thn (run_MA (A := X.A.in1) (us := [.ref ax, .ref ay]) (vs := [.ref ax, .ref ay]) Fn hr.in1 rfl hbd hd hw tk I2 (.cons rfl (.cons rfl .nil)) r (.cons q1 (.cons q2 .nil)) (by rw [hn]; rfl) p') fun u s' z => ?_))
        obtain ⟨v, H', I', rv, b, rfl, q⟩ := z
        cases rv
        exact ⟨b, rfl, .bl (!b), H', I', rfl, q⟩
      · rw [if_neg hc] at p
        exact p.elim
end
end Sm

/-! S29: str(e). -/
namespace Sm
open PySem PySem.Spec PyProof.Rows L2
def strM (T : List Str) (Γ : Str → List W → M W) (x : W) : M W := fun m => match clsW x with
  | some C => if T.contains C then (match Γ C [x] m with
      | .ok (.str y) m' => .ok (.str y) m'
      | .ok _ _ => .bad
      | .exc e m' => .exc e m'
      | .bad => .bad) else .bad
  | none => lift (strW [x] m) m
section
variable {cl : Str → Addr} {X : Cx} {Wx : WX} {e : Expr} {fe : Fe} {p pos : Pos} {k : Nat} {T : List Str} {Γ : Str → List W → M W}
theorem s_str' (hΓ : ∀ C ∈ T, CalM X.prog X.w X.K X.mg X.base cl k C "__str__" 1 [] (Γ C)) (hr : Room (k + 2) X.A) (tk : Takes X Wx) (he : SE ⟨X.K, cl⟩ X Wx e fe) (hm : X.mg "str" = none) (hg : Gl X "str" := by rfl)
    (hst : starEach [e] X.env = (false, eval e X.env) :: starEach [] X.env := by rfl) (hpl : (backTo pos (starEach [] X.env)).any (·.1) = false := by rfl) : SE ⟨X.K, cl⟩ X Wx (.Call (.Name "str" p) [e] [] pos) (e1M (strM T Γ) fe) := by
  refine ⟨fun pins s σ H Q I h => ?_⟩
  have hb : bootBuiltins "str" = some (.type "str") := by kernel_rfl
  have ha : PA X [e] (tCons (sE ⟨X.K, cl⟩ Wx fe) tNil) := pa_cons he pa_nil hst
  refine wpAny_Call_Name_kw (ld_blt I hg hm hb ?_ (by decide) (by decide))
  refine PyProof.Rows.callWith_type1 (thn (ha.run pos pins s σ H (fun vs H1 => ∃ x, vs = [x] ∧ ∃ F ρ m wx, R ⟨X.K, cl⟩ F ρ m H1 ∧ RW ⟨X.K, cl⟩ F ρ wx x ∧ Post (OkE ⟨X.K, cl⟩ F ρ H1 Q) (OkX ⟨X.K, cl⟩ F ρ H1 fun k d H' => Wx k d σ H') (strM T Γ wx m)) I ?_) fun us s1 ⟨vs, H1, I1, r1, x, ex, F, ρ, m, wx, r, q, pp⟩ => ?_) hst hpl
  · obtain ⟨F, ρ, m, τ, r, hs, p⟩ := w_1M h
    refine ⟨F, ρ, m, τ, r, hs, ?_⟩
    cases e1 : fe τ m with
    | bad =>
      rw [e1] at p
      exact p
    | exc z m' =>
      rw [e1] at p
      exact p
    | ok w m1 =>
      rw [e1] at p
      exact fun v F' ρ' H' r' g' q' => ⟨v, rfl, p v F' ρ' H' r' g' q'⟩
  subst ex
  show wpAny _ _ (call (.type "str") us) _ _ _
  unfold strM at pp
  cases ec : clsW wx with
  | none =>
    rw [ec] at pp
    dsimp only at pp
    cases wx with
    | int i =>
      have ex : x = .int i := q
      subst ex
      unfold strW at pp
      dsimp only at pp
      by_cases hi : i.natAbs.log2 < 1920
      · rw [if_pos hi] at pp
        exact call_str_int pins s1 σ H1 _ us Q I1 r1 ⟨i, rfl, hi, pp _ F ρ H1 r .refl rfl⟩
      · rw [if_neg hi] at pp
        exact pp.elim
    | str a =>
      have ex : x = .str a := q
      subst ex
      exact SkE.call_str_str pins s1 σ H1 _ us Q I1 r1 ⟨a, rfl, pp _ F ρ H1 r .refl rfl⟩
    | _ => exact pp.elim
  | some C =>
    rw [ec] at pp
    dsimp only at pp
    by_cases hc : T.contains C = true
    · rw [if_pos hc] at pp
      obtain ⟨a, ox, od, rfl, J⟩ := inst_of I1 r q ec
      obtain ⟨u, rfl, ru⟩ := vals1 r1
      cases ru
      obtain ⟨f, fd, ps, ds, dvs, Fn, hps, hbd, hd, hw, hf1, hf2, hf3⟩ := (hΓ C (List.contains_iff_mem.mp hc)).ex
      have p' : Post (OkE ⟨X.K, cl⟩ F ρ H1 (fun v H' => ∃ y, v = .str y ∧ Q (.str y) H')) (OkX ⟨X.K, cl⟩ F ρ H1 fun k d H' => Wx k d σ H') (Γ C ([wx] ++ []) m) := by
        show Post _ _ (Γ C [wx] m)
        cases e3 : Γ C [wx] m with
        | bad =>
          rw [e3] at pp
          exact pp
        | exc z m' =>
          rw [e3] at pp
          exact pp
        | ok w m' =>
          rw [e3] at pp
          cases w with
          | str y =>
            intro v F' ρ' H' r' g' q'
            exact ⟨y, q', pp _ F' ρ' H' r' g' rfl⟩
          | _ => exact pp.elim
      refine PySem.W.kso_call hr.in1.in1.units0 I1.kIn J hf1 hf2 (thn (run_MA (A := X.A.in1.in1) (us := [.ref a]) (vs := [.ref a]) Fn hr.in1.in1 rfl hbd hd hw tk I1 (.cons rfl .nil) r (.cons q .nil) (by rw [hps]; rfl) p') fun u s' z => ?_)
      obtain ⟨v, H', I', rv, y, rfl, qq⟩ := z
      obtain ⟨t, rfl⟩ := rv
      exact ⟨.str y, H', I', ⟨t, rfl⟩, qq⟩
    · rw [if_neg hc] at pp
      exact pp.elim
end
end Sm

/-! S30: x op= e of own classes. -/
namespace Sm
open PySem PySem.Spec PySem.W PySem.Calls PyProof.Rows
section
variable {prog : Program} {w : World} {M : Model} {A : Around} {E : Value → Shared → Prop} {s : Shared} {K : Frag} {x C y D f g : Addr} {ox oy : Obj} {od oe : Option Obj} {nm : String}
theorem anyM_no {h : Heap} {fn : Value → Sem Bool} : ∀ {l : List Value}, (∀ c ∈ l, Looks M h (fn c) false) → Looks M h (l.anyM fn) false
  | [], _ => .now
  | c :: r, e => by
    rw [List.anyM_cons]
    exact (e c (by simp)).andThen (anyM_no fun d hd => e d (List.mem_cons_of_mem _ hd))
def noI (K : Frag) (C : Addr) (nm : String) : Bool := (clsIn K C).any fun cd => cd.mro.all fun c => findIn K c (dunderI nm) == some none
theorem fillsI_no {h : Heap} {add : Bool} (X : K.In h) (hn : noI K C nm = true) : Looks M h (fillsInplaceSlot (.ref C) nm add) false := by
  obtain ⟨cd, hc, hm⟩ := any_some hn
  unfold fillsInplaceSlot
  refine ((looks_clsIn X hc).andThen (f := fun cd => pure cd.mro) .now).andThen (anyM_no fun c hcm => ?_)
  have e := beq_iff_eq.mp (List.all_eq_true.mp hm c hcm)
  exact (looks_findIn X e).andThen .now
theorem bin1 {Q : Value → Shared → Prop} (X : K.In s.heap) (I : InstAt s.heap x ox C od) (J : InstAt s.heap y oy D oe) (hc : selfFirst K C = true) (hd : selfFirst K D = true)
    (hs : findIn K (.ref C) (PySem.dunder nm) = some (some (.ref f))) (hf : isFn K (.ref f) = true) (hr : findIn K (.ref C) (dunderR nm) = some none)
    (hs' : findIn K (.ref D) (PySem.dunder nm) = some (some (.ref g))) (hr' : findIn K (.ref D) (dunderR nm) = some none) (hsub : D = C ∨ subIn K (.ref D) (.ref C) = some false)
    (h : wpAny (model prog w) A (call (.ref f) [.ref x, .ref y]) (PySem.W.CmpBack Q) E s) : wpAny (model prog w) A (binaryOp1 nm (.ref x) (.ref y)) (fun r s' => ∃ v, r = some v ∧ Q v s') E s := by
  obtain ⟨cd, rest, hcd, hm⟩ := ksp_first hc
  obtain ⟨dd, rest', hdd, hm'⟩ := ksp_first hd
  have one := ksp_try X I hs hf h
  obtain ⟨hh, gg, d, tt, os⟩ := s
  have L1 : Looks (model prog w) hh (typeOf (.ref x)) (.ref C) := I.type
  have L2 : Looks (model prog w) hh (typeOf (.ref y)) (.ref D) := J.type
  have L3 : Looks (model prog w) hh (fillsNumberSlot (.ref C) nm) true := fills_K X hcd hm hs
  have L4 : Looks (model prog w) hh (fillsNumberSlot (.ref D) nm) true := fills_K X hdd hm' hs'
  have L6 : Looks (model prog w) hh (numberSlotInPython (.ref C) nm) true := ksp_inPy X hs hr (.inl rfl)
  have L7 : Looks (model prog w) hh (numberSlotInPython (.ref D) nm) true := ksp_inPy X hs' hr' (.inl rfl)
  unfold binaryOp1
  refine wpAny_bind (L1.at (wpAny_bind (L2.at (wpAny_bind (L3.at ?_)))))
  by_cases ne : D = C
  · subst ne
    simp only [beq_self_eq_true, if_true]
    ksp_lk
    refine wpAny_mono one (fun r s' hr' => ?_) fun _ _ e => e
    obtain ⟨v, rfl, hq⟩ := hr'
    exact wpAny_pure ⟨v, rfl, hq⟩
  · have L5 : Looks (model prog w) hh (isSubtype (.ref D) (.ref C)) false := looks_subIn X (hsub.resolve_left ne)
    have hne : (Value.ref C == Value.ref D) = false := by simpa using fun e => ne e.symm
    simp only [hne, Bool.false_eq_true, if_false]
    ksp_lk
    refine wpAny_mono one (fun r s' hr' => ?_) fun _ _ e => e
    obtain ⟨v, rfl, hq⟩ := hr'
    exact wpAny_pure ⟨v, rfl, hq⟩
theorem inpl {op : Operator} {Q : Value → Shared → Prop} {b : Value} (X : K.In s.heap) (I : InstAt s.heap x ox C od) (hn : noI K C op.info.2 = true)
    (h : wpAny (model prog w) A (binaryOp1 op.info.2 (.ref x) b) (fun r s' => ∃ v, r = some v ∧ Q v s') E s) : wpAny (model prog w) A (inplaceOp op (.ref x) b) Q E s := by
  unfold inplaceOp
  refine wpAny_holding (wpAny_bind (I.type.here (wpAny_bind ((fillsI_no X hn).here ?_))))
  simp only [Bool.false_eq_true, if_false]
  refine wpAny_bind (wpAny_mono h (fun r s' hr => ?_) fun _ _ e => e)
  obtain ⟨v, rfl, q⟩ := hr
  exact wpAny_pure q
end
end Sm

/-! S31: x op= e as a statement. -/
namespace Sm
section
open PySem PySem.Spec PySem.W PySem.Calls PyProof.Rows
variable {prog : Program} {w : World} {M : Model} {A : Around} {E : Value → Shared → Prop} {s : Shared} {K : Frag} {x C f : Addr} {ox : Obj} {od : Option Obj} {nm T : String}
theorem bin1T {b : Value} {fo ro : Option Value} {Q : Value → Shared → Prop} (X : K.In s.heap) (I : InstAt s.heap x ox C od) (hb : typeOf b = pure (.type T)) (hc : selfFirst K C = true)
    (hs : findIn K (.ref C) (PySem.dunder nm) = some (some (.ref f))) (hf : isFn K (.ref f) = true) (hr : findIn K (.ref C) (dunderR nm) = some none)
    (h1 : findIn K (.type T) (PySem.dunder nm) = some fo) (h2 : findIn K (.type T) (dunderR nm) = some ro) (hsub : subIn K (.type T) (.ref C) = some false)
    (h : wpAny (model prog w) A (call (.ref f) [.ref x, b]) (PySem.W.CmpBack Q) E s) : wpAny (model prog w) A (binaryOp1 nm (.ref x) b) (fun r s' => ∃ v, r = some v ∧ Q v s') E s := by
  obtain ⟨cd, rest, hcd, hm⟩ := ksp_first hc
  have one := ksp_try X I hs hf h
  obtain ⟨hh, g, d, tt, os⟩ := s
  have L1 : Looks (model prog w) hh (typeOf (.ref x)) (.ref C) := I.type
  have L2 : Looks (model prog w) hh (typeOf b) (.type T) := Looks.of_pure hb
  have L3 : Looks (model prog w) hh (fillsNumberSlot (.ref C) nm) true := fills_K X hcd hm hs
  have L4 : Looks (model prog w) hh (fillsNumberSlot (.type T) nm) ((fo.isSome && !isSeqSlot fo) || (ro.isSome && !isSeqSlot ro)) := ksp_fillsT X h1 h2
  have L5 : Looks (model prog w) hh (isSubtype (.type T) (.ref C)) false := looks_subIn X hsub
  have L6 : Looks (model prog w) hh (numberSlotInPython (.ref C) nm) true := ksp_inPy X hs hr (.inl rfl)
  have L7 : Looks (model prog w) hh (numberSlotInPython (.type T) nm) false := Looks.of_pure rfl
  have L8 : Looks (model prog w) hh (typeLookup (.type T) (dunderR nm)) ro := looks_findIn X h2
  generalize ((fo.isSome && !isSeqSlot fo) || (ro.isSome && !isSeqSlot ro)) = right at L4
  have hne : (Value.ref C == Value.type T) = false := Bool.eq_false_iff.mpr fun q => by cases beq_iff_eq.mp q
  unfold binaryOp1
  refine wpAny_bind (L1.at (wpAny_bind (L2.at (wpAny_bind (L3.at ?_)))))
  simp only [hne, Bool.false_eq_true, if_false]
  cases right with
  | false =>
    ksp_lk
    refine wpAny_mono one (fun r s' hr' => ?_) fun _ _ e => e
    obtain ⟨v, rfl, hq⟩ := hr'
    exact wpAny_pure ⟨v, rfl, hq⟩
  | true =>
    ksp_lk
    refine wpAny_mono one (fun r s' hr' => ?_) fun _ _ e => e
    obtain ⟨v, rfl, hq⟩ := hr'
    exact wpAny_pure ⟨v, rfl, hq⟩
end
open PySem PySem.Spec PyProof.Rows L2
def tIpM (c : Cn) (g : W → W → M W) : TIp := fun x y H Q => ∃ F ρ m wx wy, R c F ρ m H ∧ RW c F ρ wx x ∧ RW c F ρ wy y ∧ Post (OkE c F ρ H Q) (fun _ _ => False) (g wx wy m)
def sAug (i : Nat) (f : Fe) (g : W → W → M W) : Fs := fun τ m => match τ[i]? with
  | some (.val x) => exS (f τ m) τ fun y m' => match g x y m' with
    | .ok w m2 => .ok (.nx (τ.set i (.val w))) m2
    | _ => .bad
  | _ => .bad
section
variable {cl : Str → Addr} {X : Cx} {Wx : WX} {B : Bs} {e : Expr} {f : Fe} {pos : Pos} {k : Nat} {T : List Str} {Γ : Str → List W → M W}
theorem x_aug {i : Nat} {x : Str} {op : Operator} {g : W → W → M W} {pos' : Pos} (ho : PIp X op (tIpM ⟨X.K, cl⟩ g)) (hN : X.N.Nodup) (hi : X.N[i]? = some x) (hx : Loc X.env.scope x) (h : SE ⟨X.K, cl⟩ X Wx e f) (i0 : i ≠ 0 := by decide)
    (hf : X.fn x = true ∨ X.env.scope.names.lookup x = some .local := by first | exact .inl rfl | exact .inr rfl | assumption) : SX ⟨X.K, cl⟩ X Wx B (.AugAssign (.Name x pos') op e pos) (sAug i f g) :=
  PS.weak (ps_aug hN hi hx h ho hf) fun D σ H ⟨F, ρ, m, τ, fr, p⟩ => by
    unfold sAug at p
    split at p
    · rename_i wx ex
      obtain ⟨v, e1, e2⟩ := fr.s.val i wx ex
      refine ⟨v, e1, useG fr p fun wy m' u F' ρ' H' gg fr' q k => ⟨F', ρ', m', wx, wy, fr'.r, e2.mono gg.ff gg.pre, q, ?_⟩⟩
      cases e3 : g wx wy m' with
      | bad =>
        rw [e3] at k
        exact k
      | exc z m2 =>
        rw [e3] at k
        exact k.elim
      | ok w m2 =>
        rw [e3] at k
        intro z F2 ρ2 H2 r2 g2 q2
        have fr2 := fr'.go r2 g2
        exact k _ F2 ρ2 H2 ⟨fr2.r, fr2.s.setv q2, fr2.g, fun j o a h1 h2 => by
          rcases get_set h1 with ⟨_, e⟩ | ⟨ne, h1⟩
          · cases e
          · rw [List.getElem?_set_ne ne] at h2
            exact fr2.fresh j o a h1 h2, fun o a eb h1 => by
          rcases get_set h1 with ⟨_, e⟩ | ⟨ne, h1⟩
          · cases e
          · rw [List.getElem?_set_ne ne]
            exact fr2.slf o a eb h1⟩
    · exact p.elim
theorem ip_O {op : Operator} (hT : OpT X.K cl op.info.2 T) (hI : ∀ C ∈ T, noI X.K (cl C) op.info.2 = true) (hΓ : ∀ C ∈ T, CalM X.prog X.w X.K X.mg X.base cl k C (PySem.dunder op.info.2) 2 [] (Γ C)) (hr : Room k X.A) (tk : Takes X Wx) : PIp X op (tIpM ⟨X.K, cl⟩ (opM T Γ)) := by
  intro pins s2 σ H2 x y v u Q I2 rx ry q
  obtain ⟨F, ρ, m, wx, wy, r, q1, q2, p⟩ := q
  unfold opM at p
  split at p
  · rename_i C D e1 e2
    split at p
    · rename_i hc
      obtain ⟨c1, c2⟩ := Bool.and_eq_true_iff.mp hc
      have c1' := List.contains_iff_mem.mp c1
      have c2' := List.contains_iff_mem.mp c2
      obtain ⟨ax, ox, od, rfl, J1⟩ := inst_of I2 r q1 e1
      obtain ⟨ay, oy, oe, rfl, J2⟩ := inst_of I2 r q2 e2
      cases rx
      cases ry
      obtain ⟨f, fd, ps, ds, dvs, Fn, hn, hbd, hd, hw, hs, hf, _⟩ := (hΓ C c1').ex
      obtain ⟨f', fd', ps', ds', dvs', Fn', _, _, _, _, hs', _, _⟩ := (hΓ D c2').ex
      have p' : Post (OkE ⟨X.K, cl⟩ F ρ H2 Q) (OkX ⟨X.K, cl⟩ F ρ H2 fun k d H' => Wx k d σ H') (Γ C ([wx, wy] ++ []) m) := by
        show Post _ _ (Γ C [wx, wy] m)
        cases e3 : Γ C [wx, wy] m with
        | bad =>
          rw [e3] at p
          exact p
        | exc z m2 =>
          rw [e3] at p
          exact p.elim
        | ok w m2 =>
          rw [e3] at p
          exact p
      have call := thn (run_M (us := [.ref ax, .ref ay]) (vs := [.ref ax, .ref ay]) Fn hr hbd hd hw tk I2 (.cons rfl (.cons rfl .nil)) r (.cons q1 (.cons q2 .nil)) (by rw [hn]; rfl) p') fun u s' z => cmpBack z
      exact inpl I2.kIn J1 (hI C c1') (bin1 I2.kIn J1 J2 (hT.fst C c1') (hT.fst D c2') hs hf (hT.refl C c1') hs' (hT.refl D c2') (hT.sub C c1' D c2') call)
    · exact p.elim
  · exact p.elim
theorem ip_I {op : Operator} (hT : OpT X.K cl op.info.2 T) (hN : OpI X.K cl op.info.2 T) (hI : ∀ C ∈ T, noI X.K (cl C) op.info.2 = true) (hΓ : ∀ C ∈ T, CalM X.prog X.w X.K X.mg X.base cl k C (PySem.dunder op.info.2) 2 [] (Γ C)) (hr : Room k X.A) (tk : Takes X Wx) : PIp X op (tIpM ⟨X.K, cl⟩ (opMI T Γ)) := by
  intro pins s2 σ H2 x y v u Q I2 rx ry q
  obtain ⟨F, ρ, m, wx, wy, r, q1, q2, p⟩ := q
  unfold opMI at p
  split at p
  · rename_i C i e1
    split at p
    · rename_i hc
      have c1' := List.contains_iff_mem.mp hc
      obtain ⟨ax, ox, od, rfl, J1⟩ := inst_of I2 r q1 e1
      have ey : y = .int i := q2
      subst ey
      cases rx
      obtain ⟨t, rfl⟩ := ry
      obtain ⟨f, fd, ps, ds, dvs, Fn, hn, hbd, hd, hw, hs, hf, _⟩ := (hΓ C c1').ex
      have p' : Post (OkE ⟨X.K, cl⟩ F ρ H2 Q) (OkX ⟨X.K, cl⟩ F ρ H2 fun k d H' => Wx k d σ H') (Γ C ([wx, .int i] ++ []) m) := by
        show Post _ _ (Γ C [wx, .int i] m)
        cases e3 : Γ C [wx, .int i] m with
        | bad =>
          rw [e3] at p
          exact p
        | exc z m2 =>
          rw [e3] at p
          exact p.elim
        | ok w m2 =>
          rw [e3] at p
          exact p
      have call := thn (run_M (us := [.ref ax, .int i t]) (vs := [.ref ax, .int i]) Fn hr hbd hd hw tk I2 (.cons rfl (.cons ⟨t, rfl⟩ .nil)) r (.cons q1 (.cons q2 .nil)) (by rw [hn]; rfl) p') fun u s' z => cmpBack z
      obtain ⟨fo, i1⟩ := hN.int1
      obtain ⟨ro, i2⟩ := hN.int2
      exact inpl I2.kIn J1 (hI C c1') (bin1T (T := "int") I2.kIn J1 rfl (hT.fst C c1') hs hf (hT.refl C c1') i1 i2 (hN.isub C c1') call)
    · exact p.elim
  · exact p.elim
end
end Sm

/-! S32: == and != of two lists of instances that are equal one by one. -/
namespace Sm
section
open PySem PySem.SeqAt GQ
open AutoSeq1 (wpAny_loadPart')
open MeetsSeq MeetsSeq2 MeetsSeq3 SeqRoads2
variable {prog : Program} {w : World} {A : Around} {R : Result → Shared → Prop} {E : Value → Shared → Prop} {s : Shared}
theorem ne_loop (l b : Addr) (N : Nat) (I : Nat → Shared → Prop) (hl : ListI prog w A (fun e s' => R (.error e) s') l b N I) (fin : ∀ s, I N s → R (.ok (.ret (.bool false))) s) (k : Nat) :
    ∀ i : Nat, N - i = k → i ≤ N → ∀ s, I i s → wpAny (model prog w) A.in1 (Builtin.«list.__eq__.loop» ⟨[.ref l, .ref b, rawInt i, rawInt 3], []⟩) (FinOf prog w A R) (fun e s' => R (.error e) s') s := by
  induction k with
  | zero =>
    intro i hk hi s h
    obtain ⟨items, items2, n, n2, hl1, hb1, hs1, hs2, _⟩ := hl _ _ h
    have hi' : i = N := by omega
    have hR : R (.ok (.ret (.bool false))) s := fin s (hi' ▸ h)
    obtain ⟨hp, g, d, tk, os⟩ := s
    wp_walk using wpAny_loadPart' hl1, wpAny_loadPart' hb1
    have hi1 : items[((i : Nat) : Int).toNat]? = none := by simp; omega
    have hi2 : items2[((i : Nat) : Int).toNat]? = none := by simp; omega
    rw [hi1, hi2]
    wp_walk using wpAny_loadPart' hl1, wpAny_loadPart' hb1
    show R (.ok (.ret (.bool (items.size != items2.size)))) _
    rw [hs1, hs2]
    simpa using hR
  | succ k ih =>
    intro i hk hi s h
    obtain ⟨items, items2, n, n2, hl1, hb1, hs1, hs2, turn⟩ := hl _ _ h
    have hlt : i < items.size := by omega
    have hlt2 : i < items2.size := by omega
    have ht := turn hlt hlt2
    obtain ⟨hp, g, d, tk, os⟩ := s
    wp_walk using wpAny_loadPart' hl1, wpAny_loadPart' hb1
    have hi1 : items[((i : Nat) : Int).toNat]? = some items[i] := by simp [hlt]
    have hi2 : items2[((i : Nat) : Int).toNat]? = some items2[i] := by simp [hlt2]
    have hc : ((i : Int) + 1) = ((i + 1 : Nat) : Int) := by omega
    rw [hi1, hi2]
    refine wpAny_bind (wpAny_mono ht (fun r s2 h2 => ?_) fun _ _ x => x)
    obtain ⟨hr, h2⟩ := h2
    subst hr
    have hrec := ih (i + 1) (by omega) (by omega) s2 h2
    obtain ⟨hp2, g2, d2, tk2, os2⟩ := s2
    wp_walk
    rw [hc]
    exact ⟨plainId_quiet plain_eq_loop _, codeAny_builtin entry_eq_loop (by
      rw [Around.under_plainId plain_eq_loop _]
      exact hrec)⟩
theorem list_ne (l b : Addr) (N : Nat) (I : Nat → Shared → Prop) (hl : ListI prog w A (fun e s' => R (.error e) s') l b N I) (fin : ∀ s, I N s → R (.ok (.ret (.bool false))) s) {s : Shared} (h : I 0 s) :
    wpAny (model prog w) A.in1 (Builtin.«list.__ne__» ⟨[.ref l, .ref b], []⟩) (FinOf prog w A R) (fun e s' => R (.error e) s') s := by
  obtain ⟨items, items2, n, n2, hl1, hb1, hs1, hs2, _⟩ := hl _ _ h
  have hrec := ne_loop (A := A) (R := R) l b N I hl fin _ 0 rfl (Nat.zero_le _) s h
  obtain ⟨hp, g, d, tk, os⟩ := s
  have f3 := AutoSeq1.sub_list_list
  have hne : ¬ (items.size != items2.size) = true := by simp [hs1, hs2]
  wp_walk using wpAny_loadPart' hl1, wpAny_loadPart' hb1
  exact ⟨plainId_quiet plain_eq_loop _, codeAny_builtin entry_eq_loop (by
    rw [Around.under_plainId plain_eq_loop _]
    exact hrec)⟩
theorem rc_listN {l b : Addr} {N : Nat} {Q : Value → Shared → Prop} (hu : A.units < cLine) (I : Nat → Shared → Prop) (hl : ListI prog w A E l b N I) (fin : ∀ s, I N s → Q (.bool false) s) (h : I 0 s) : wpAny (model prog w) A (richCompare .NotEq (.ref l) (.ref b)) Q E s := by
  obtain ⟨items, items2, n, n2, hl1, hb1, _, _, _⟩ := hl _ _ h
  refine wpAny_richCompare_same_room (op := .NotEq) ⟨_, hl1, rfl⟩ ⟨_, hb1, rfl⟩ F.slot_list_ne (call_here F.slot_list_ne ⟨_, hl1, rfl⟩ F.entry_list_ne (F.args_list_ne_2 _ _) ?_) hu
  exact list_ne (R := wants (fun v s' => v ≠ .notImplemented ∧ Q v s') E) l b N I hl (fun s' q => ⟨(fun x => nomatch x), fin s' q⟩) h
end
end Sm

/-! S33: the rule for == and != of two lists of instances. -/
namespace Sm
open PySem PySem.Spec PyProof.Rows L2
def AllEq (T : List Str) (Γ : Str → List W → M W) (m : Sto) (xs ys : List W) : Prop := xs.length = ys.length ∧ ∀ (i : Nat) (wx wy : W), xs[i]? = some wx → ys[i]? = some wy → opM T Γ wx wy m = .ok (.bl true) m
open Classical in
noncomputable def lstM (b : Bool) (T : List Str) (Γ : Str → List W → M W) (x y : W) : M W := fun m => match x, y with
  | .lst xs, .lst ys => if AllEq T Γ m xs ys then .ok (.bl b) m else .bad
  | _, _ => .bad
section
variable {cl : Str → Addr} {X : Cx} {Wx : WX} {k : Nat} {T : List Str} {Γ : Str → List W → M W} {pins : List (Addr × Obj)} {σ : L2.St} {H F : Hp} {ρ : List Addr} {m : Sto}
def LI (cl : Str → Addr) (X : Cx) (pins : List (Addr × Obj)) (σ : L2.St) (F : Hp) (ρ : List Addr) (H : Hp) (m : Sto) (s : Shared) : Prop := ∃ F1 ρ1 H1, Inv X pins σ H1 s ∧ R ⟨X.K, cl⟩ F1 ρ1 m H1 ∧ Go F ρ H F1 ρ1 H1
theorem turnM (hT : EqT X.K cl T) (hΓ : ∀ C ∈ T, CalM X.prog X.w X.K X.mg X.base cl k C "__eq__" 2 [] (Γ C)) {A : Around} (hr : Room k A) (hfr : A.frames = X.A.frames) (tk : Takes X Wx) {wx wy : W} {x y : V} {u v : Value} (q1 : RW ⟨X.K, cl⟩ F ρ wx x) (q2 : RW ⟨X.K, cl⟩ F ρ wy y) (rx : RelV x u) (ry : RelV y v)
    (p : opM T Γ wx wy m = .ok (.bl true) m) {s : Shared} (l : LI cl X pins σ F ρ H m s) : wpAny (model X.prog X.w) A (eqBool u v) (fun r s2 => r = true ∧ LI cl X pins σ F ρ H m s2) X.xe s := by
  obtain ⟨F1, ρ1, H1, I1, r1, g1⟩ := l
  unfold opM at p
  split at p
  · rename_i C D e1 e2
    split at p
    · rename_i hc
      obtain ⟨c1, c2⟩ := Bool.and_eq_true_iff.mp hc
      have c1' := List.contains_iff_mem.mp c1
      have c2' := List.contains_iff_mem.mp c2
      have q1' := q1.mono g1.ff g1.pre
      have q2' := q2.mono g1.ff g1.pre
      obtain ⟨ax, ox, od, rfl, J1⟩ := inst_of I1 r1 q1' e1
      obtain ⟨ay, oy, oe, rfl, J2⟩ := inst_of I1 r1 q2' e2
      cases rx
      cases ry
      by_cases hab : ax = ay
      · subst hab
        exact SeqAt.EqAt.same (A := A) (s := s) (.ref ax) X.prog X.w X.xe _ ⟨rfl, F1, ρ1, H1, I1, r1, g1⟩
      · obtain ⟨f, fd, ps, ds, dvs, Fn, hn, hbd, hd, hw, hs, hf, _⟩ := (hΓ C c1').ex
        have p' : Post (OkE ⟨X.K, cl⟩ F1 ρ1 H1 (fun v H' => v = .bl true ∧ ∃ F2 ρ2, R ⟨X.K, cl⟩ F2 ρ2 m H' ∧ Go F ρ H F2 ρ2 H')) (OkX ⟨X.K, cl⟩ F1 ρ1 H1 fun k d H' => Wx k d σ H') (Γ C ([wx, wy] ++ []) m) := by
          show Post _ _ (Γ C [wx, wy] m)
          rw [p]
          exact fun v F' ρ' H' r' g' q' => ⟨q', F', ρ', r', g1.trans g'⟩
        obtain ⟨fm, fr⟩ := I1.fr
        refine GQ.eqBool_refG hab (PySem.W.cmp_K (op := .Eq) hr.units0 fr I1.mod.kin J1 J2.type (hT.nf C c1' D c2') hs hf
          (thn (run_MA (A := A) (us := [.ref ax, .ref ay]) (vs := [.ref ax, .ref ay]) Fn hr hfr hbd hd hw tk I1 (.cons rfl (.cons rfl .nil)) r1 (.cons q1' (.cons q2' .nil)) (by rw [hn]; rfl) p') fun u s' z => ?_))
        obtain ⟨v, H', I', rv, rfl, F2, ρ2, r2, g2⟩ := z
        cases rv
        exact ⟨true, rfl, rfl, F2, ρ2, H', I', r2, g2⟩
    · cases p
  · cases p
theorem listI_of (hT : EqT X.K cl T) (hΓ : ∀ C ∈ T, CalM X.prog X.w X.K X.mg X.base cl k C "__eq__" 2 [] (Γ C)) (hr : Room (k + 1) X.A) (tk : Takes X Wx) {a b : Addr} {xs ys : List W} {vs us : List V} (ha : Rd F a (.lst vs)) (hb : Rd F b (.lst us)) (t1 : RWs ⟨X.K, cl⟩ F ρ xs vs) (t2 : RWs ⟨X.K, cl⟩ F ρ ys us) (he : AllEq T Γ m xs ys) :
    GQ.ListI X.prog X.w X.A X.xe a b xs.length (fun _ s => LI cl X pins σ F ρ H m s) := by
  intro i s l
  obtain ⟨F1, ρ1, H1, I1, r1, g1⟩ := id l
  obtain ⟨z, its, n, rv, e⟩ := (rd_mono (g1.ff.trans r1.sub) ha).ok I1.hok
  obtain ⟨z2, its2, n2, rv2, e2⟩ := (rd_mono (g1.ff.trans r1.sub) hb).ok I1.hok
  have l1 := t1.length
  have l2 := t2.length
  have l3 := rv.length
  have l4 := rv2.length
  refine ⟨its.toArray, its2.toArray, n, n2, e, e2, by rw [List.size_toArray]; omega, by rw [List.size_toArray]; have := he.1; omega, fun h1 h2 => ?_⟩
  have h1' : i < its.length := by simpa using h1
  have h2' : i < its2.length := by simpa using h2
  have k1 : i < xs.length := by omega
  have k2 : i < ys.length := by have := he.1; omega
  obtain ⟨v1, b1, b2⟩ := t1.get (List.getElem?_eq_getElem k1)
  obtain ⟨v2, b3, b4⟩ := t2.get (List.getElem?_eq_getElem k2)
  obtain ⟨u1, c1, c2⟩ := rv.get b1
  obtain ⟨u2, c3, c4⟩ := rv2.get b3
  have d1 : its.toArray[i] = u1 := by
    rw [List.getElem?_eq_getElem h1'] at c1
    simpa using Option.some.inj c1
  have d2 : its2.toArray[i] = u2 := by
    rw [List.getElem?_eq_getElem h2'] at c3
    simpa using Option.some.inj c3
  rw [d1, d2]
  exact turnM hT hΓ hr.in1 rfl tk b2 b4 c2 c4 (he.2 i _ _ (List.getElem?_eq_getElem k1) (List.getElem?_eq_getElem k2)) l
theorem m_eqL (hT : EqT X.K cl T) (hΓ : ∀ C ∈ T, CalM X.prog X.w X.K X.mg X.base cl k C "__eq__" 2 [] (Γ C)) (hr : Room (k + 1) X.A) (tk : Takes X Wx) : CmpM ⟨X.K, cl⟩ X Wx .Eq (lstM true T Γ) := by
  intro pins s2 σ H2 x y v u Q I2 rx ry q
  obtain ⟨F, ρ, m, wx, wy, r, q1, q2, p⟩ := q
  unfold lstM at p
  split at p
  · rename_i xs ys
    split at p
    · rename_i he
      unfold RW at q1 q2
      obtain ⟨a, vs, rfl, h1, t1⟩ := q1
      obtain ⟨b, us, rfl, h2, t2⟩ := q2
      cases rx
      cases ry
      refine PySem.W.cmp_ofEq (GQ.rc_listG hr.units0 (fun _ s => LI cl X pins σ F ρ H2 m s) (listI_of hT hΓ hr tk h1 h2 t1 t2 he) (fun s l => ?_) ⟨F, ρ, H2, I2, r, .refl⟩)
      obtain ⟨F1, ρ1, H1, I1, r1, g1⟩ := l
      exact ⟨.bl true, H1, I1, rfl, p _ F1 ρ1 H1 r1 g1 rfl⟩
    · exact p.elim
  · exact p.elim
theorem m_neL (hT : EqT X.K cl T) (hΓ : ∀ C ∈ T, CalM X.prog X.w X.K X.mg X.base cl k C "__eq__" 2 [] (Γ C)) (hr : Room (k + 1) X.A) (tk : Takes X Wx) : CmpM ⟨X.K, cl⟩ X Wx .NotEq (lstM false T Γ) := by
  intro pins s2 σ H2 x y v u Q I2 rx ry q
  obtain ⟨F, ρ, m, wx, wy, r, q1, q2, p⟩ := q
  unfold lstM at p
  split at p
  · rename_i xs ys
    split at p
    · rename_i he
      unfold RW at q1 q2
      obtain ⟨a, vs, rfl, h1, t1⟩ := q1
      obtain ⟨b, us, rfl, h2, t2⟩ := q2
      cases rx
      cases ry
      refine PySem.W.cmp_ofNotEq (rc_listN hr.units0 (fun _ s => LI cl X pins σ F ρ H2 m s) (listI_of hT hΓ hr tk h1 h2 t1 t2 he) (fun s l => ?_) ⟨F, ρ, H2, I2, r, .refl⟩)
      obtain ⟨F1, ρ1, H1, I1, r1, g1⟩ := l
      exact ⟨.bl false, H1, I1, rfl, p _ F1 ρ1 H1 r1 g1 rfl⟩
    · exact p.elim
  · exact p.elim
end
end Sm

/-! S33b: calls with keywords. -/
namespace Sm
open PySem PySem.Spec PyProof.Rows L2
/-- some items, by their places -/
def pk {α : Type} (ix : List Nat) (l : List α) : List α := ix.filterMap (l[·]?)
theorem vals_pk {vs : List V} {us : List Value} (r : Vals vs us) : ∀ ix : List Nat, Vals (pk ix vs) (pk ix us)
  | [] => .nil
  | i :: ix => by
    have ih := vals_pk r ix
    unfold pk at ih ⊢
    rw [List.filterMap_cons, List.filterMap_cons]
    have hl := r.length
    cases e : vs[i]? with
    | none =>
      have : us[i]? = none := by
        rw [List.getElem?_eq_none_iff] at e ⊢
        omega
      rw [this]
      exact ih
    | some v =>
      obtain ⟨u, e2, rr⟩ := r.get e
      rw [e2]
      exact .cons rr ih
theorem rws_pk {c : Cn} {F : Hp} {ρ : List Addr} {ws : List W} {vs : List V} (r : RWs c F ρ ws vs) : ∀ ix : List Nat, RWs c F ρ (pk ix ws) (pk ix vs)
  | [] => .nil
  | i :: ix => by
    have ih := rws_pk r ix
    unfold pk at ih ⊢
    rw [List.filterMap_cons, List.filterMap_cons]
    have hl := r.length
    cases e : ws[i]? with
    | none =>
      have : vs[i]? = none := by
        rw [List.getElem?_eq_none_iff] at e ⊢
        omega
      rw [this]
      exact ih
    | some w =>
      obtain ⟨v, e2, rr⟩ := r.get e
      rw [e2]
      exact .cons rr ih
theorem pk_self {α : Type} (a : α) (l : List α) (ix : List Nat) : pk (0 :: ix.map (· + 1)) (a :: l) = a :: pk ix l := by
  unfold pk
  rw [List.filterMap_cons]
  simp [List.filterMap_map, Function.comp_def]
/-- n values by place, those behind by the names ks, bound in the order ix, defaults behind them all -/
structure KB (K : PySem.W.Frag) (fd : FuncData) (ps : List Str) (n : Nat) (ks : List Str) (ix : List Nat) (dvs : List V) : Prop where
  ex : ∃ its : List Value, Vals dvs its ∧ ∀ (s : Shared) (us : List Value), K.In s.heap → us.length = n + ks.length → BindsTo s fd ⟨us.take n, ks.zip (us.drop n)⟩ (ps.zip (pk ix (us ++ its)))
theorem kb_n {K : PySem.W.Frag} {fd : FuncData} {ps : List Str} {n : Nat} {ks : List Str} {ix : List Nat} (h : ∀ us : List Value, us.length = n + ks.length → bindArgs fd ⟨us.take n, ks.zip (us.drop n)⟩ = pure (ps.zip (pk ix us))) : KB K fd ps n ks ix [] :=
  ⟨[], .nil, fun s us _ hl => .of_eq (by rw [List.append_nil]; exact h us hl)⟩
theorem kb_d {K : PySem.W.Frag} {fd : FuncData} {ps : List Str} {n : Nat} {ks : List Str} {ix : List Nat} {dvs : List V} (hD : DflV K fd.defaults dvs) (hd : dvs ≠ [])
    (h : ∀ (T : Addr) (us its : List Value), fd.defaults = .ref T → us.length = n + ks.length → its.length = dvs.length → ∃ k, bindArgs fd ⟨us.take n, ks.zip (us.drop n)⟩ = seqItems? (.ref T) >>= k ∧ k (some its.toArray) = pure (ps.zip (pk ix (us ++ its)))) : KB K fd ps n ks ix dvs := by
  rcases hD with ⟨e, _⟩ | ⟨_, T, o, its, m, eT, lT, oT, rT⟩
  · exact absurd e hd
  · refine ⟨its, rT, fun s us X hl => ?_⟩
    obtain ⟨k, e1, e2⟩ := h T us its eT hl rT.length.symm
    refine BindsTo.of_looks fun M => ?_
    rw [e1]
    exact looks_items X lT oT (.of_pure e2)
/-! ### the arguments -/
def aApp (g1 g2 : Fas) : Fas := fun τ => bnd (g1 τ) fun a => bnd (g2 τ) fun b m => .ok (a ++ b) m
section
variable {c : Cn} {X : Cx} {Wx : WX} {e : Expr} {es : List Expr} {kws : List Keyword} {f : Fe} {g g2 : Fas} {pos : Pos}
theorem PK.weak {t t' : TA} (h : PK X kws t) (w : ∀ σ H Q, t' σ H Q → t σ H Q) : PK X kws t' := ⟨fun pos pins s σ H Q I q => h.run pos pins s σ H Q I (w σ H Q q)⟩
abbrev SK (c : Cn) (X : Cx) (Wx : WX) (kws : List Keyword) (f : Fas) : Prop := PK X kws (sA c Wx f)
theorem k_nil : SK c X Wx [] aNil := PK.weak pk_nil fun σ H Q ⟨F, ρ, m, τ, r, s, p⟩ => p [] F ρ H r .refl rfl
theorem k_cons {nm : Option Str} {kpos : Pos} (he : SE c X Wx e f) (hs : SK c X Wx kws g) : SK c X Wx (⟨nm, e, kpos⟩ :: kws) (aCons f g) := PK.weak (pk_cons he hs) fun _ _ _ h => w_acons h
theorem w_app {σ : L2.St} {H : Hp} {Q : List V → Hp → Prop} (h : sA c Wx (aApp g g2) σ H Q) : sA c Wx g σ H fun vs H1 => sA c Wx g2 σ H1 fun zs H2 => Q (vs ++ zs) H2 := by
  obtain ⟨F, ρ, m, τ, r, s, p⟩ := h
  refine ⟨F, ρ, m, τ, r, s, ?_⟩
  unfold aApp bnd at p
  cases e : g τ m with
  | bad =>
    rw [e] at p
    exact p
  | exc x m' =>
    rw [e] at p
    exact p
  | ok ws m1 =>
    rw [e] at p
    dsimp only at p
    intro vs F1 ρ1 H1 r1 g1 q1
    refine ⟨F1, ρ1, m1, τ, r1, s.go g1, ?_⟩
    cases e2 : g2 τ m1 with
    | bad =>
      rw [e2] at p
      exact p
    | exc x m' =>
      rw [e2] at p
      exact OkX.back r1 g1 p
    | ok zs m2 =>
      rw [e2] at p
      dsimp only at p
      exact fun us F2 ρ2 H2 r2 h2 q2 => p (vs ++ us) F2 ρ2 H2 r2 (g1.trans h2) ((q1.mono h2.ff h2.pre).append q2)
/-- the arguments of a call with keywords, and what is called -/
structure KA (c : Cn) (X : Cx) (Wx : WX) (es : List Expr) (kws : List Keyword) (n : Nat) (ks : List Str) (g : Fas) : Prop where
  run : ∀ (pos : Pos) (fv : Value) (first : List Value) (pins : List (Addr × Obj)) (s : Shared) (σ : L2.St) (H : Hp) (Q : VK), PySem.W.keepIn X.K fv = true → Inv X pins σ H s →
    sA c Wx g σ H (fun vs H1 => vs.length = n + ks.length ∧ ∀ us s1, Vals vs us → Inv X pins σ H1 s1 → wpAny (model X.prog X.w) X.A (call fv (first ++ us.take n) (ks.zip (us.drop n))) (EP X pins σ Q) X.xe s1) →
    (((backTo pos (starEach es X.env)).any (·.1) || (backToKw pos (keywordEach kws X.env)).any (·.1.isNone)) = false) → ((backToKw pos (keywordEach kws X.env)).all (·.1.isSome) = true) → ((backToKw pos (keywordEach kws X.env)).filterMap (·.1) = ks) →
    wpAny (model X.prog X.w) X.A (callWith pos fv first (backTo pos (starEach es X.env)) (backToKw pos (keywordEach kws X.env))) (EP X pins σ Q) X.xe s
theorem ka_0 {ks : List Str} (hk : SK c X Wx kws g) : KA c X Wx [] kws 0 ks g := ⟨fun pos fv first pins s σ H Q kp I h hpl hall hks => by
  refine PySem.W.callWith_KW0 (h₀ := X.base) I.ok.mod.kin kp hall (thn (hk.run pos pins s σ H _ I h) fun ws s2 ⟨zs, H2, I2, rz, hl, q⟩ => ⟨I2.kIn, ?_⟩) hpl
  rw [hks]
  exact q ws s2 rz I2⟩
theorem ka_1 {n : Nat} {ks : List Str} (ha : SA c X Wx (e :: es) g) (hk : SK c X Wx kws g2) (hn : n = (e :: es).length := by rfl) (hlen : ∀ (σ : L2.St) (H : Hp) (Q : List V → Hp → Prop), sA c Wx g σ H Q → sA c Wx g σ H fun vs H1 => vs.length = n ∧ Q vs H1)
    (he : starEach (e :: es) X.env = (false, eval e X.env) :: starEach es X.env := by rfl) : KA c X Wx (e :: es) kws n ks (aApp g g2) := ⟨fun pos fv first pins s σ H Q kp I h hpl hall hks => by
  refine PySem.W.callWith_KW (h₀ := X.base) I.ok.mod.kin kp hall (thn (ha.run pos pins s σ H _ I (hlen _ _ _ (w_app h))) fun us s1 ⟨vs, H1, I1, rv, hv, q⟩ => ?_) hpl he
  refine thn (hk.run pos pins s1 σ H1 _ I1 q) fun ws s2 ⟨zs, H2, I2, rz, hl, q2⟩ => ⟨I2.kIn, ?_⟩
  have hu : us.length = n := by rw [← rv.length]; exact hv
  have z := q2 (us ++ ws) s2 (rv.append rz) I2
  rw [List.take_left' hu, List.drop_left' hu] at z
  rw [hks]
  exact z⟩
/-- the lengths of argument lists -/
theorem len_nil (σ : L2.St) (H : Hp) (Q : List V → Hp → Prop) (h : sA c Wx aNil σ H Q) : sA c Wx aNil σ H fun vs H1 => vs.length = 0 ∧ Q vs H1 := by
  obtain ⟨F, ρ, m, τ, r, s, p⟩ := h
  exact ⟨F, ρ, m, τ, r, s, fun vs F1 ρ1 H1 r1 g1 q1 => ⟨by have := q1.length; simpa using this, p vs F1 ρ1 H1 r1 g1 q1⟩⟩
theorem len_of {n : Nat} (hw : ∀ τ m ws m', g τ m = .ok ws m' → ws.length = n) (σ : L2.St) (H : Hp) (Q : List V → Hp → Prop) (h : sA c Wx g σ H Q) : sA c Wx g σ H fun vs H1 => vs.length = n ∧ Q vs H1 := by
  obtain ⟨F, ρ, m, τ, r, s, p⟩ := h
  refine ⟨F, ρ, m, τ, r, s, ?_⟩
  cases e : g τ m with
  | bad =>
    rw [e] at p
    exact p
  | exc x m' =>
    rw [e] at p
    exact p
  | ok ws m1 =>
    rw [e] at p
    exact fun vs F1 ρ1 H1 r1 g1 q1 => ⟨by rw [q1.length]; exact hw τ m ws m1 e, p vs F1 ρ1 H1 r1 g1 q1⟩
theorem lw_nil (τ : SS) (m : Sto) (ws : List W) (m' : Sto) (h : aNil τ m = .ok ws m') : ws.length = 0 := by
  cases h
  rfl
theorem lw_cons {n : Nat} (hw : ∀ τ m ws m', g τ m = .ok ws m' → ws.length = n) (τ : SS) (m : Sto) (ws : List W) (m' : Sto) (h : aCons f g τ m = .ok ws m') : ws.length = n + 1 := by
  unfold aCons bnd at h
  split at h
  · dsimp only at h
    split at h
    · rename_i us _ e
      cases h
      rw [List.length_cons, hw _ _ _ _ e]
    · cases h
    · cases h
  · cases h
  · cases h
end
/-! ### what is called -/
structure CalK (P : Program) (w : World) (K : PySem.W.Frag) (mg : Str → Option Value) (base : Heap) (cl : Str → Addr) (k : Nat) (x : Str) (n : Nat) (ks : List Str) (ix : List Nat) (dws : List W) (γ : List W → M W) : Prop where
  ex : ∃ f fd ps dvs, FnOk P w K mg base (CX P w) k f fd ps (spF ⟨K, cl⟩ ps.length γ) ∧ ps.length = ix.length ∧ mg x = some (.ref f) ∧ PySem.W.keepIn K (.ref f) = true ∧ KB K fd ps n ks ix dvs ∧ ∀ F ρ, RWs ⟨K, cl⟩ F ρ dws dvs
structure CalIK (P : Program) (w : World) (K : PySem.W.Frag) (mg : Str → Option Value) (base : Heap) (cl : Str → Addr) (k : Nat) (C : Str) (n : Nat) (ks : List Str) (ix : List Nat) (dws : List W) (γ : MO → List W → M MO) : Prop where
  ex : ∃ f fd ps dvs, FnOk P w K mg base (CX P w) k f fd ps (spI ⟨K, cl⟩ ps.length γ) ∧ ps.length = ix.length + 1 ∧ mg C = some (.ref (cl C)) ∧ Mk K (cl C) f ∧ KB K fd ps (n + 1) ks (0 :: ix.map (· + 1)) dvs ∧ ∀ F ρ, RWs ⟨K, cl⟩ F ρ dws dvs
structure CalMK (P : Program) (w : World) (K : PySem.W.Frag) (mg : Str → Option Value) (base : Heap) (cl : Str → Addr) (k : Nat) (C m : Str) (n : Nat) (ks : List Str) (ix : List Nat) (dws : List W) (γ : List W → M W) : Prop where
  ex : ∃ f fd ps dvs, FnOk P w K mg base (CX P w) k f fd ps (spF ⟨K, cl⟩ ps.length γ) ∧ ps.length = ix.length + 1 ∧ KB K fd ps (n + 1) ks (0 :: ix.map (· + 1)) dvs ∧ (∀ F ρ, RWs ⟨K, cl⟩ F ρ dws dvs) ∧ PySem.W.findIn K (.ref (cl C)) m = some (some (.ref f)) ∧ PySem.W.isFn K (.ref f) = true ∧ PySem.W.keepIn K (.ref f) = true
def eCallK (nk : Nat) (ix : List Nat) (γ : List W → M W) (dws : List W) (g : Fas) : Fe := fun τ => bnd (g τ) fun ws m => if ws.length = nk ∧ (pk ix (ws ++ dws)).length = ix.length then γ (pk ix (ws ++ dws)) m else .bad
def eNewK (C : Str) (nk : Nat) (ix : List Nat) (γ : MO → List W → M MO) (dws : List W) (g : Fas) : Fe := fun τ => bnd (g τ) fun ws m => if ws.length = nk ∧ (pk ix (ws ++ dws)).length = ix.length then newM C γ (pk ix (ws ++ dws)) m else .bad
def eMethK (mn : Str) (T : List Str) (nk : Nat) (ix : List Nat) (dws : List W) (Γ : Str → List W → M W) (fo : Fe) (g : Fas) : Fe := fun τ => bnd (fo τ) fun x m => match clsW x with
  | some C => if T.contains C && !((attrs x).contains mn) then bnd (g τ) (fun ws m => if ws.length = nk ∧ (pk ix (ws ++ dws)).length = ix.length then Γ C (x :: pk ix (ws ++ dws)) m else .bad) m else .bad
  | none => .bad
section
variable {X : Cx} {Wx : WX} {cl : Str → Addr} {k : Nat} {x C mn : Str} {n : Nat} {ks : List Str} {ix : List Nat} {dws : List W} {γ : List W → M W} {γi : MO → List W → M MO} {o : Expr} {es : List Expr} {kws : List Keyword} {fo : Fe} {g : Fas} {p pos apos : Pos}
theorem run_kw {A : Around} {f : Addr} {fd : FuncData} {ps : List Str} {sp : Sp} {dvs : List V} {pins : List (Addr × Obj)} {σ : L2.St} {H : Hp} {s : Shared} {Q : VK} {us : List Value} {vs : List V} (F : FnOk X.prog X.w X.K X.mg X.base (CX X.prog X.w) k f fd ps sp) (hr : Room k X.A) (kb : KB X.K fd ps n ks ix dvs) (tk : Takes X Wx)
    (I : Inv X pins σ H s) (r : Vals vs us) (hl : vs.length = n + ks.length) (h : sp (pk ix (vs ++ dvs)) H Q fun c d H' => Wx c d σ H') : wpAny (model X.prog X.w) X.A (call (.ref f) (us.take n) (ks.zip (us.drop n))) (EP X pins σ Q) X.xe s := by
  obtain ⟨its, hd, hb⟩ := kb.ex
  have r2 : Vals (pk ix (vs ++ dvs)) (pk ix (us ++ its)) := vals_pk (r.append hd) ix
  refine wpAny_call (codeAny_mono (F.run X.A X.stack s H ⟨us.take n, ks.zip (us.drop n)⟩ _ _ Q _ hr I.env0 (hb s us I.kIn (by rw [← r.length]; exact hl)) r2 h) fun r s' hq => ?_)
  rcases r with e | fl
  · exact tk e s' (XE.of_call I (fun _ _ _ z => z) hq)
  cases fl with
  | ret u => exact I.after hq
  | next => exact False.elim hq
  | brk => exact False.elim hq
  | cont => exact False.elim hq
theorem w_callK {c : Cn} {σ : L2.St} {H : Hp} {Q : VK} {dvs : List V} (hd : ∀ F ρ, RWs c F ρ dws dvs) {nk : Nat} (h : sE c Wx (eCallK nk ix γ dws g) σ H Q) : sA c Wx g σ H (fun vs H1 => vs.length = nk ∧ spF c ix.length γ (pk ix (vs ++ dvs)) H1 Q fun k d H' => Wx k d σ H') := by
  obtain ⟨F, ρ, m, τ, r, s, p⟩ := h
  refine ⟨F, ρ, m, τ, r, s, ?_⟩
  unfold eCallK bnd at p
  cases e : g τ m with
  | bad =>
    rw [e] at p
    exact p
  | exc x m' =>
    rw [e] at p
    exact p
  | ok ws m1 =>
    rw [e] at p
    dsimp only at p
    intro vs F1 ρ1 H1 r1 g1 q1
    split at p
    · rename_i hl
      have h2 := rws_pk (q1.append (hd F1 ρ1)) ix
      refine ⟨by rw [q1.length]; exact hl.1, by rw [h2.length]; exact hl.2, F1, ρ1, m1, _, r1, h2, ?_⟩
      cases e2 : γ (pk ix (ws ++ dws)) m1 with
      | bad =>
        rw [e2] at p
        exact p
      | exc x m' =>
        rw [e2] at p
        exact OkX.back r1 g1 p
      | ok w m2 =>
        rw [e2] at p
        exact OkE.back g1 p
    · exact p.elim
theorem s_callK (Cc : CalK X.prog X.w X.K X.mg X.base cl k x n ks ix dws γ) (hr : Room k X.A) (tk : Takes X Wx) (ha : KA ⟨X.K, cl⟩ X Wx es kws n ks g) (hg : Gl X x := by rfl) (hdb : (x == ("__debug__" : Str)) = false := by decide)
    (hpl : ((backTo pos (starEach es X.env)).any (·.1) || (backToKw pos (keywordEach kws X.env)).any (·.1.isNone)) = false := by rfl) (hall : (backToKw pos (keywordEach kws X.env)).all (·.1.isSome) = true := by rfl) (hks : (backToKw pos (keywordEach kws X.env)).filterMap (·.1) = ks := by rfl) :
    SE ⟨X.K, cl⟩ X Wx (.Call (.Name x p) es kws pos) (eCallK (n + ks.length) ix γ dws g) := by
  obtain ⟨f, fd, ps, dvs, F, hps, hm, hk, kb, hw⟩ := Cc.ex
  refine ⟨fun pins s σ H Q I h => ?_⟩
  refine wpAny_Call_Name_kw (ld_glob I hg hm (ha.run pos _ [] pins s σ H Q hk I ?_ hpl hall hks) hdb)
  have z := w_callK hw h
  obtain ⟨F0, ρ, m, τ, r, hs, pp⟩ := z
  refine ⟨F0, ρ, m, τ, r, hs, ?_⟩
  cases e : g τ m with
  | bad =>
    rw [e] at pp
    exact pp
  | exc x m' =>
    rw [e] at pp
    exact pp
  | ok ws m1 =>
    rw [e] at pp
    intro vs F1 ρ1 H1 r1 g1 q1
    obtain ⟨hl, q⟩ := pp vs F1 ρ1 H1 r1 g1 q1
    rw [← hps] at q
    exact ⟨hl, fun us s1 rv I1 => run_kw (A := X.A) F hr kb tk I1 rv hl q⟩
/-! ### C(.., k = v) -/
theorem run_makeK {f Ca : Addr} {fd : FuncData} {ps : List Str} {sp : Sp} {dvs : List V} {pins : List (Addr × Obj)} {σ : L2.St} {H : Hp} {s : Shared} {Q : VK} {us : List Value} {vs : List V} (M : Mk X.K Ca f) (F : FnOk X.prog X.w X.K X.mg X.base (CX X.prog X.w) k f fd ps sp) (hr : Room (k + 1) X.A) (kb : KB X.K fd ps (n + 1) ks (0 :: ix.map (· + 1)) dvs)
    (tk : Takes X Wx) (I : Inv X pins σ H s) (r : Vals vs us) (hl : vs.length = n + ks.length)
    (h : ∀ x dx, H x = none → H dx = none → dx ≠ x → sp (.ref x :: pk ix (vs ++ dvs)) (upd (upd H dx (.own x)) x (.ins Ca dx [])) (fun v H2 => v = .non ∧ Q (.ref x) H2) fun c d H' => Wx c d σ H') :
    wpAny (model X.prog X.w) X.A (call (.ref Ca) (us.take n) (ks.zip (us.drop n))) (EP X pins σ Q) X.xe s := by
  obtain ⟨its, hd, hb⟩ := kb.ex
  have hq := h (s.heap.objs.size + 1) s.heap.objs.size (I.hok.fresh (Nat.le_succ _)) (I.hok.fresh (Nat.le_refl _)) (Nat.ne_of_lt (Nat.lt_succ_self _))
  have I2 := Inv.made (C := Ca) I
  have r1 : Vals (V.ref (s.heap.objs.size + 1) :: vs) (Value.ref (s.heap.objs.size + 1) :: us) := .cons rfl r
  have r2 := vals_pk (r1.append hd) (0 :: ix.map (· + 1))
  rw [List.cons_append, pk_self] at r2
  have bt := hb _ (Value.ref (s.heap.objs.size + 1) :: us) I2.kIn (by have := r.length; simp only [List.length_cons]; omega)
  refine wpAny_call (make_map (f := f) I.kIn M.makes M.init (beq_iff_eq.mp M.fn) (codeAny_mono (F.run _ X.stack _ _ ⟨Value.ref (s.heap.objs.size + 1) :: us.take n, ks.zip (us.drop n)⟩ _ _ _ _ (hr.make Ca (us.take n) (ks.zip (us.drop n)))
    (I2.env0.make Ca (us.take n) (ks.zip (us.drop n))) bt r2 hq) fun r s' hq' => ?_))
  rcases r with e | fl
  · exact tk e s' (XE.of_call I2 (fun _ _ _ z => z) hq')
  cases fl with
  | ret u =>
    obtain ⟨v, H', I3, rv, ev, q3⟩ := I2.after hq'
    subst ev
    exact ⟨rv, ⟨V.ref (s.heap.objs.size + 1), H', I3, rfl, q3⟩⟩
  | next => exact False.elim hq'
  | brk => exact False.elim hq'
  | cont => exact False.elim hq'
/-- the arguments in order, as those of a plain call -/
def aPk (nk : Nat) (ix : List Nat) (dws : List W) (g : Fas) : Fas := fun τ => bnd (g τ) fun ws m => if ws.length = nk ∧ (pk ix (ws ++ dws)).length = ix.length then .ok (pk ix (ws ++ dws)) m else .bad
theorem newK_eq {nk : Nat} : eNewK C nk ix γi dws g = eNew C (ix.length + 1) γi [] (aPk nk ix dws g) := by
  funext τ m
  unfold eNewK eNew aPk bnd
  cases e : g τ m with
  | bad => rfl
  | exc x m' => rfl
  | ok ws m1 =>
    dsimp only
    by_cases h : ws.length = nk ∧ (pk ix (ws ++ dws)).length = ix.length
    · rw [if_pos h, if_pos h]
      dsimp only
      rw [List.append_nil, if_pos (by rw [h.2])]
    · rw [if_neg h, if_neg h]
theorem w_apk {c : Cn} {σ : L2.St} {H : Hp} {Q : List V → Hp → Prop} {dvs : List V} (hd : ∀ F ρ, RWs c F ρ dws dvs) {nk : Nat} (h : sA c Wx (aPk nk ix dws g) σ H Q) : sA c Wx g σ H fun vs H1 => vs.length = nk ∧ Q (pk ix (vs ++ dvs)) H1 := by
  obtain ⟨F, ρ, m, τ, r, s, p⟩ := h
  refine ⟨F, ρ, m, τ, r, s, ?_⟩
  unfold aPk bnd at p
  cases e : g τ m with
  | bad =>
    rw [e] at p
    exact p
  | exc x m' =>
    rw [e] at p
    exact p
  | ok ws m1 =>
    rw [e] at p
    dsimp only at p
    intro vs F1 ρ1 H1 r1 g1 q1
    split at p
    · rename_i hl
      exact ⟨by rw [q1.length]; exact hl.1, p _ F1 ρ1 H1 r1 g1 (rws_pk (q1.append (hd F1 ρ1)) ix)⟩
    · exact p.elim
theorem sA.imp {c : Cn} {σ : L2.St} {H : Hp} {Q Q' : List V → Hp → Prop} (h : sA c Wx g σ H Q) (hi : ∀ vs H1, Q vs H1 → Q' vs H1) : sA c Wx g σ H Q' := by
  obtain ⟨F, ρ, m, τ, r, s, p⟩ := h
  refine ⟨F, ρ, m, τ, r, s, ?_⟩
  cases e : g τ m with
  | bad =>
    rw [e] at p
    exact p
  | exc x m' =>
    rw [e] at p
    exact p
  | ok ws m1 =>
    rw [e] at p
    exact fun vs F1 ρ1 H1 r1 g1 q1 => hi _ _ (p vs F1 ρ1 H1 r1 g1 q1)
theorem s_newK (Ci : CalIK X.prog X.w X.K X.mg X.base cl k C n ks ix dws γi) (hr : Room (k + 1) X.A) (tk : Takes X Wx) (ha : KA ⟨X.K, cl⟩ X Wx es kws n ks g) (hg : Gl X C := by rfl) (hdb : (C == ("__debug__" : Str)) = false := by decide)
    (hpl : ((backTo pos (starEach es X.env)).any (·.1) || (backToKw pos (keywordEach kws X.env)).any (·.1.isNone)) = false := by rfl) (hall : (backToKw pos (keywordEach kws X.env)).all (·.1.isSome) = true := by rfl) (hks : (backToKw pos (keywordEach kws X.env)).filterMap (·.1) = ks := by rfl) :
    SE ⟨X.K, cl⟩ X Wx (.Call (.Name C p) es kws pos) (eNewK C (n + ks.length) ix γi dws g) := by
  obtain ⟨f, fd, ps, dvs, F, hps, hm, M, kb, hw⟩ := Ci.ex
  refine ⟨fun pins s σ H Q I h => ?_⟩
  rw [newK_eq] at h
  refine wpAny_Call_Name_kw (ld_glob I hg hm (ha.run pos _ [] pins s σ H Q M.kp I ?_ hpl hall hks) hdb)
  have z := w_apk hw (w_new (dvs := []) (fun _ _ => RWs.nil) h)
  refine z.imp fun vs H1 ⟨hl, q⟩ => ⟨hl, fun us s1 rv I1 => run_makeK M F hr kb tk I1 rv hl fun x dx h1 h2 h3 => ?_⟩
  have q' := q x dx h1 h2 h3
  rw [List.append_nil, ← hps] at q'
  exact q'
/-! ### o.m(.., k = v) -/
theorem methK_eq {nk : Nat} {T : List Str} {Γ : Str → List W → M W} : eMethK mn T nk ix dws Γ fo g = eMeth mn T (ix.length + 1) [] Γ fo (aPk nk ix dws g) := by
  funext τ m
  unfold eMethK eMeth aPk bnd
  cases fo τ m with
  | bad => rfl
  | exc x m' => rfl
  | ok w m1 =>
    dsimp only
    cases clsW w with
    | none => rfl
    | some C =>
      dsimp only
      split
      · cases g τ m1 with
        | bad => rfl
        | exc x m' => rfl
        | ok ws m2 =>
          dsimp only
          by_cases h : ws.length = nk ∧ (pk ix (ws ++ dws)).length = ix.length
          · rw [if_pos h, if_pos h]
            dsimp only
            rw [List.append_nil, if_pos (by rw [List.length_cons, h.2])]
          · rw [if_neg h, if_neg h]
      · rfl
theorem s_methK {pl : Sem Bool} {T : List Str} {Γ : Str → List W → M W} (hC : ∀ C ∈ T, Cls X.K (cl C)) (hΓ : ∀ C ∈ T, CalMK X.prog X.w X.K X.mg X.base cl k C mn n ks ix dws (Γ C)) (hr : Room k X.A) (tk : Takes X Wx) (ho : SE ⟨X.K, cl⟩ X Wx o fo) (ha : KA ⟨X.K, cl⟩ X Wx es kws n ks g)
    (hpl : ((backTo pos (starEach es X.env)).any (·.1) || (backToKw pos (keywordEach kws X.env)).any (·.1.isNone)) = false := by rfl) (hall : (backToKw pos (keywordEach kws X.env)).all (·.1.isSome) = true := by rfl) (hks : (backToKw pos (keywordEach kws X.env)).filterMap (·.1) = ks := by rfl)
    (ht : eval (.Call (.Attribute o mn apos) es kws pos) X.env = (do
      let ov ← eval o X.env
      standAt apos.atName
      let (f, first) ← holding [ov] (getMethod ov mn pl)
      callWith pos f first (backTo pos (starEach es X.env)) (backToKw pos (keywordEach kws X.env))) := by rfl) :
    SE ⟨X.K, cl⟩ X Wx (.Call (.Attribute o mn apos) es kws pos) (eMethK mn T (n + ks.length) ix dws Γ fo g) := by
  refine ⟨fun pins s σ H Q I h => ?_⟩
  rw [methK_eq] at h
  refine PySem.W.methodCall_KW (pl := pl) (thn (ho.run pins s σ H _ I (w_meth h)) fun u s1 ⟨x, H1, I1, rx, F, ρ, m, τ, wx, C, r, hs, q, ec, hc, hn, pp⟩ => ?_) ht
  obtain ⟨a, dx, gs, rfl, h1, h2⟩ := ins_of q ec
  obtain rfl : u = Value.ref a := rx
  obtain ⟨f, fd, ps, dvs, Fn, hps, kb, hw, hf1, hf2, hf3⟩ := (hΓ C hc).ex
  refine getmeth_ok I1 (r.sub _ _ h1) (hC C hc) ⟨hf1, hf2, hf3⟩ (lookup_none (by rw [h2]; exact hn)) ?_
  refine ha.run pos _ [.ref a] pins s1 σ H1 Q hf3 I1 ?_ hpl hall hks
  refine (w_apk hw (w_meth2 r hs q pp)).imp fun vs H2 ⟨hl, F2, ρ2, m2, ws, r2, q2, hl2, p2⟩ => ⟨hl, fun us s2 rv I2 => ?_⟩
  refine run_kw (A := X.A) (us := .ref a :: us) (vs := .ref a :: vs) Fn hr kb tk I2 (.cons rfl rv) (by simp only [List.length_cons]; omega) ?_
  rw [List.cons_append, pk_self]
  rw [List.append_nil] at hl2 p2
  exact ⟨by rw [hps, q2.length, hl2], F2, ρ2, m2, ws, r2, q2, p2⟩
end
end Sm

/-! S34: the tables of a law in one; short forms of the rules. -/
namespace Sm
open PySem PySem.Spec PyProof.Rows L2

/-- what the text of a law tells of its defs and classes -/
structure Tb where
  fn : List (Str × Nat × List W × Nat)
  ini : List (Str × Nat × List W × Nat)
  met : List (Str × Str × Nat × List W × Nat)
  ats : Ats
  tc : List Str
  kt : Kt
  bl : List Str
  gs : List (Str × Str)
  prp : List (Str × Str × Nat) := []
  kfn : List (Str × Nat × List Str × List Nat × List W × Nat) := []
  kin : List (Str × Nat × List Str × List Nat × List W × Nat) := []
  kme : List (Str × Str × Nat × List Str × List Nat × Nat) := []
/-- the worths one level deeper -/
structure Gam where
  f : Nat → List W → M W
  i : Nat → MO → List W → M MO
  m : Nat → Str → List W → M W
/-- a property of a class -/
structure CalP (P : Program) (w : World) (K : PySem.W.Frag) (mg : Str → Option Value) (base : Heap) (cl : Str → Addr) (k : Nat) (C f : Str) (γ : List W → M W) : Prop where
  ex : ∃ p g fd ps, PropOf K (cl C) f p g ∧ FnOk P w K mg base (CX P w) k g fd ps (spF ⟨K, cl⟩ 1 γ) ∧ Binds K fd ps [] ∧ Cls K (cl C)
structure Hy (P : Program) (w : World) (K : PySem.W.Frag) (mg : Str → Option Value) (base : Heap) (cl : Str → Addr) (k : Nat) (t : Tb) (g : Gam) : Prop where
  fn : ∀ p ∈ t.fn, Cal P w K mg base cl k p.1 p.2.1 p.2.2.1 (g.f p.2.2.2)
  ini : ∀ p ∈ t.ini, CalI P w K mg base cl k p.1 p.2.1 p.2.2.1 (g.i p.2.2.2)
  met : ∀ p ∈ t.met, CalM P w K mg base cl k p.1 p.2.1 p.2.2.1 p.2.2.2.1 (g.m p.2.2.2.2 p.1)
  prp : ∀ p ∈ t.prp, CalP P w K mg base cl k p.1 p.2.1 (g.m p.2.2 p.1)
  kfn : ∀ p ∈ t.kfn, CalK P w K mg base cl k p.1 p.2.1 p.2.2.1 p.2.2.2.1 p.2.2.2.2.1 (g.f p.2.2.2.2.2)
  kin : ∀ p ∈ t.kin, CalIK P w K mg base cl k p.1 p.2.1 p.2.2.1 p.2.2.2.1 p.2.2.2.2.1 (g.i p.2.2.2.2.2)
  kme : ∀ p ∈ t.kme, CalMK P w K mg base cl k p.1 p.2.1 p.2.2.1 p.2.2.2.1 p.2.2.2.2.1 [] (g.m p.2.2.2.2.2 p.1)
structure Fx (K : PySem.W.Frag) (mg : Str → Option Value) (cl : Str → Addr) (t : Tb) : Prop where
  nog : NoG mg t.bl
  at_ : AtOk K cl t.ats
  tc : TcOk K cl t.tc
  kt : KtOk K cl t.kt
  cls : ∀ C ∈ t.tc, mg C = some (.ref (cl C))
  gs : ∀ p ∈ t.gs, ∃ tk, mg p.1 = some (.str p.2 tk)
section
variable {P : Program} {w : World} {K : PySem.W.Frag} {mg : Str → Option Value} {base : Heap} {cl : Str → Addr} {k : Nat} {t : Tb} {g : Gam}
theorem Hy.fnAt (h : Hy P w K mg base cl k t g) (i : Nat) {x : Str} {n j : Nat} {d : List W} (e : t.fn[i]? = some (x, n, d, j) := by rfl) : Cal P w K mg base cl k x n d (g.f j) := h.fn _ (List.mem_of_getElem? e)
theorem Hy.iniAt (h : Hy P w K mg base cl k t g) (i : Nat) {C : Str} {n j : Nat} {d : List W} (e : t.ini[i]? = some (C, n, d, j) := by rfl) : CalI P w K mg base cl k C n d (g.i j) := h.ini _ (List.mem_of_getElem? e)
theorem Hy.metAt (h : Hy P w K mg base cl k t g) (i : Nat) {C m : Str} {n j : Nat} {d : List W} (e : t.met[i]? = some (C, m, n, d, j) := by rfl) : CalM P w K mg base cl k C m n d (g.m j C) := h.met _ (List.mem_of_getElem? e)
theorem Hy.prpsOf (h : Hy P w K mg base cl k t g) {f : Str} {j : Nat} {T : List Str} (e : (T.all fun C => t.prp.any fun p => p.1 == C && p.2.1 == f && p.2.2 == j) = true) : ∀ C ∈ T, CalP P w K mg base cl k C f (g.m j C) := fun C hC => by
  obtain ⟨⟨a, b, i⟩, h1, h2⟩ := List.any_eq_true.mp (List.all_eq_true.mp e C hC)
  simp only [Bool.and_eq_true, beq_iff_eq] at h2
  obtain ⟨⟨rfl, rfl⟩, rfl⟩ := h2
  exact h.prp _ h1
theorem Hy.kfnAt (h : Hy P w K mg base cl k t g) (i : Nat) {x : Str} {n j : Nat} {ks : List Str} {ix : List Nat} {d : List W} (e : t.kfn[i]? = some (x, n, ks, ix, d, j) := by rfl) : CalK P w K mg base cl k x n ks ix d (g.f j) := h.kfn _ (List.mem_of_getElem? e)
theorem Hy.kinAt (h : Hy P w K mg base cl k t g) (i : Nat) {x : Str} {n j : Nat} {ks : List Str} {ix : List Nat} {d : List W} (e : t.kin[i]? = some (x, n, ks, ix, d, j) := by rfl) : CalIK P w K mg base cl k x n ks ix d (g.i j) := h.kin _ (List.mem_of_getElem? e)
theorem Hy.kmesOf (h : Hy P w K mg base cl k t g) {m : Str} {n j : Nat} {ks : List Str} {ix : List Nat} {T : List Str} (e : (T.all fun C => t.kme.any fun p => p.1 == C && p.2.1 == m && p.2.2.1 == n && p.2.2.2.1 == ks && p.2.2.2.2.1 == ix && p.2.2.2.2.2 == j) = true) : ∀ C ∈ T, CalMK P w K mg base cl k C m n ks ix [] (g.m j C) := fun C hC => by
  obtain ⟨⟨a, b, c, d, f, i⟩, h1, h2⟩ := List.any_eq_true.mp (List.all_eq_true.mp e C hC)
  simp only [Bool.and_eq_true, beq_iff_eq] at h2
  obtain ⟨⟨⟨⟨⟨rfl, rfl⟩, rfl⟩, rfl⟩, rfl⟩, rfl⟩ := h2
  exact h.kme _ h1
/-- one method of many classes -/
theorem Hy.metsOf (h : Hy P w K mg base cl k t g) {m : Str} {n j : Nat} {T : List Str} (e : (T.all fun C => t.met.any fun p => p.1 == C && p.2.1 == m && p.2.2.1 == n && p.2.2.2.1.isEmpty && p.2.2.2.2 == j) = true) : ∀ C ∈ T, CalM P w K mg base cl k C m n [] (g.m j C) := fun C hC => by
  obtain ⟨⟨a, b, c, d, i⟩, h1, h2⟩ := List.any_eq_true.mp (List.all_eq_true.mp e C hC)
  simp only [Bool.and_eq_true, beq_iff_eq, List.isEmpty_iff] at h2
  obtain ⟨⟨⟨⟨rfl, rfl⟩, rfl⟩, rfl⟩, rfl⟩ := h2
  exact h.met _ h1
end
section
variable {K : PySem.W.Frag} {cl : Str → Addr} {t : Tb} {X : Cx} {Wx : WX} {e e2 : Expr} {f f2 : Fe} {p pos : Pos} {x : Str}
theorem s_gs (h : Fx X.K X.mg cl t) (i : Nat) {z : Str} (e : t.gs[i]? = some (x, z) := by rfl) (hg : Gl X x := by rfl) (hd : (x == ("__debug__" : Str)) = false := by decide) : SE ⟨X.K, cl⟩ X Wx (.Name x pos) (eC (.str z)) := by
  obtain ⟨tk, hm⟩ := h.gs _ (List.mem_of_getElem? e)
  exact s_gstr hm hg hd
theorem s_cl (h : Fx X.K X.mg cl t) (i : Nat) (e : t.tc[i]? = some x := by rfl) (hg : Gl X x := by rfl) (hd : (x == ("__debug__" : Str)) = false := by decide) : SE ⟨X.K, cl⟩ X Wx (.Name x pos) (eC (.cls x)) := s_cls (h.cls _ (List.mem_of_getElem? e)) hg hd
theorem s_isi (h : Fx X.K X.mg cl t) (i : Nat) (ha : SR ⟨X.K, cl⟩ X Wx e f) (hb : SR ⟨X.K, cl⟩ X Wx e2 f2) (eb : t.bl[i]? = some ("isinstance" : Str) := by rfl) (hg : Gl X "isinstance" := by rfl) (h1 : starEach [e, e2] X.env = (false, eval e X.env) :: starEach [e2] X.env := by rfl) (h2 : starEach [e2] X.env = (false, eval e2 X.env) :: starEach [] X.env := by rfl) (hpl : (backTo pos (starEach [e2] X.env)).any (·.1) = false := by rfl) :
    SE ⟨X.K, cl⟩ X Wx (.Call (.Name "isinstance" p) [e, e2] [] pos) (eBlt (isiW t.tc t.kt) (aCons f (aCons f2 aNil))) := s_blt (c_isi h.tc h.kt) (ar_cons ha (ar_cons hb ar_nil h2) h1) (h.nog.at i eb) (by kernel_rfl) hg (by decide) (by decide) h1 hpl
theorem s_all (h : Fx X.K X.mg cl t) (i : Nat) (hc : X.calm = true) (ha : SR ⟨X.K, cl⟩ X Wx e f) (eb : t.bl[i]? = some ("all" : Str) := by rfl) (hg : Gl X "all" := by rfl) (h1 : starEach [e] X.env = (false, eval e X.env) :: starEach [] X.env := by rfl) (hpl : (backTo pos (starEach [] X.env)).any (·.1) = false := by rfl) :
    SE ⟨X.K, cl⟩ X Wx (.Call (.Name "all" p) [e] [] pos) (eBlt allW (aCons f aNil)) := s_blt (c_all hc) (ar_cons ha ar_nil h1) (h.nog.at i eb) (by kernel_rfl) hg (by decide) (by decide) h1 hpl
end
/-- the operators of the classes T -/
structure Ox (K : PySem.W.Frag) (cl : Str → Addr) (T : List Str) : Prop where
  op_Add : OpT K cl (Operator.info .Add).2 T
  op_BitOr : OpT K cl (Operator.info .BitOr).2 T
  op_BitAnd : OpT K cl (Operator.info .BitAnd).2 T
  op_Mult : OpT K cl (Operator.info .Mult).2 T
  opi_Mult : OpI K cl (Operator.info .Mult).2 T
  ni_Add : ∀ C ∈ T, noI K (cl C) (Operator.info .Add).2 = true
  ni_BitOr : ∀ C ∈ T, noI K (cl C) (Operator.info .BitOr).2 = true
  ni_BitAnd : ∀ C ∈ T, noI K (cl C) (Operator.info .BitAnd).2 = true
  ni_Mult : ∀ C ∈ T, noI K (cl C) (Operator.info .Mult).2 = true
  eq : EqT K cl T
  cls : ∀ C ∈ T, Cls K (cl C)
end Sm

/-! S35: is, is not of bools. -/
namespace Sm
open PySem PySem.Spec PyProof.Rows L2
def isBW : W → W → Sto → Option W
  | .bl a, .bl b, _ => some (.bl (a == b))
  | _, _, _ => none
def notBW : W → W → Sto → Option W
  | .bl a, .bl b, _ => some (.bl (!(a == b)))
  | _, _, _ => none
section
variable {c : Cn} {X : Cx}
theorem o_isB : OpR X (compareOp .Is) (rS c isBW) := by
  intro pins s σ H x y v u Q I rx ry h
  obtain ⟨F, ρ, m, w1, w2, w, r, q1, q2, e, k⟩ := h
  unfold isBW at e
  split at e
  · rename_i a b
    cases e
    have e1 := q1.bl
    have e2 := q2.bl
    subst e1 e2
    cases rx
    cases ry
    show wpAny _ _ (isSame (.bool a) (.bool b) >>= fun r => pure (Value.bool r)) _ _ _
    refine wpAny_bind (wpAny_of_eq (show isSame (.bool a) (.bool b) = pure (a == b) from by cases a <;> cases b <;> rfl) (wpAny_pure ⟨.bl (a == b), H, I, rfl, k _ F ρ H r .refl rfl⟩))
  · cases e
theorem o_notB : OpR X (compareOp .IsNot) (rS c notBW) := by
  intro pins s σ H x y v u Q I rx ry h
  obtain ⟨F, ρ, m, w1, w2, w, r, q1, q2, e, k⟩ := h
  unfold notBW at e
  split at e
  · rename_i a b
    cases e
    have e1 := q1.bl
    have e2 := q2.bl
    subst e1 e2
    cases rx
    cases ry
    show wpAny _ _ (isSame (.bool a) (.bool b) >>= fun r => pure (Value.bool (!r))) _ _ _
    refine wpAny_bind (wpAny_of_eq (show isSame (.bool a) (.bool b) = pure (a == b) from by cases a <;> cases b <;> rfl) (wpAny_pure ⟨.bl (!(a == b)), H, I, rfl, k _ F ρ H r .refl rfl⟩))
  · cases e
end
/-- a, b, c = x, y, z -/
def sPar3 (i j l : Nat) (g : Fas) : Fs := fun τ m => exS (g τ m) τ fun ws m' => match ws with
  | [u, v, w] => .ok (.nx (((τ.set i (.val u)).set j (.val v)).set l (.val w))) m'
  | _ => .bad
section
variable {c : Cn} {X : Cx} {Wx : WX} {B : Bs} {g : Fas} {pos : Pos}
theorem x_par3 {i j l : Nat} {x y z : Str} {px py pz pt pt2 : Pos} {kt k2} {a b d : Expr} (hc : X.calm = true) (hN : X.N.Nodup) (hij : i ≠ j) (hil : i ≠ l) (hjl : j ≠ l) (ha : SA c X Wx [a, b, d] g) (hi : X.N[i]? = some x := by rfl) (hj : X.N[j]? = some y := by rfl) (hl : X.N[l]? = some z := by rfl)
    (hx : X.env.scope.names.lookup x = some .local := by rfl) (hy : X.env.scope.names.lookup y = some .local := by rfl) (hz : X.env.scope.names.lookup z = some .local := by rfl)
    (hw : swappedStores [.Tuple [.Name x px, .Name y py, .Name z pz] kt pt] (.Tuple [a, b, d] k2 pt2) X.env = pure (some [x, y, z]) := by rfl) (hs : swapsWithSole [.Tuple [.Name x px, .Name y py, .Name z pz] kt pt] (.Tuple [a, b, d] k2 pt2) pos.line X.env = pure false := by rfl) :
    SX c X Wx B (.Assign [.Tuple [.Name x px, .Name y py, .Name z pz] kt pt] (.Tuple [a, b, d] k2 pt2) pos) (sPar3 i j l g) :=
  PS.weak (ps_par3 hc hN hi hj hl hij hil hjl hx hy hz ha hw hs) fun D σ H ⟨F, ρ, m, τ, fr, p⟩ => useA fr p fun ws m' vs F' ρ' H' fr' r q => by
    match ws, q, r with
    | [u, v, t], q, r =>
      obtain ⟨v1, r1, rfl, h1, t1⟩ := r.inv
      obtain ⟨v2, r2, rfl, h2, t2⟩ := t1.inv
      obtain ⟨v3, r3, rfl, h3, t3⟩ := t2.inv
      have e : r3 = [] := t3
      subst e
      exact ⟨v1, v2, v3, rfl, q _ _ _ _ (((fr'.setv h1).setv h2).setv h3)⟩
    | [], q, _ => exact q.elim
    | [_], q, _ => exact q.elim
    | [_, _], q, _ => exact q.elim
    | _ :: _ :: _ :: _ :: _, q, _ => exact q.elim
end
end Sm

/-! S36: what the run of the text tells of the fragment. -/
namespace Sm
open PySem PySem.Spec PyProof.Rows L2
abbrev FnU : Type := Option (Str × Str × Arguments × FuncBody × Scope × Addr × Addr)
def fnU (K : PySem.W.Frag) (p : Str × Option Str) : FnU := match K.lookup (He.fAd K p) with
  | some ⟨_, _, .func fd, _⟩ => some (fd.name, fd.qualname, fd.params, fd.body, fd.scope, fd.globals, fd.builtins)
  | _ => none
/-- where the getter of a property stands -/
def gAd (K : PySem.W.Frag) (p : Str × Option Str) : Addr := match PySem.W.recIn K (He.fAd K p) "property" with
  | some (.ref g :: _) => g
  | _ => 0
def fnP (K : PySem.W.Frag) (p : Str × Option Str) : FnU := match K.lookup (gAd K p) with
  | some ⟨_, _, .func fd, _⟩ => some (fd.name, fd.qualname, fd.params, fd.body, fd.scope, fd.globals, fd.builtins)
  | _ => none
/-- a def of the text: where it stands, what it is -/
structure DefU where
  at_ : Str × Option Str
  name : Str
  qual : Str
  params : Arguments
  body : List Stmt
  scope : Scope
  pr : Bool
def fnD (K : PySem.W.Frag) (d : DefU) : FnU := bif d.pr then fnP K d.at_ else fnU K d.at_
def DefU.val (d : DefU) : FnU := some (d.name, d.qual, d.params, .stmts d.body, d.scope, mainGlobals, builtinsNs)
abbrev AlU : Type := Bool × List FnU
def obsU (B : PySem.W.Frag → Bool) (ds : List DefU) (K : PySem.W.Frag) : AlU := (B K, ds.map (fnD K))
def valU (ds : List DefU) : AlU := (true, ds.map DefU.val)
def SaysU (B : PySem.W.Frag → Bool) (ds : List DefU) (K : PySem.W.Frag) : Prop := obsU B ds K = valU ds
/-- reached from the module's names (and the machine's own dict that super() asks) in n steps -/
def asU (g : Addr → Option Obj) : Nat → List Addr
  | 0 => [mainGlobals, cStatics]
  | n + 1 => He.growD g (asU g n)
def obsUG (n : Nat) (B : PySem.W.Frag → Bool) (ds : List DefU) (g : Addr → Option Obj) : AlU := obsU B ds (He.frG g (asU g n))
def hookU (n : Nat) (B : PySem.W.Frag → Bool) (ds : List DefU) : PySem.W.Hook where
  α := AlU
  obs := fun s => obsUG n B ds s.heap.get?
  val := fun _ => valU ds
  says := fun _ h => ∃ K : PySem.W.Frag, K.In h ∧ SaysU B ds K
  of := fun _ _ e => ⟨_, He.frG_in, e⟩
  keeps := fun _ _ _ ⟨K, hK, c⟩ k => ⟨K, PySem.W.Frag.In.keeps hK k, c⟩
theorem obsUG_eq {n : Nat} {B : PySem.W.Frag → Bool} {ds : List DefU} {g : Addr → Option Obj} {s : Shared} (h : ∀ a, g a = s.heap.get? a) : obsUG n B ds g = (hookU n B ds).obs s := by
  have e : g = s.heap.get? := funext h
  rw [e] <;> rfl
section
variable {B : PySem.W.Frag → Bool} {ds : List DefU} {K : PySem.W.Frag}
theorem SaysU.b (c : SaysU B ds K) : B K = true := congrArg (fun z : AlU => z.1) c
theorem SaysU.dd (c : SaysU B ds K) (i : Nat) {d : DefU} (h : ds[i]? = some d := by rfl) : fnD K d = d.val := by
  have e : ds.map (fnD K) = ds.map DefU.val := congrArg (fun z : AlU => z.2) c
  have e2 : (ds.map (fnD K))[i]? = (ds.map DefU.val)[i]? := by rw [e]
  rw [List.getElem?_map, List.getElem?_map, h] at e2
  exact Option.some.inj e2
theorem SaysU.d (c : SaysU B ds K) (i : Nat) {d : DefU} (h : ds[i]? = some d := by rfl) (hp : d.pr = false := by rfl) : fnU K d.at_ = d.val := by
  have e := c.dd i h
  unfold fnD at e
  rw [hp] at e
  exact e
theorem SaysU.dp (c : SaysU B ds K) (i : Nat) {d : DefU} (h : ds[i]? = some d := by rfl) (hp : d.pr = true := by rfl) : fnP K d.at_ = d.val := by
  have e := c.dd i h
  unfold fnD at e
  rw [hp] at e
  exact e
end
/-- a plain def, with its defaults -/
def defB (K : PySem.W.Frag) (p : Str × Option Str) (qual : Str) (dvs : List V) : Bool := PySem.W.keepIn K (.ref (He.fAd K p)) && (match K.lookup (He.fAd K p) with
  | some ⟨_, _, .func fd, _⟩ => fd.closure.isEmpty && (PySem.W.codeIn K fd.code qual && (He.dflB K fd.defaults dvs && He.kwdB K fd.kwdefaults []))
  | _ => false)
theorem funD_of {K : PySem.W.Frag} {d : DefU} {dvs : List V} (e : fnU K d.at_ = d.val) (c : defB K d.at_ d.qual dvs = true) : ∃ fd, FunD K d.name d.qual d.params d.body d.scope dvs [] (He.fAd K d.at_) fd := by
  obtain ⟨kp, c2⟩ := He.ba c
  unfold fnU at e
  cases q : K.lookup (He.fAd K d.at_) with
  | none =>
    rw [q] at c2
    cases c2
  | some o =>
    obtain ⟨oc, od, dt, osl⟩ := o
    rw [q] at c2 e
    cases dt with
    | func fd =>
      obtain ⟨n1, n2, n3, n4, n5, n6, n7, n8, n9, n10, n11, n12, n13, n14, n15⟩ := fd
      have e2 : (some (n1, n2, n3, n4, n5, n6, n15) : FnU) = some (d.name, d.qual, d.params, .stmts d.body, d.scope, mainGlobals, builtinsNs) := e
      simp only [Option.some.injEq, Prod.mk.injEq] at e2
      obtain ⟨h1, h2, h3, h4, h5, h6, h8⟩ := e2
      subst h1 h2 h3 h4 h5 h6 h8
      have c3 : (n7.isEmpty && (PySem.W.codeIn K n13 d.qual && (He.dflB K n8 dvs && He.kwdB K n9 []))) = true := c2
      obtain ⟨k0, k1'⟩ := He.ba c3
      obtain ⟨k1, k2⟩ := He.ba k1'
      obtain ⟨k3, k4⟩ := He.ba k2
      have e7 : n7 = [] := List.isEmpty_iff.mp k0
      subst e7
      exact ⟨_, ⟨oc, od, n8, n9, n10, n11, n12, n13, n14, osl, rfl, q, k1, He.dflB_ok k3, He.kwdB_ok k4⟩, kp⟩
    | _ => cases c2
/-- the getter of a property -/
def defP (K : PySem.W.Frag) (p : Str × Option Str) (qual : Str) (dvs : List V) : Bool := PySem.W.keepIn K (.ref (gAd K p)) && (match K.lookup (gAd K p) with
  | some ⟨_, _, .func fd, _⟩ => fd.closure.isEmpty && (PySem.W.codeIn K fd.code qual && (He.dflB K fd.defaults dvs && He.kwdB K fd.kwdefaults []))
  | _ => false)
theorem funP_of {K : PySem.W.Frag} {d : DefU} {dvs : List V} (e : fnP K d.at_ = d.val) (c : defP K d.at_ d.qual dvs = true) : ∃ fd, FunD K d.name d.qual d.params d.body d.scope dvs [] (gAd K d.at_) fd := by
  obtain ⟨kp, c2⟩ := He.ba c
  unfold fnP at e
  cases q : K.lookup (gAd K d.at_) with
  | none =>
    rw [q] at c2
    cases c2
  | some o =>
    obtain ⟨oc, od, dt, osl⟩ := o
    rw [q] at c2 e
    cases dt with
    | func fd =>
      obtain ⟨n1, n2, n3, n4, n5, n6, n7, n8, n9, n10, n11, n12, n13, n14, n15⟩ := fd
      have e2 : (some (n1, n2, n3, n4, n5, n6, n15) : FnU) = some (d.name, d.qual, d.params, .stmts d.body, d.scope, mainGlobals, builtinsNs) := e
      simp only [Option.some.injEq, Prod.mk.injEq] at e2
      obtain ⟨h1, h2, h3, h4, h5, h6, h8⟩ := e2
      subst h1 h2 h3 h4 h5 h6 h8
      have c3 : (n7.isEmpty && (PySem.W.codeIn K n13 d.qual && (He.dflB K n8 dvs && He.kwdB K n9 []))) = true := c2
      obtain ⟨k0, k1'⟩ := He.ba c3
      obtain ⟨k1, k2⟩ := He.ba k1'
      obtain ⟨k3, k4⟩ := He.ba k2
      have e7 : n7 = [] := List.isEmpty_iff.mp k0
      subst e7
      exact ⟨_, ⟨oc, od, n8, n9, n10, n11, n12, n13, n14, osl, rfl, q, k1, He.dflB_ok k3, He.kwdB_ok k4⟩, kp⟩
    | _ => cases c2
/-- a def of the class C that says super() -/
def supB (K : PySem.W.Frag) (file C : Str) (p : Str × Option Str) (qual : Str) (dvs : List V) : Bool := match K.lookup (He.fAd K p) with
  | some ⟨_, _, .func fd, _⟩ => (match fd.closure with
    | [(n, cc)] => decide (n = ("__class__" : Str)) && (match K.lookup cc with
      | some ⟨_, _, .cell (some (.ref D)), _⟩ => decide (D = He.ga K C)
      | _ => false)
    | _ => false) && (PySem.W.codeIn K fd.code qual && ((match fd.code with
    | .ref cda => (match K.lookup cda with
      | some ⟨_, _, .fields vs, _⟩ => (match ((vs : Array Value)[(2 : Nat)]? : Option Value) with
        | some (.str f _) => f == file
        | _ => false)
      | _ => false)
    | _ => false) && ((PySem.W.clsIn K (He.ga K C)).isSome && He.dflB K fd.defaults dvs)))
  | _ => false
theorem funS_of {P : Program} {K : PySem.W.Frag} {d : DefU} {file C : Str} {dvs : List V} (hf : (P.main.file : Str) = file) (e : fnU K d.at_ = d.val) (c : supB K file C d.at_ d.qual dvs = true) : ∃ fd cc cda, FunS P K d.name d.qual d.params d.body d.scope (He.fAd K d.at_) fd cc (He.ga K C) cda ∧ DflV K fd.defaults dvs := by
  unfold fnU at e
  unfold supB at c
  cases q : K.lookup (He.fAd K d.at_) with
  | none =>
    rw [q] at c
    cases c
  | some o =>
    obtain ⟨oc, od, dt, osl⟩ := o
    rw [q] at c e
    cases dt with
    | func fd =>
      obtain ⟨n1, n2, n3, n4, n5, n6, n7, n8, n9, n10, n11, n12, n13, n14, n15⟩ := fd
      have e2 : (some (n1, n2, n3, n4, n5, n6, n15) : FnU) = some (d.name, d.qual, d.params, .stmts d.body, d.scope, mainGlobals, builtinsNs) := e
      simp only [Option.some.injEq, Prod.mk.injEq] at e2
      obtain ⟨h1, h2, h3, h4, h5, h6, h8⟩ := e2
      subst h1 h2 h3 h4 h5 h6 h8
      dsimp only at c
      obtain ⟨c1, c2⟩ := He.ba c
      obtain ⟨c3, c4⟩ := He.ba c2
      obtain ⟨c5, c6'⟩ := He.ba c4
      obtain ⟨c6, c9⟩ := He.ba c6'
      split at c1
      rotate_left
      · cases c1
      rename_i nn cc
      obtain ⟨c7, c8⟩ := He.ba c1
      have en : nn = ("__class__" : Str) := of_decide_eq_true c7
      subst en
      split at c8
      rotate_left
      · cases c8
      rename_i oc2 od2 D osl2 q2
      have eD : D = He.ga K C := of_decide_eq_true c8
      subst eD
      split at c5
      rotate_left
      · cases c5
      rename_i cda
      split at c5
      rotate_left
      · cases c5
      rename_i oc3 od3 vs osl3 q3
      split at c5
      rotate_left
      · cases c5
      rename_i ff tf q4
      have ef : ff = file := by simpa using c5
      obtain ⟨cd, hcd⟩ := Option.isSome_iff_exists.mp c6
      exact ⟨_, cc, cda, ⟨⟨oc, od, n8, n9, n10, n11, n12, n14, osl, rfl, q⟩, c3, ⟨oc3, od3, vs, osl3, ff, tf, q3, q4, by rw [hf, ef]; simp⟩, ⟨oc2, od2, osl2, q2⟩, ⟨cd, hcd⟩⟩, He.dflB_ok c9⟩
    | _ => cases c
/-! ### binding -/
section
variable {K : PySem.W.Frag} {fd : FuncData} {ps : List Str} {dvs : List V}
/-- all but the last are given, the defaults from the j-th on fill up -/
theorem binds_d (hD : DflV K fd.defaults dvs) (n j : Nat) (hd : dvs ≠ []) (hn : n + (dvs.length - j) = ps.length)
    (h : ∀ (T : Addr) (us its : List Value), fd.defaults = .ref T → us.length = n → its.length = dvs.length → ∃ k, bindArgs fd ⟨us, []⟩ = seqItems? (.ref T) >>= k ∧ k (some its.toArray) = pure (ps.zip (us ++ its.drop j))) : ∃ ds, Vals (dvs.drop j) ds ∧ Binds K fd ps ds := by
  rcases hD with ⟨e, _⟩ | ⟨_, T, o, its, m, eT, lT, oT, rT⟩
  · exact absurd e hd
  · refine ⟨its.drop j, rT.drop j, fun s us X hlen => ?_⟩
    have l1 : its.length = dvs.length := rT.length.symm
    have l2 : us.length = n := by
      rw [List.length_append, List.length_drop, l1] at hlen
      omega
    obtain ⟨k, e1, e2⟩ := h T us its eT l2 l1
    refine BindsTo.of_looks fun M => ?_
    rw [e1]
    exact looks_items X lT oT (.of_pure e2)
end
end Sm

/-! S37: the facts of the tables, as Bools over the fragment. -/
namespace Sm
open PySem PySem.Spec PyProof.Rows L2
def eqB1 (a b : Option Bool) : Bool := decide (a = b)
def tycB (K : PySem.W.Frag) (C : Str) : Bool := (He.Fa.cls C).ok K && (He.eqO (PySem.W.findIn K (.ref (He.ga K C)) "__class__") (some (some (.builtin "object.__class__"))) && (He.eqO (PySem.W.specialIn K (.builtin "object.__class__") "__get__") (some (some (.builtin "getset_descriptor.__get__")))
  && (eqB1 (PySem.W.takesIn K (.builtin "object.__class__")) (some true) && eqB1 (PySem.W.mroIn K (He.ga K C) (.type "object")) (some true))))
def FxB (K : PySem.W.Frag) (t : Tb) : Bool := (t.bl.all fun x => (He.Fa.free x).ok K) && ((t.ats.all fun p => (He.Fa.cls p.1).ok K && p.2.all fun f => (He.Fa.noat p.1 f).ok K) && ((t.tc.all fun C => tycB K C) &&
  ((t.kt.all fun p => eqB1 (PySem.W.kitOne K (tyV (He.ga K) p.1.1) (tyV (He.ga K) p.1.2)) (some p.2)) && ((t.tc.all fun C => (He.Fa.glo C).ok K) && t.gs.all fun p => (He.Fa.str p.1 p.2).ok K))))
theorem Fx_of {K : PySem.W.Frag} {h : Heap} {mg : Str → Option Value} {t : Tb} (X : K.In h) (G : h.Ns mainGlobals mg) (b : FxB K t = true) : Fx K mg (He.ga K) t := by
  unfold FxB at b
  obtain ⟨b1, b⟩ := He.ba b
  obtain ⟨b2, b⟩ := He.ba b
  obtain ⟨b3, b⟩ := He.ba b
  obtain ⟨b4, b⟩ := He.ba b
  obtain ⟨b5, b6⟩ := He.ba b
  refine ⟨fun x hx => He.free_ok X G (List.all_eq_true.mp b1 x hx), fun p hp => ?_, fun C hC => ?_, fun p hp => of_decide_eq_true (List.all_eq_true.mp b4 p hp), fun C hC => He.glo_ok X G (List.all_eq_true.mp b5 C hC), fun p hp => He.str_ok X G (List.all_eq_true.mp b6 p hp)⟩
  · obtain ⟨c1, c2⟩ := He.ba (List.all_eq_true.mp b2 p hp)
    exact ⟨He.cls_ok c1, fun f hf => He.noat_ok (List.all_eq_true.mp c2 f hf)⟩
  · have c := List.all_eq_true.mp b3 C hC
    unfold tycB at c
    obtain ⟨c1, c⟩ := He.ba c
    obtain ⟨c2, c⟩ := He.ba c
    obtain ⟨c3, c⟩ := He.ba c
    obtain ⟨c4, c5⟩ := He.ba c
    exact ⟨He.cls_ok c1, He.eqO_ok c2, He.eqO_ok c3, of_decide_eq_true c4, of_decide_eq_true c5⟩
/-! ### operators -/
def opB (K : PySem.W.Frag) (nm : String) (T : List Str) : Bool := (T.all fun C => PySem.W.selfFirst K (He.ga K C)) && ((T.all fun C => He.eqO (PySem.W.findIn K (.ref (He.ga K C)) (dunderR nm)) (some none)) &&
  (T.all fun C => T.all fun D => decide (He.ga K D = He.ga K C) || eqB1 (PySem.W.subIn K (.ref (He.ga K D)) (.ref (He.ga K C))) (some false)))
theorem op_of {K : PySem.W.Frag} {nm : String} {T : List Str} (b : opB K nm T = true) : OpT K (He.ga K) nm T := by
  unfold opB at b
  obtain ⟨b1, b⟩ := He.ba b
  obtain ⟨b2, b3⟩ := He.ba b
  refine ⟨fun C hC => List.all_eq_true.mp b1 C hC, fun C hC => He.eqO_ok (List.all_eq_true.mp b2 C hC), fun C hC D hD => ?_⟩
  rcases Bool.or_eq_true_iff.mp (List.all_eq_true.mp (List.all_eq_true.mp b3 C hC) D hD) with e | e
  · exact .inl (of_decide_eq_true e)
  · exact .inr (of_decide_eq_true e)
def opiB (K : PySem.W.Frag) (nm : String) (T : List Str) : Bool := (PySem.W.findIn K (.type "int") (PySem.dunder nm)).isSome && ((PySem.W.findIn K (.type "int") (dunderR nm)).isSome && T.all fun C => eqB1 (PySem.W.subIn K (.type "int") (.ref (He.ga K C))) (some false))
theorem opi_of {K : PySem.W.Frag} {nm : String} {T : List Str} (b : opiB K nm T = true) : OpI K (He.ga K) nm T := by
  unfold opiB at b
  obtain ⟨b1, b⟩ := He.ba b
  obtain ⟨b2, b3⟩ := He.ba b
  exact ⟨Option.isSome_iff_exists.mp b1, Option.isSome_iff_exists.mp b2, fun C hC => of_decide_eq_true (List.all_eq_true.mp b3 C hC)⟩
def eqtB (K : PySem.W.Frag) (T : List Str) : Bool := (T.all fun C => T.all fun D => PySem.W.notFirst K (He.ga K C) (.ref (He.ga K D))) && ((T.all fun C => eqB1 (PySem.W.mroIn K (He.ga K C) (.type "object")) (some true)) && T.all fun C => He.eqO (PySem.W.findIn K (.ref (He.ga K C)) "__ne__") (some (some (.builtin "object.__ne__"))))
theorem eqt_of {K : PySem.W.Frag} {T : List Str} (b : eqtB K T = true) : EqT K (He.ga K) T := by
  unfold eqtB at b
  obtain ⟨b1, b⟩ := He.ba b
  obtain ⟨b2, b3⟩ := He.ba b
  exact ⟨fun C hC D hD => List.all_eq_true.mp (List.all_eq_true.mp b1 C hC) D hD, fun C hC => of_decide_eq_true (List.all_eq_true.mp b2 C hC), fun C hC => He.eqO_ok (List.all_eq_true.mp b3 C hC)⟩
def OxB (K : PySem.W.Frag) (T : List Str) : Bool := opB K (Operator.info .Add).2 T && (opB K (Operator.info .BitOr).2 T && (opB K (Operator.info .BitAnd).2 T && (opB K (Operator.info .Mult).2 T && (opiB K (Operator.info .Mult).2 T &&
  ((T.all fun C => noI K (He.ga K C) (Operator.info .Add).2) && ((T.all fun C => noI K (He.ga K C) (Operator.info .BitOr).2) && ((T.all fun C => noI K (He.ga K C) (Operator.info .BitAnd).2) && ((T.all fun C => noI K (He.ga K C) (Operator.info .Mult).2) && (eqtB K T && T.all fun C => (He.Fa.cls C).ok K)))))))))
theorem Ox_of {K : PySem.W.Frag} {T : List Str} (b : OxB K T = true) : Ox K (He.ga K) T := by
  unfold OxB at b
  obtain ⟨b1, b⟩ := He.ba b
  obtain ⟨b2, b⟩ := He.ba b
  obtain ⟨b3, b⟩ := He.ba b
  obtain ⟨b4, b⟩ := He.ba b
  obtain ⟨b5, b⟩ := He.ba b
  obtain ⟨b6, b⟩ := He.ba b
  obtain ⟨b7, b⟩ := He.ba b
  obtain ⟨b8, b⟩ := He.ba b
  obtain ⟨b9, b⟩ := He.ba b
  obtain ⟨b10, b11⟩ := He.ba b
  exact ⟨op_of b1, op_of b2, op_of b3, op_of b4, opi_of b5, fun C hC => List.all_eq_true.mp b6 C hC, fun C hC => List.all_eq_true.mp b7 C hC, fun C hC => List.all_eq_true.mp b8 C hC, fun C hC => List.all_eq_true.mp b9 C hC, eqt_of b10, fun C hC => He.cls_ok (List.all_eq_true.mp b11 C hC)⟩
end Sm

/-! S38: the facts of super().__init__, as Bools. -/
namespace Sm
open PySem PySem.Spec PyProof.Rows L2
def supFB (K : PySem.W.Frag) (b C : Str) : Bool := eqB1 (PySem.W.mroIn K (He.ga K C) (.ref (He.ga K C))) (some true) && (He.eqO (PySem.W.nsIn K cStatics "thirdparty.any") (some none) && (He.eqO (PySem.W.ks_superIn K (He.ga K C) (He.ga K C) "__init__") (some (some (.ref (He.fAd K (b, some "__init__"))))) &&
  (decide (PySem.W.typeIn K (.ref (He.fAd K (b, some "__init__"))) = some (.type "function")) && PySem.W.fnIn K (He.fAd K (b, some "__init__")))))
theorem sup_of {P : Program} {w : World} {K : PySem.W.Frag} {mg : Str → Option Value} {base : Heap} {k : Nat} {b C : Str} {n : Nat} {γ : MO → List W → M MO} {fd : FuncData} {ps : List Str} (h : supFB K b C = true) (top : (P.main.scope.names.lookup ("super" : Str)).isSome = false) (hm : mg "super" = none)
    (F : FnOk P w K mg base (CX P w) k (He.fAd K (b, some "__init__")) fd ps (spI ⟨K, He.ga K⟩ ps.length γ)) (hn : ps.length = n) (hb : Binds K fd ps []) : SupI P w K mg base (He.ga K) k C n γ := by
  unfold supFB at h
  obtain ⟨h1, h⟩ := He.ba h
  obtain ⟨h2, h⟩ := He.ba h
  obtain ⟨h3, h⟩ := He.ba h
  obtain ⟨h4, h5⟩ := He.ba h
  exact ⟨of_decide_eq_true h1, He.eqO_ok h2, top, hm, _, fd, ps, F, hn, hb, He.eqO_ok h3, of_decide_eq_true h4, h5⟩
end Sm

/-! S39: rows of the tables. -/
namespace Sm
open PySem PySem.Spec PyProof.Rows L2
section
variable {P : Program} {w : World} {K : PySem.W.Frag} {mg : Str → Option Value} {base : Heap} {cl : Str → Addr} {k : Nat}
theorem calM_mk {C m : Str} {f : Addr} {fd : FuncData} {ps : List Str} {γ : List W → M W} (F : FnOk P w K mg base (CX P w) k f fd ps (spF ⟨K, cl⟩ ps.length γ)) (hf : Meth K (cl C) m f) (hb : Binds K fd ps []) : CalM P w K mg base cl k C m ps.length [] γ :=
  ⟨f, fd, ps, [], [], F, rfl, hb, .nil, fun _ _ => RWs.nil, hf.at_, hf.fn, hf.kp⟩
theorem calI_mk {C : Str} {f : Addr} {fd : FuncData} {ps : List Str} {γ : MO → List W → M MO} {dws : List W} {ds : List Value} {dvs : List V} (F : FnOk P w K mg base (CX P w) k f fd ps (spI ⟨K, cl⟩ ps.length γ)) (hm : mg C = some (.ref (cl C))) (M : Mk K (cl C) f) (hb : Binds K fd ps ds) (hd : Vals dvs ds) (hw : ∀ F ρ, RWs ⟨K, cl⟩ F ρ dws dvs) :
    CalI P w K mg base cl k C ps.length dws γ := ⟨f, fd, ps, ds, dvs, F, rfl, hm, M, hb, hd, hw⟩
end
end Sm

/-! S40: the worth that tells nothing; the script. -/
namespace Sm
open PySem PySem.Spec PyProof.Rows L2
section
variable {P : Program} {w : World} {K : PySem.W.Frag} {mg : Str → Option Value} {base : Heap} {cl : Str → Addr}
theorem fnOkI_bad {k : Nat} {f : Addr} {fd : FuncData} {ps : List Str} : FnOk P w K mg base (CX P w) k f fd ps (spI ⟨K, cl⟩ ps.length fun _ _ => bad) := ⟨fun _ _ _ _ h => h.1, fun A outer s H args us vs Q E hr e0 hb r h => by
  obtain ⟨_, a, vs', F, ρ, m, ws, o, h, _, _, _, _, _, _, _, p⟩ := h
  exact p.elim⟩
/-- a def with defaults: the last ones are not given -/
theorem FunD.bindsD {x qual : Str} {params : Arguments} {body : List Stmt} {scope : Scope} {dvs : List V} {kws : List (Str × V)} {f : Addr} {fd : FuncData} {ps : List Str} (F : FunD K x qual params body scope dvs kws f fd) (n j : Nat) (hd : dvs ≠ []) (hn : n + (dvs.length - j) = ps.length)
    (h : ∀ (T : Addr) (kV doc pm : Value) (an : Option Addr) (cdv ct : Value) (us its : List Value), us.length = n → its.length = dvs.length →
      ∃ k, bindArgs (PySem.W.fnOf x qual params body scope (.ref T) kV doc pm an cdv ct) ⟨us, []⟩ = seqItems? (.ref T) >>= k ∧ k (some its.toArray) = pure (ps.zip (us ++ its.drop j))) : ∃ ds, Vals (dvs.drop j) ds ∧ Binds K fd ps ds := F.binds1 n j hd hn h
theorem empty_tup {a : Addr} (h : (match K.lookup a with | some ⟨.type c, _, .seq its _, _⟩ => c == "tuple" && its.size == 0 | _ => false) = true) (F : Hp) (ρ : List Addr) : RW ⟨K, cl⟩ F ρ (.tup []) (.ref a) := by
  unfold RW
  refine ⟨a, [], rfl, ?_, RWs.nil⟩
  cases q : K.lookup a with
  | none =>
    rw [q] at h
    cases h
  | some o =>
    obtain ⟨oc, od, dt, osl⟩ := o
    rw [q] at h
    cases oc with
    | type c =>
      cases dt with
      | seq its n =>
        simp only [Bool.and_eq_true, beq_iff_eq] at h
        obtain ⟨h1, h2⟩ := h
        subst h1
        have e : its = #[] := Array.eq_empty_of_size_eq_zero h2
        subst e
        exact .inr ⟨_, #[], n, q, rfl, rfl, by decide, .nil⟩
      | _ => cases h
    | _ => cases dt <;> cases h
end
/-- the law's end: its worth at the script is True -/
theorem law_end {K : PySem.W.Frag} {cl : Str → Addr} {γ : List W → M W} {H : Hp} {a : Addr} {ns : List Int} (hO : Only H) (hS : SqL K H a (ns.map V.int)) (hR : Rd H a (.lst (ns.map V.int))) (e : ∃ m', γ [.lst (ns.map .int)] [] = .ok (.bl true) m') : spF ⟨K, cl⟩ 1 γ [.ref a] H (fun v _ => v = .bl true) fun _ _ _ => False := by
  refine ⟨rfl, H, [], [], [.lst (ns.map .int)], ⟨Same.refl _, rfl, List.nodup_nil, fun _ h => (List.not_mem_nil h).elim, fun i a o h => by cases h⟩, RWs.cons ?_ RWs.nil, ?_⟩
  · unfold RW
    refine ⟨a, _, rfl, hR, ?_⟩
    clear hS hR e
    induction ns with
    | nil => exact RWs.nil
    | cons n ns ih => exact RWs.cons rfl ih
  · obtain ⟨m', e⟩ := e
    rw [e]
    intro v F' ρ' H' _ _ q
    exact q
section
variable {P : Program} {K : PySem.W.Frag} {x qual : Str} {params : Arguments} {body : List Stmt} {scope : Scope} {f cc D cda : Addr} {fd : FuncData} {ps : List Str} {dvs : List V}
theorem FunS.bindsN (Fs : FunS P K x qual params body scope f fd cc D cda) (hD : DflV K fd.defaults [])
    (h : ∀ (kV doc pm : Value) (an : Option Addr) (ct : Value) (us : List Value), us.length = ps.length → bindArgs (PySem.W.ksFn x qual params body scope .none kV doc pm an (.ref cda) ct cc) ⟨us, []⟩ = pure (ps.zip us)) : Binds K fd ps [] := by
  obtain ⟨oc, od, dV, kV, doc, pm, an, ct, osl, rfl, lk⟩ := Fs.ex
  rcases hD with ⟨_, e⟩ | ⟨e, _⟩
  · have e2 : dV = .none := e
    subst e2
    exact .all (h kV doc pm an ct)
  · exact absurd rfl e
theorem FunS.bindsD (Fs : FunS P K x qual params body scope f fd cc D cda) (hD : DflV K fd.defaults dvs) (n j : Nat) (hd : dvs ≠ []) (hn : n + (dvs.length - j) = ps.length)
    (h : ∀ (T : Addr) (kV doc pm : Value) (an : Option Addr) (ct : Value) (us its : List Value), us.length = n → its.length = dvs.length → ∃ k, bindArgs (PySem.W.ksFn x qual params body scope (.ref T) kV doc pm an (.ref cda) ct cc) ⟨us, []⟩ = seqItems? (.ref T) >>= k ∧ k (some its.toArray) = pure (ps.zip (us ++ its.drop j))) :
    ∃ ds, Vals (dvs.drop j) ds ∧ Binds K fd ps ds := by
  obtain ⟨oc, od, dV, kV, doc, pm, an, ct, osl, rfl, lk⟩ := Fs.ex
  refine binds_d hD n j hd hn fun T us its e h1 h2 => ?_
  have e2 : dV = .ref T := e
  subst e2
  exact h T kV doc pm an ct us its h1 h2
end
/-- no list stands in the fragment -/
def noLst (K : PySem.W.Frag) : Bool := K.all fun p => match p.2.cls with
  | .type c => !(c == "list")
  | _ => true
theorem rd_of {K : PySem.W.Frag} {H : Hp} {a : Addr} {xs : List V} (h : noLst K = true) (q : SqL K H a xs) : Rd H a (.lst xs) := by
  rcases q with q | ⟨o, its, n, h1, h2, _⟩
  · exact q
  · have hm : (a, o) ∈ K := by
      have h1' : List.lookup a K = some o := h1
      clear h h1 h2
      induction K with
      | nil => cases h1'
      | cons p K ih =>
        obtain ⟨b, u⟩ := p
        rw [List.lookup_cons] at h1'
        split at h1'
        · rename_i e
          cases h1'
          rw [eq_of_beq e]
          exact List.mem_cons_self ..
        · exact List.mem_cons_of_mem _ (ih h1')
    have z := List.all_eq_true.mp h _ hm
    dsimp only at z
    rw [h2] at z
    cases z
/-- a law lets nothing out -/
theorem noX {P : Program} {w : World} {K : PySem.W.Frag} {mg : Str → Option Value} {base : Heap} {k : Nat} {f : Addr} {fd : FuncData} {ps : List Str} {sp : Sp} (F : FnOk P w K mg base (CX P w) k f fd ps sp) : FnOk P w K mg base CX0 k f fd ps fun vs H Q _ => sp vs H Q fun _ _ _ => False :=
  ⟨fun vs H Q E h => F.len vs H Q _ h, fun A outer s H args us vs Q E hr he hb hv hs => codeAny_mono (F.run A outer s H args us vs Q _ hr he hb hv hs) fun r s' h => by
    cases r with
    | error e =>
      obtain ⟨a, B, H', cls, d, _, _, _, _, _, _, _, z⟩ := h
      exact z.elim
    | ok fl =>
      cases fl with
      | next => exact h
      | brk => exact h
      | cont => exact h
      | ret u => exact h⟩
end Sm

/-! S41: len(o), o[i] of own instances. -/
namespace Sm
open PySem PySem.Spec PyProof.Rows L2
def lenM (T : List Str) (Γ : Str → List W → M W) (x : W) : M W := fun m => match clsW x with
  | some C => if T.contains C then (match Γ C [x] m with
      | .ok (.int n) m' => if 0 ≤ n ∧ n.toNat < 4611686018427387904 then .ok (.int n) m' else .bad
      | .ok _ _ => .bad
      | .exc e m' => .exc e m'
      | .bad => .bad) else .bad
  | none => .bad
def itemM (T : List Str) (Γ : Str → List W → M W) (x y : W) : M W := fun m => match clsW x with
  | some C => if T.contains C then Γ C [x, y] m else .bad
  | none => .bad
/-- __getitem__ of the classes T is a def of the text -/
def GetT (K : PySem.W.Frag) (cl : Str → Addr) (T : List Str) : Prop := ∀ C ∈ T, ∀ f, PySem.W.findIn K (.ref (cl C)) "__getitem__" = some (some (.ref f)) → PySem.W.fnIn K f = true
def getB (K : PySem.W.Frag) (T : List Str) : Bool := T.all fun C => match PySem.W.findIn K (.ref (He.ga K C)) "__getitem__" with
  | some (some (.ref f)) => PySem.W.fnIn K f
  | _ => true
theorem getT_of {K : PySem.W.Frag} {T : List Str} (h : getB K T = true) : GetT K (He.ga K) T := fun C hC f e => by
  have z := List.all_eq_true.mp h C hC
  rw [e] at z
  exact z
section
variable {cl : Str → Addr} {X : Cx} {Wx : WX} {a b e : Expr} {fa fb fe : Fe} {p pos : Pos} {k : Nat} {T : List Str} {Γ : Str → List W → M W}
theorem s_ixO (hT : GetT X.K cl T) (hΓ : ∀ C ∈ T, CalM X.prog X.w X.K X.mg X.base cl k C "__getitem__" 2 [] (Γ C)) (hr : Room (k + 1) X.A) (tk : Takes X Wx) (ha : SE ⟨X.K, cl⟩ X Wx a fa) (hb : SE ⟨X.K, cl⟩ X Wx b fb)
    (hsl : ∀ v u, subscripted b true v u = runValue (.builtin "lifetime.subscript" ⟨[v, u], []⟩) := by intro _ _; rfl) : SE ⟨X.K, cl⟩ X Wx (.Subscript a b pos) (e2M (itemM T Γ) fa fb) := by
  refine ⟨fun pins s σ H Q I h => Subscript_ (binT ha hb I (w_2M h) fun v u s2 x y H2 I2 rx ry q => ?_)⟩
  obtain ⟨F, ρ, m, wx, wy, r, q1, q2, p⟩ := q
  unfold itemM at p
  split at p
  · rename_i C e1
    split at p
    · rename_i c1
      have c1' := List.contains_iff_mem.mp c1
      obtain ⟨ax, ox, od, rfl, J1⟩ := inst_of I2 r q1 e1
      cases rx
      obtain ⟨f, fd, ps, ds, dvs, Fn, hn, hbd, hd, hw, hs, hf, _⟩ := (hΓ C c1').ex
      obtain ⟨fm, fr⟩ := I2.fr
      exact PySem.W.sub_K fr I2.mod.kin J1 hs (hT C c1' f hs) hf (run_MA (A := X.A.in1) (us := [.ref ax, u]) (vs := [.ref ax, y]) Fn hr.in1 rfl hbd hd hw tk I2 (.cons rfl (.cons ry .nil)) r (.cons q1 (.cons q2 .nil)) (by rw [hn]; rfl) p) (hsl _ _)
    · exact p.elim
  · exact p.elim
theorem s_lenO (hΓ : ∀ C ∈ T, CalM X.prog X.w X.K X.mg X.base cl k C "__len__" 1 [] (Γ C)) (hr : Room (k + 1) X.A) (tk : Takes X Wx) (he : SE ⟨X.K, cl⟩ X Wx e fe) (hm : X.mg "len" = none) (hg : Gl X "len" := by rfl)
    (hst : starEach [e] X.env = (false, eval e X.env) :: starEach [] X.env := by rfl) (hpl : (backTo pos (starEach [] X.env)).any (·.1) = false := by rfl) : SE ⟨X.K, cl⟩ X Wx (.Call (.Name "len" p) [e] [] pos) (e1M (lenM T Γ) fe) := by
  refine ⟨fun pins s σ H Q I h => ?_⟩
  have ha : PA X [e] (tCons (sE ⟨X.K, cl⟩ Wx fe) tNil) := pa_cons he pa_nil hst
  refine wpAny_Call_Name_kw (ld_blt I hg hm boot_len ?_ (by decide) (by decide))
  refine PyProof.Rows.callWith_builtin1 (thn (ha.run pos pins s σ H (fun vs H1 => ∃ x, vs = [x] ∧ ∃ F ρ m wx, R ⟨X.K, cl⟩ F ρ m H1 ∧ RW ⟨X.K, cl⟩ F ρ wx x ∧ Post (OkE ⟨X.K, cl⟩ F ρ H1 Q) (OkX ⟨X.K, cl⟩ F ρ H1 fun k d H' => Wx k d σ H') (lenM T Γ wx m)) I ?_) fun us s1 ⟨vs, H1, I1, r1, x, ex, F, ρ, m, wx, r, q, pp⟩ => ?_) hst hpl
  · obtain ⟨F, ρ, m, τ, r, hs, p⟩ := w_1M h
    refine ⟨F, ρ, m, τ, r, hs, ?_⟩
    cases e1 : fe τ m with
    | bad =>
      rw [e1] at p
      exact p
    | exc z m' =>
      rw [e1] at p
      exact p
    | ok w m1 =>
      rw [e1] at p
      exact fun v F' ρ' H' r' g' q' => ⟨v, rfl, p v F' ρ' H' r' g' q'⟩
  subst ex
  unfold lenM at pp
  cases ec : clsW wx with
  | none =>
    rw [ec] at pp
    exact pp.elim
  | some C =>
    rw [ec] at pp
    dsimp only at pp
    by_cases hc : T.contains C = true
    · rw [if_pos hc] at pp
      obtain ⟨a, ox, od, rfl, J⟩ := inst_of I1 r q ec
      obtain ⟨u, rfl, ru⟩ := vals1 r1
      cases ru
      obtain ⟨f, fd, ps, ds, dvs, Fn, hps, hbd, hd, hw, hf1, hf2, hf3⟩ := (hΓ C (List.contains_iff_mem.mp hc)).ex
      have p' : Post (OkE ⟨X.K, cl⟩ F ρ H1 (fun v H' => ∃ n : Int, v = .int n ∧ (0 ≤ n ∧ n < 2 ^ 63) ∧ Q (.int n) H')) (OkX ⟨X.K, cl⟩ F ρ H1 fun k d H' => Wx k d σ H') (Γ C ([wx] ++ []) m) := by
        show Post _ _ (Γ C [wx] m)
        cases e3 : Γ C [wx] m with
        | bad =>
          rw [e3] at pp
          exact pp
        | exc z m' =>
          rw [e3] at pp
          exact pp
        | ok w m' =>
          rw [e3] at pp
          cases w with
          | int n =>
            dsimp only at pp
            by_cases hn : 0 ≤ n ∧ n.toNat < 4611686018427387904
            · rw [if_pos hn] at pp
              intro v F' ρ' H' r' g' q'
              exact ⟨n, q', ⟨hn.1, by omega⟩, pp _ F' ρ' H' r' g' rfl⟩
            · rw [if_neg hn] at pp
              exact pp.elim
          | _ => exact pp.elim
      obtain ⟨fm, fr⟩ := I1.fr
      refine PySem.W.len_K fr I1.mod.kin J hf1 hf2 (thn (run_MA (A := X.A.in1) (us := [.ref a]) (vs := [.ref a]) Fn hr.in1 rfl hbd hd hw tk I1 (.cons rfl .nil) r (.cons q .nil) (by rw [hps]; rfl) p') fun u s' z => ?_)
      obtain ⟨v, H', I', rv, n, rfl, hn, qq⟩ := z
      obtain ⟨t, rfl⟩ := rv
      exact ⟨hn, .int n, H', I'.tok _, ⟨_, rfl⟩, qq⟩
    · rw [if_neg hc] at pp
      exact pp.elim
end
end Sm

/-! S42: enumerate(list). -/
namespace Sm
open PySem PySem.Spec PyProof.Rows L2
def enL (xs : List W) : List W := xs.mapIdx fun i x => .tup [.int (i : Nat), x]
def iEn (g : Fas) : Fas := fun τ => bnd (g τ) fun ws m => match ws with
  | [.lst xs] => .ok (enL xs) m
  | _ => .bad
section
variable {cl : Str → Addr} {X : Cx} {Wx : WX}
theorem wk_enum {F : Hp} {ρ : List Addr} {a : Addr} {ws : List W} {vs : List V} (h : Rd F a (.lst vs)) (t : RWs ⟨X.K, cl⟩ F ρ ws vs) : Wk ⟨X.K, cl⟩ (Ite X.K a) (enL ws) F ρ := by
  have hl := t.length
  have he : (enL ws).length = ws.length := by simp [enL]
  refine ⟨fun i F2 ρ2 m2 H2 s p r hi => ⟨vs, vs[i]'(by omega), .inl (rd_mono (s.trans r.sub) h), by simp⟩, fun F2 ρ2 m2 H2 s p r => ⟨vs, .inl (rd_mono (s.trans r.sub) h), by omega⟩, fun i F2 ρ2 m2 H2 x H3 s p r hi y => ?_⟩
  obtain ⟨T, x, rfl, hn, rfl, y⟩ := y
  obtain ⟨v, e1, e2⟩ := t.get (i := i) (w := ws[i]'(by omega)) (by simp)
  have e3 := y vs (.inl (rd_mono (s.trans r.sub) h))
  rw [e1] at e3
  obtain rfl : v = x := Option.some.inj e3
  obtain ⟨r1, g1⟩ := r.new hn (.tup [.int (i : Nat), v])
  refine ⟨_, .tup [.int (i : Nat), ws[i]'(by omega)], r1, g1, ?_, ?_⟩
  · simp [enL, List.getElem?_mapIdx]
  · unfold RW
    exact ⟨T, _, rfl, .inl (.inl upd_same), .cons rfl (.cons ((e2.mono s p).mono g1.ff g1.pre) .nil)⟩
theorem i_enum {e : Expr} {g : Fas} {p pos tpos : Pos} {elts : List Expr} {kk : Nat} (ha : SA ⟨X.K, cl⟩ X Wx [e] g) (hm : X.mg "enumerate" = none) (hg : Gl X "enumerate" := by rfl) (hs : starEach [e] X.env = [(false, eval e X.env)] := by rfl) : SI ⟨X.K, cl⟩ X Wx (.Tuple elts kk tpos) (.Call (.Name "enumerate" p) [e] [] pos) (iEn g) := by
  refine ⟨fun pins s σ H Rr I h => (pi_enum hg hm ha hs).run pins s σ H Rr I ?_⟩
  obtain ⟨F, ρ, m, τ, r, hs, p⟩ := h
  refine ⟨F, ρ, m, τ, r, hs, ?_⟩
  unfold iEn bnd at p
  cases e : g τ m with
  | bad =>
    rw [e] at p
    exact p
  | exc x m' =>
    rw [e] at p
    exact p
  | ok ws m1 =>
    rw [e] at p
    dsimp only at p
    intro vs F1 ρ1 H1 r1 g1 q1
    match ws, p, q1 with
    | [.lst xs], p, q1 =>
      obtain ⟨v, rr, rfl, h1, h2⟩ := q1.inv
      have e2 : rr = [] := h2
      subst e2
      unfold RW at h1
      obtain ⟨a, vs, rfl, h3, h4⟩ := h1
      exact ⟨a, vs, rfl, .inl (rd_mono r1.sub h3), p _ F1 ρ1 H1 r1 g1 (wk_enum h3 h4)⟩
    | [], p, _ => exact p.elim
    | .non :: _, p, _ => exact p.elim
    | .bl _ :: _, p, _ => exact p.elim
    | .int _ :: _, p, _ => exact p.elim
    | .str _ :: _, p, _ => exact p.elim
    | .tup _ :: _, p, _ => exact p.elim
    | .dct _ _ :: _, p, _ => exact p.elim
    | .obj _ _ _ :: _, p, _ => exact p.elim
    | .tree _ _ _ _ :: _, p, _ => exact p.elim
    | .ref _ :: _, p, _ => exact p.elim
    | .ty _ :: _, p, _ => exact p.elim
    | .cls _ :: _, p, _ => exact p.elim
    | .exc _ _ _ :: _, p, _ => exact p.elim
    | .lst _ :: _ :: _, p, _ => exact p.elim
end
end Sm

/-! S43: x += e, x -= e of ints. -/
namespace Sm
open PySem PySem.Spec PyProof.Rows L2
def addIM : W → W → M W
  | .int i, .int j => ret (.int (i + j))
  | _, _ => bad
def subIM : W → W → M W
  | .int i, .int j => ret (.int (i - j))
  | _, _ => bad
section
variable {cl : Str → Addr} {X : Cx}
theorem ip_of {op : Operator} {f : Int → Int → Int} {g : W → W → M W} (h : PIp X op (ipI f)) (hg : ∀ x y m, g x y m = .bad ∨ ∃ i j, x = .int i ∧ y = .int j ∧ g x y m = .ok (.int (f i j)) m) : PIp X op (tIpM ⟨X.K, cl⟩ g) := by
  intro pins s σ H x y v u Q I rx ry hr
  obtain ⟨F, ρ, m, wx, wy, r, q1, q2, p⟩ := hr
  rcases hg wx wy m with e | ⟨i, j, rfl, rfl, e⟩
  · rw [e] at p
    exact p.elim
  · rw [e] at p
    have e1 : x = .int i := q1
    have e2 : y = .int j := q2
    exact h pins s σ H x y v u Q I rx ry ⟨i, j, e1, e2, p _ F ρ H r .refl rfl⟩
theorem ip_addI : PIp X .Add (tIpM ⟨X.K, cl⟩ addIM) := ip_of ip_add fun x y m => by
  unfold addIM
  split
  · exact .inr ⟨_, _, rfl, rfl, rfl⟩
  · exact .inl rfl
theorem ip_subI : PIp X .Sub (tIpM ⟨X.K, cl⟩ subIM) := ip_of ip_sub fun x y m => by
  unfold subIM
  split
  · exact .inr ⟨_, _, rfl, rfl, rfl⟩
  · exact .inl rfl
end
end Sm

/-! S44: a Hook that looks at written addresses. -/
namespace Sm
open PySem PySem.Spec PyProof.Rows L2
def obsAG (l : List Addr) (B : PySem.W.Frag → Bool) (ds : List DefU) (g : Addr → Option Obj) : AlU := obsU B ds (He.frG g l)
def hookA (l : List Addr) (B : PySem.W.Frag → Bool) (ds : List DefU) : PySem.W.Hook where
  α := AlU
  obs := fun s => obsAG l B ds s.heap.get?
  val := fun _ => valU ds
  says := fun _ h => ∃ K : PySem.W.Frag, K.In h ∧ SaysU B ds K
  of := fun _ _ e => ⟨_, He.frG_in, e⟩
  keeps := fun _ _ _ ⟨K, hK, c⟩ k => ⟨K, PySem.W.Frag.In.keeps hK k, c⟩
theorem obsAG_eq {l : List Addr} {B : PySem.W.Frag → Bool} {ds : List DefU} {g : Addr → Option Obj} {s : Shared} (h : ∀ a, g a = s.heap.get? a) : obsAG l B ds g = (hookA l B ds).obs s := by
  have e : g = s.heap.get? := funext h
  rw [e] <;> rfl
end Sm

/-! S45: s.split(t). -/
namespace Sm
open PySem PySem.Spec PyProof.Rows L2
def nSplit (fo f : Fe) : Fas := fun τ => bnd (fo τ) fun x => match x with
  | .str a => bnd (f τ) fun y m => (match y with
    | .str b => if (b.length == 0) = false ∧ a.length + 2 ≤ sizeLine then .ok ((Txt.split a b).map .str) m else .bad
    | _ => .bad)
  | _ => bad
section
variable {cl : Str → Addr} {X : Cx} {Wx : WX} {o e : Expr} {fo f : Fe} {apos cpos : Pos}
theorem strs_RWs {c : Cn} {F : Hp} {ρ : List Addr} : ∀ ys : List Str, RWs c F ρ (ys.map .str) (ys.map V.str)
  | [] => RWs.nil
  | y :: ys => RWs.cons rfl (strs_RWs ys)
theorem n_split (ho : SE ⟨X.K, cl⟩ X Wx o fo) (he : SE ⟨X.K, cl⟩ X Wx e f) (hbase : attributeBase o "split" X.env (eval o X.env) = eval o X.env := by rfl)
    (hfew : ((backTo cpos (starEach [e] X.env)).all (fun x => !x.1) && (backToKw cpos (keywordEach [] X.env)).all (fun x => x.1.isSome)
      && decide ([e].length + ([] : List Keyword).length + (if ([] : List Keyword).isEmpty then 0 else 1) < 30)) = true := by rfl)
    (hline : (apos.endLine == cpos.line) = true := by rfl) (hs : starEach [e] X.env = (false, eval e X.env) :: starEach [] X.env := by rfl) (hplain : (backTo cpos (starEach [] X.env)).any (·.1) = false := by rfl) :
    SN ⟨X.K, cl⟩ X Wx (.Call (.Attribute o "split" apos) [e] [] cpos) (nSplit fo f) := by
  refine PE.weak (pe_bm PySem.F.plainAttrs_str PySem.F.slot_str_split PySem.F.type_str_split mt_split ho (pa_cons he pa_nil hs) hbase hfew hline hs hplain) fun σ H Q ⟨F, ρ, m, τ, r, s, p⟩ => ?_
  refine ⟨F, ρ, m, τ, r, s, ?_⟩
  unfold nSplit bnd at p
  cases e1 : fo τ m with
  | bad =>
    rw [e1] at p
    exact p
  | exc x m' =>
    rw [e1] at p
    exact p
  | ok w1 m1 =>
    rw [e1] at p
    dsimp only at p
    intro v F1 ρ1 H1 r1 g1 q1
    cases w1 with
    | str a =>
      dsimp only at p
      have ev : v = .str a := q1
      subst ev
      refine ⟨?_, F1, ρ1, m1, τ, r1, s.go g1, ?_⟩
      · exact rfl
      cases e2 : f τ m1 with
      | bad =>
        rw [e2] at p
        exact p
      | exc x m' =>
        rw [e2] at p
        exact OkX.back r1 g1 p
      | ok w2 m2 =>
        rw [e2] at p
        dsimp only at p
        intro u F2 ρ2 H2 r2 g2 q2
        cases w2 with
        | str b =>
          dsimp only at p
          have eu : u = .str b := q2
          subst eu
          by_cases hc : (b.length == 0) = false ∧ a.length + 2 ≤ sizeLine
          · rw [if_pos hc] at p
            refine ⟨a, b, rfl, rfl, hc.1, hc.2, fun pp hn => ?_⟩
            obtain ⟨r3, g3⟩ := r2.newH hn (.lst ((Txt.split a b).map V.str))
            exact p pp _ F2 ρ2 _ r3 ((g1.trans g2).trans g3) ((g1.trans g2).back_none r2 hn) (r2.fnone hn) (r2.notin hn) upd_same (strs_RWs _)
          · rw [if_neg hc] at p
            exact p.elim
        | _ => exact p.elim
    | _ => exact p.elim
end
end Sm

/-! S46: comprehensions over a list of the store, whose turns change nothing; tuple(list of the store). -/
namespace Sm
open PySem PySem.Spec PyProof.Rows L2
structure WkP (c : Cn) (J : It) (ws : List W) (F : Hp) (ρ : List Addr) (m : Sto) : Prop where
  go : ∀ (i : Nat) F2 ρ2 H2, Same F F2 → Pre ρ ρ2 → R c F2 ρ2 m H2 → i < ws.length → J.go i H2
  stop : ∀ F2 ρ2 H2, Same F F2 → Pre ρ ρ2 → R c F2 ρ2 m H2 → J.stop ws.length H2
  yld : ∀ (i : Nat) F2 ρ2 H2 x H3, Same F F2 → Pre ρ ρ2 → R c F2 ρ2 m H2 → i < ws.length → J.yld i H2 x H3 → ∃ F3 w, R c F3 ρ2 m H3 ∧ Go F2 ρ2 H2 F3 ρ2 H3 ∧ ws[i]? = some w ∧ RW c F3 ρ2 w x
theorem Wk.p {c : Cn} {J : It} {ws : List W} {F : Hp} {ρ : List Addr} {m : Sto} (h : Wk c J ws F ρ) : WkP c J ws F ρ m :=
  ⟨fun i F2 ρ2 H2 s p r hi => h.go i F2 ρ2 m H2 s p r hi, fun F2 ρ2 H2 s p r => h.stop F2 ρ2 m H2 s p r, fun i F2 ρ2 H2 x H3 s p r hi y => h.yld i F2 ρ2 m H2 x H3 s p r hi y⟩
section
variable (c : Cn) (Wx : WX)
def OkIP (F : Hp) (ρ : List Addr) (H : Hp) (Rr : It → Hp → Prop) (ws : List W) (m' : Sto) : Prop := ∀ J F' ρ' H', R c F' ρ' m' H' → Go F ρ H F' ρ' H' → WkP c J ws F' ρ' m' → Rr J H'
def sIP (f : Fas) : TI := fun σ H Rr => ∃ F ρ m τ, R c F ρ m H ∧ RS c F ρ τ σ H ∧ Post (OkIP c F ρ H Rr) (OkX c F ρ H fun k d H' => Wx k d σ H') (f τ m)
end
abbrev SIP (c : Cn) (X : Cx) (Wx : WX) (tg iter : Expr) (f : Fas) : Prop := PI X tg iter (sIP c Wx f)
def itR : W → Sto → Option (List W)
  | .tup xs, _ => some xs
  | .lst xs, _ => some xs
  | .str x, _ => some (chW x)
  | .ref i, m => match m[i]? with
    | some (.lst xs) => some xs
    | _ => none
  | _, _ => none
def iSeqR (f : Fe) : Fas := fun τ => bnd (f τ) fun w m => match itR w m with
  | some ws => .ok ws m
  | none => .bad
section
variable {cl : Str → Addr} {X : Cx} {Wx : WX}
theorem wkp_ref {F : Hp} {ρ : List Addr} {i : Nat} {a : Addr} {xs : List W} {m : Sto} (hi : ρ[i]? = some a) (hm : m[i]? = some (.lst xs)) : WkP ⟨X.K, cl⟩ (Itl X.K a) xs F ρ m := by
  refine ⟨fun k F2 ρ2 H2 s p r hk => ?_, fun F2 ρ2 H2 s p r => ?_, fun k F2 ρ2 H2 x H3 s p r hk y => ?_⟩
  · obtain ⟨vs, h1, t⟩ := r.lst (p _ _ hi) hm
    have hl := t.length
    exact ⟨vs, vs[k]'(by omega), SqL.of h1, by simp⟩
  · obtain ⟨vs, h1, t⟩ := r.lst (p _ _ hi) hm
    exact ⟨vs, SqL.of h1, by have := t.length; omega⟩
  · obtain ⟨rfl, y⟩ := y
    obtain ⟨vs, h1, t⟩ := r.lst (p _ _ hi) hm
    obtain ⟨v, e1, e2⟩ := t.get (i := k) (w := xs[k]) (by simp)
    have e3 := y vs (SqL.of h1)
    rw [e1] at e3
    cases e3
    exact ⟨F2, xs[k], r, .refl, by simp, e2⟩
theorem i_seqR {tg e : Expr} {f : Fe} (he : SE ⟨X.K, cl⟩ X Wx e f) : SIP ⟨X.K, cl⟩ X Wx tg e (iSeqR f) := by
  refine ⟨fun pins s σ H Rr I h => ?_⟩
  obtain ⟨F, ρ, m, τ, r, hs, p⟩ := h
  unfold iSeqR bnd at p
  cases e1 : f τ m with
  | bad =>
    rw [e1] at p
    exact p.elim
  | exc x m' =>
    rw [e1] at p
    exact (pi_list he).run pins s σ H Rr I ⟨F, ρ, m, τ, r, hs, by rw [e1]; exact p⟩
  | ok w m1 =>
    rw [e1] at p
    dsimp only at p
    cases w with
    | lst ws =>
      refine (pi_list he).run pins s σ H Rr I ⟨F, ρ, m, τ, r, hs, ?_⟩
      rw [e1]
      intro v F1 ρ1 H1 r1 g1 q1
      unfold RW at q1
      obtain ⟨a, vs, rfl, h1, t⟩ := q1
      exact ⟨a, rfl, ⟨vs, .inl (rd_mono r1.sub h1)⟩, p _ F1 ρ1 H1 r1 g1 (wk_list h1 t).p⟩
    | tup ws =>
      refine (pi_tup he).run pins s σ H Rr I ⟨F, ρ, m, τ, r, hs, ?_⟩
      rw [e1]
      intro v F1 ρ1 H1 r1 g1 q1
      unfold RW at q1
      obtain ⟨a, vs, rfl, h1, t⟩ := q1
      exact ⟨a, rfl, ⟨vs, sqT_mono r1.sub h1⟩, p _ F1 ρ1 H1 r1 g1 (wk_tup h1 t).p⟩
    | str x =>
      refine (pi_str he).run pins s σ H Rr I ⟨F, ρ, m, τ, r, hs, ?_⟩
      rw [e1]
      intro v F1 ρ1 H1 r1 g1 q1
      exact ⟨x, q1, p _ F1 ρ1 H1 r1 g1 wk_str.p⟩
    | ref i =>
      dsimp only [itR] at p
      cases em : m1[i]? with
      | none =>
        rw [em] at p
        exact p.elim
      | some o =>
        rw [em] at p
        cases o with
        | lst xs =>
          refine (pi_list he).run pins s σ H Rr I ⟨F, ρ, m, τ, r, hs, ?_⟩
          rw [e1]
          intro v F1 ρ1 H1 r1 g1 q1
          unfold RW at q1
          obtain ⟨a, rfl, h1⟩ := q1
          obtain ⟨vs, h2, t⟩ := r1.lst h1 em
          exact ⟨a, rfl, ⟨vs, SqL.of h2⟩, p _ F1 ρ1 H1 r1 g1 (wkp_ref h1 em)⟩
        | _ => exact p.elim
    | _ => exact p.elim
end
/-- nothing is changed -/
def Pu {α : Type} (f : SS → M α) : Prop := ∀ τ m a m', f τ m = .ok a m' → m' = m
theorem pu_yes : Pu tYesM := fun τ m a m' h => by cases h; rfl
theorem pu_nil : Pu aNil := fun τ m a m' h => by cases h; rfl
theorem pu_eC (w : W) : Pu (eC w) := fun τ m a m' h => by cases h; rfl
theorem pu_eVar (i : Nat) : Pu (eVar i) := fun τ m a m' h => by
  unfold eVar at h
  split at h <;> cases h
  rfl
theorem pu_rVar (i : Nat) : Pu (rVar i) := fun τ m a m' h => by
  unfold rVar at h
  split at h <;> cases h <;> rfl
theorem pu_bnd {α β : Type} {f : SS → M α} {g : SS → α → M β} (hf : Pu f) (hg : ∀ a, Pu fun τ => g τ a) : Pu fun τ => bnd (f τ) (g τ) := fun τ m b m' h => by
  unfold bnd at h
  dsimp only at h
  cases e : f τ m with
  | bad => rw [e] at h; cases h
  | exc _ _ => rw [e] at h; cases h
  | ok a m1 =>
    rw [e] at h
    have e1 := hf τ m a m1 e
    subst e1
    exact hg a τ m1 b m' h
theorem pu_cons {f : Fe} {g : Fas} (hf : Pu f) (hg : Pu g) : Pu (aCons f g) := pu_bnd hf fun a => pu_bnd hg fun ws τ m b m' h => by cases h; rfl
theorem pu_lift {o : Sto → Option W} : Pu fun (_ : SS) m => lift (o m) m := fun τ m a m' h => by
  unfold lift at h
  dsimp only at h
  split at h <;> cases h
  rfl
theorem pu_blt {h : List W → Sto → Option W} {g : Fas} (hg : Pu g) : Pu (eBlt h g) := pu_bnd hg fun ws => pu_lift
theorem pu_op2 {g : W → W → Sto → Option W} {fa fb : Fe} (ha : Pu fa) (hb : Pu fb) : Pu (op2 g fa fb) := pu_bnd ha fun x => pu_bnd hb fun y => pu_lift
section
variable {c : Cn} {X : Cx} {Wx : WX} {B : Bs} {pos : Pos}
theorem w_lcP {fi : Fas} {is vs : List Nat} {bd : Bd} {ft : Ft} {fe : Fe} {σ : L2.St} {H : Hp} {Q : VK} (hft : Pu ft) (hfe : Pu fe) (hss : ∀ i ∈ is, i ∈ vs) (h : sN c Wx (nLc fi vs bd ft fe) σ H Q) : tLc (sIP c Wx fi) (sG c is bd) (sT c W0 ft) (sE c W0 fe) vs σ H Q := by
  obtain ⟨F, ρ, m, τ, r, s, p⟩ := h
  refine ⟨F, ρ, m, τ, r, s, ?_⟩
  unfold nLc bnd at p
  cases e0 : fi τ m with
  | bad =>
    rw [e0] at p
    exact p
  | exc x m' =>
    rw [e0] at p
    exact p
  | ok xs m0 =>
    rw [e0] at p
    dsimp only at p
    intro J F0 ρ0 H0 r0 g0 wk D hD
    cases e1 : lcM bd ft fe (wipeS τ vs) xs m0 with
    | bad =>
      rw [e1] at p
      exact p.elim
    | exc _ _ =>
      rw [e1] at p
      exact p.elim
    | ok ws mE =>
      rw [e1] at p
      dsimp only at p
      split at p
      case isFalse => exact p.elim
      rename_i hlen
      have hD0 : H D = none := g0.back_none r0 hD
      obtain ⟨rn, gn⟩ := r0.newH hD (.lst [])
      refine ⟨fun i n H' => n = xs.length - i ∧ i ≤ xs.length ∧ ∃ F1 ρ1 acc accV ws', R c F1 ρ1 m0 H' ∧ Go F ρ H F1 ρ1 H' ∧ Same F0 F1 ∧ Pre ρ0 ρ1 ∧ F1 D = none ∧ D ∉ ρ1 ∧ H' D = some (.lst accV) ∧ RWs c F1 ρ1 acc accV ∧ lcM bd ft fe (wipeS τ vs) (xs.drop i) m0 = .ok ws' mE ∧ ws = acc ++ ws',
        ⟨xs.length, by simp, Nat.zero_le _, F0, ρ0, [], [], ws, rn, g0.trans gn, Same.refl _, .refl _, r0.fnone hD, r0.notin hD, upd_same, .nil, by simpa using e1, rfl⟩, ?_⟩
      rintro i n H1 ⟨rfl, hi, F1, ρ1, acc, accV, ws', r1, g1, s1, p1, hf1, hn1, hd1, q1, el, ew⟩
      by_cases hlt : i < xs.length
      · refine .inr ⟨wk.go i F1 ρ1 H1 s1 p1 r1 hlt, fun H' => ∃ F1 ρ1 acc accV ws', R c F1 ρ1 m0 H' ∧ Go F ρ H F1 ρ1 H' ∧ Same F0 F1 ∧ Pre ρ0 ρ1 ∧ F1 D = none ∧ D ∉ ρ1 ∧ H' D = some (.lst accV) ∧ RWs c F1 ρ1 acc accV ∧ lcM bd ft fe (wipeS τ vs) (xs.drop (i + 1)) m0 = .ok ws' mE ∧ ws = acc ++ ws',
          fun H' h => ⟨xs.length - (i + 1), by omega, rfl, hlt, h⟩, fun v H2 y => ?_⟩
        obtain ⟨F2, w, r2, g2, ew2, rw2⟩ := wk.yld i F1 ρ1 H1 v H2 s1 p1 r1 hlt y
        have ew' : xs[i] = w := by
          rw [List.getElem?_eq_getElem hlt] at ew2
          exact Option.some.inj ew2
        rw [drop_cons hlt, ew'] at el
        obtain ⟨τ1, b, m2, eb, et, hcase⟩ := lcM_cons el
        have em2 := hft _ _ _ _ et
        subst em2
        have g02 := g1.trans g2
        have hd2 : H2 D = some (.lst accV) := g2.keep D _ hd1 hn1
        have hf2 : F2 D = none := (g2.off D _ hd1 hn1).2 hf1
        refine ⟨F2, ρ1, m2, wipeS τ vs, w, τ1, r2, (s.go g02).wipe vs, rw2, eb, fun σ2 s2 k2 => ⟨wipe_sta hss k2, F2, ρ1, m2, τ1, r2, s2, ?_⟩⟩
        rw [et]
        intro F3 ρ3 H3 r3 g3
        have hd3 : H3 D = some (.lst accV) := g3.keep D _ hd2 hn1
        have hn3 : D ∉ ρ3 := (g3.off D _ hd2 hn1).1
        have hf3 : F3 D = none := (g3.off D _ hd2 hn1).2 hf2
        rcases hcase with ⟨rfl, w2, m3, ws2, ee, er, rfl⟩ | ⟨rfl, er⟩
        · have em3 := hfe _ _ _ _ ee
          subst em3
          rw [if_pos rfl]
          refine ⟨F3, ρ3, m3, τ1, r3, s2.go g3, ?_⟩
          rw [ee]
          intro v2 F4 ρ4 H4 r4 g4 q4
          have hd4 : H4 D = some (.lst accV) := g4.keep D _ hd3 hn3
          have hn4 : D ∉ ρ4 := (g4.off D _ hd3 hn3).1
          have hf4 : F4 D = none := (g4.off D _ hd3 hn3).2 hf3
          have gA := g2.trans (g3.trans g4)
          have ql := q1.length
          have hl2 : ws.length = acc.length + (ws2.length + 1) := by rw [ew, List.length_append, List.length_cons]
          refine ⟨accV, hd4, by omega, F4, ρ4, acc ++ [w2], accV ++ [v2], ws2, r4.updO hf4 hn4, (g1.trans gA).updO hD0, s1.trans gA.ff, p1.trans gA.pre, hf4, hn4, upd_same, (q1.mono gA.ff gA.pre).append (.cons q4 .nil), er, by rw [ew, List.append_assoc]; rfl⟩
        · rw [if_neg Bool.false_ne_true]
          have gA := g2.trans g3
          exact ⟨F3, ρ3, acc, accV, ws', r3, g1.trans gA, s1.trans gA.ff, p1.trans gA.pre, hf3, hn3, hd3, q1.mono gA.ff gA.pre, er, ew⟩
      · have e : i = xs.length := by omega
        subst e
        refine .inl ⟨wk.stop F1 ρ1 H1 s1 p1 r1, ?_⟩
        rw [List.drop_length] at el
        cases el
        rw [List.append_nil] at ew
        subst ew
        exact p D accV F1 ρ1 H1 r1 g1 hD0 hf1 hn1 hd1 q1
theorem n_lcP {k : Nat} {elt tg iter : Expr} {ifs : List Expr} {scope : Scope} {own : List (Str × Nat)} {fi : Fas} {is : List Nat} {bd : Bd} {ft : Ft} {fe : Fe} (x : Ctx X Wx k) (hft : Pu ft) (hfe : Pu fe) (hi : SIP c X Wx tg iter fi) (ok : BlkOk X.N X.env.scope scope own) (hss : ∀ i ∈ is, i ∈ own.map (·.2))
    (hg : ∀ (s : Shared) (H : Hp) (C : Addr) (cl : List (Str × Addr)) (fp : List Addr), SG c (X.blk s H scope (compEnvC scope cl C X.env) fp) tg is bd) (ht : ∀ (s : Shared) (H : Hp) (C : Addr) (cl : List (Str × Addr)) (fp : List Addr), PTs (X.blk s H scope (compEnvC scope cl C X.env) fp) ifs (sT c W0 ft))
    (he : ∀ (s : Shared) (H : Hp) (C : Addr) (cl : List (Str × Addr)) (fp : List Addr), SE c (X.blk s H scope (compEnvC scope cl C X.env) fp) W0 elt fe) (hs : ∀ x, foldedSetIterable iter X.env x = pure x := by intro _; rfl) :
    SN c X Wx (.ListComp elt [⟨tg, iter, ifs, 0⟩] scope pos) (nLc fi (own.map (·.2)) bd ft fe) := PE.weak (pe_lc x.calm x.nd hi ok hg ht he hs) fun _ _ _ h => w_lcP hft hfe hss h
end
end Sm

/-! S47: x in (..) for any data; tuple(list of the store); module names that hold ints. -/
namespace Sm
open PySem PySem.Spec PyProof.Rows L2
def inDB (w1 w2 : W) (m : Sto) : Option Bool := match toD (deref w1 m), toD (deref w2 m) with
  | some d, some (.tuple ds) => if SeqAt.shaped d = true ∧ SeqAt.shaped (.tuple ds) = true then some (ds.any fun z => PyData.eqv z d) else none
  | some d, some (.list ds) => if SeqAt.shaped d = true ∧ SeqAt.shaped (.list ds) = true then some (ds.any fun z => PyData.eqv z d) else none
  | _, _ => none
def inDW (a b : W) (m : Sto) : Option W := (inDB a b m).map .bl
def ninDW (a b : W) (m : Sto) : Option W := (inDB a b m).map fun k => .bl (!k)
def tupleR : List W → Sto → Option W
  | [.ref i], m => match m[i]? with
    | some (.lst xs) => some (.tup xs)
    | _ => none
  | ws, m => tupleW ws m
section
variable {cl : Str → Addr} {X : Cx} {Wx : WX}
theorem o_inD (hu : X.A.units + 65 < cLine) : OpR X (compareOp .In) (rS ⟨X.K, cl⟩ inDW) := by
  intro pins s σ H x y v u Q I rx ry h
  obtain ⟨F, ρ, m, w1, w2, w, r, q1, q2, e, k⟩ := h
  unfold inDW inDB at e
  split at e
  · rename_i d ds e1 e2
    split at e
    · rename_i hs
      cases e
      obtain ⟨as, r1⟩ := Dp.reads I d x v (deref_dp r q1 e1) rx
      obtain ⟨bs, r2⟩ := Dp.reads I (.tuple ds) y u (deref_dp r q2 e2) ry
      exact SeqAt.in_tuple_reads r2 r1 (SeqAt.canLay_of_shaped hs.2) (SeqAt.canLay_of_shaped hs.1) (room_in_shaped hs.1 hu) ⟨.bl _, H, I, rfl, k _ F ρ H r .refl rfl⟩
    · cases e
  · rename_i d ds e1 e2
    split at e
    · rename_i hs
      cases e
      exact op_inD hu pins s σ H x y v u Q I rx ry ⟨d, ds, deref_dp r q1 e1, deref_dp r q2 e2, hs.1, hs.2, k _ F ρ H r .refl rfl⟩
    · cases e
  · cases e
theorem c_tupleR : CallR X (.type "tuple") (rC ⟨X.K, cl⟩ tupleR) := by
  intro pins s σ H xs us Q I rv h
  obtain ⟨F, ρ, m, ws, w, r, q, e, k⟩ := h
  unfold tupleR at e
  split at e
  · rename_i i
    split at e
    · rename_i xs em
      cases e
      obtain ⟨v, rfl, q1⟩ := q.one
      obtain ⟨a, rfl, h1⟩ := q1.ref
      obtain ⟨vs, h2, t⟩ := r.lst h1 em
      exact call_tuple_of pins s σ H _ us Q I rv ⟨a, vs, rfl, .inl ⟨SqL.of h2, fun l n => k.newT r t l n⟩⟩
    · cases e
  · exact c_tuple pins s σ H xs us Q I rv ⟨F, ρ, m, ws, w, r, q, e, k⟩
end
end Sm

/-! S48: a module's int; tuple(..) of a list of the store; a class by its attributes. -/
namespace Sm
open PySem PySem.Spec PyProof.Rows L2
def GInt (mg : Str → Option Value) (x : Str) (i : Int) : Prop := ∃ tk, mg x = some (.int i tk)
section
variable {cl : Str → Addr} {X : Cx} {Wx : WX} {e : Expr} {f : Fe} {p pos : Pos} {x : Str}
theorem s_gint {c : Cn} {i : Int} (h : GInt X.mg x i) (hg : Gl X x := by rfl) (hd : (x == ("__debug__" : Str)) = false := by decide) : SE c X Wx (.Name x pos) (eC (.int i)) := by
  obtain ⟨tk, hm⟩ := h
  exact const (pe_glob (v := .int i) hg hm ⟨tk, rfl⟩ hd) fun _ _ => rfl
theorem s_tupleR (ha : SR ⟨X.K, cl⟩ X Wx e f) (hm : X.mg "tuple" = none) (hg : Gl X "tuple" := by rfl) (he : starEach [e] X.env = (false, eval e X.env) :: starEach [] X.env := by rfl) (hpl : (backTo pos (starEach [] X.env)).any (·.1) = false := by rfl) :
    SE ⟨X.K, cl⟩ X Wx (.Call (.Name "tuple" p) [e] [] pos) (eBlt tupleR (aCons f aNil)) := s_blty c_tupleR (ar_cons ha ar_nil he) hm (by kernel_rfl) hg (by decide) (by decide) he hpl
end
theorem clsAt {K : PySem.W.Frag} {mg : Str → Option Value} {cl : Str → Addr} {t : Tb} (h : Fx K mg cl t) (i : Nat) {C : Str} {l : List Str} (e : t.ats[i]? = some (C, l) := by rfl) : Cls K (cl C) := (h.at_ _ (List.mem_of_getElem? e)).1
theorem clsAll {K : PySem.W.Frag} {mg : Str → Option Value} {cl : Str → Addr} {t : Tb} (h : Fx K mg cl t) {T : List Str} (e : (T.all fun C => t.ats.any fun p => p.1 == C) = true) : ∀ C ∈ T, Cls K (cl C) := fun C hC => by
  obtain ⟨⟨a, l⟩, h1, h2⟩ := List.any_eq_true.mp (List.all_eq_true.mp e C hC)
  have e2 : a = C := by simpa using h2
  subst e2
  exact (h.at_ _ h1).1
end Sm

/-! S49: try .. except X as e: the exception that is caught becomes a thing that is tracked. -/
namespace Sm
open PySem PySem.Spec PyProof.Rows L2

theorem xoH_ok {P : Program} {w : World} {H : Hp} {h : Heap} {a C d : Addr} {oe : Obj} {vs : Array Value} (e : h.get? a = some oe) (h1 : oe.cls = .ref C) (h2 : oe.dict = some d) (h3 : oe.data = .fields vs) : ObjOk P w H h a (xoH a C d) :=
  ⟨⟨oe, vs, e, h1, h2, h3⟩, ⟨oe, e⟩, fun _ _ ⟨o, v, q, r⟩ k => ⟨o, v, k o q, r⟩⟩
theorem xoH_at {P : Program} {w : World} {H : Hp} {h : Heap} {a C d : Addr} (hok : HOk P w H h) (he : H a = some (xoH a C d)) : ∃ (oe : Obj) (vs : Array Value), h.get? a = some oe ∧ oe.cls = .ref C ∧ oe.dict = some d ∧ oe.data = .fields vs := by
  have x : ObjOk P w H h a (.ext fun h => ∃ (oe : Obj) (vs : Array Value), h.get? a = some oe ∧ oe.cls = .ref C ∧ oe.dict = some d ∧ oe.data = .fields vs) := hok a _ he
  exact x.1
section
variable {X : Cx} {pins : List (Addr × Obj)} {σ : L2.St} {H : Hp} {s : Shared}
/-- what is new here and was not ours is ours now -/
theorem inv_xo {a C d : Addr} {oe : Obj} {vs : Array Value} (I : Inv X pins σ H s) (e : s.heap.get? a = some oe) (h1 : oe.cls = .ref C) (h2 : oe.dict = some d) (h3 : oe.data = .fields vs) (na : H a = none) (nL : a ≠ X.env.locals)
    (new : X.s_0.heap.get? a = none ∨ a ∈ X.ex) (np : ∀ p ∈ X.pn ++ pins, p.1 ≠ a) : Inv X pins σ (upd H a (xoH a C d)) s := by
  have nc : ∀ x c, X.env.cells.lookup x = some c → c ≠ a := fun x c hc z => by
    obtain ⟨v, o, q1, q2⟩ := I.cell x c hc
    rw [z, e] at q1
    cases q1
    rw [h3] at q2
    cases q2
  refine ⟨I.ok, I.os, I.bare, ⟨I.base.keep, I.base.slot, fun b o q n hx => ?_, I.base.there, fun b xs q => ?_, fun b o u q => ?_, fun b ps q => ?_⟩, I.loc, I.cell, ?_, fun x c hc => ?_, fun p hp => ?_, fun b o q => ?_, I.len⟩
  · rw [upd_ne fun z => by
      subst z
      rcases new with new | new
      · rw [new] at q
        cases q
      · exact hx new]
    exact I.base.free b o q n hx
  · have := I.base.tups b xs q
    rw [upd_ne (ne_of_none this na)]
    exact this
  · have := I.base.frzs b o u q
    rw [upd_ne (ne_of_none this na)]
    exact this
  · obtain ⟨more, this⟩ := I.base.tbls b ps q
    exact ⟨more, by rw [upd_ne (ne_of_none this na)]; exact this⟩
  · rw [upd_ne (Ne.symm nL)]
    exact I.free
  · rw [upd_ne (nc x c hc)]
    exact I.freeC x c hc
  · obtain ⟨k1, k2, k3, k4, k5⟩ := I.pin p hp
    exact ⟨k1, by rw [upd_ne (np p hp)]; exact k2, k3, k4, k5⟩
  · by_cases hb : b = a
    · subst hb
      rw [upd_same] at q
      cases q
      exact xoH_ok e h1 h2 h3
    · rw [upd_ne hb] at q
      exact (I.hok b o q).stay (fun _ _ _ z => z) (fun c hc => by rw [upd_ne (ne_of_none hc na)]; exact hc) (fun c xs hc => by rw [upd_ne (ne_of_none hc na)]; exact hc)
theorem inv_toS {a : Addr} (I : Inv X pins σ H s) : Inv (X.suite a (X.pn ++ pins)) [] σ H s :=
  ⟨I.ok.suite _ _, I.os, I.bare, I.base, I.loc, I.cell, I.free, I.freeC, fun p hp => I.pin p (by rw [List.append_nil] at hp; exact hp), I.hok, I.len⟩
theorem inv_ofS {a : Addr} {pn' : List (Addr × Obj)} (I : Inv (X.suite a (X.pn ++ pins)) pn' σ H s) (ok : X.Ok) : Inv X pins σ H s :=
  ⟨ok, I.os, I.bare, I.base, I.loc, I.cell, I.free, I.freeC, fun p hp => I.pin p (List.mem_append_left _ hp), I.hok, I.len⟩
end
end Sm

/-! S50: the rule of try .. except X as e. -/
namespace Sm
open PySem PySem.Spec PyProof.Rows L2

/-- what the clause wishes of an exception of the body -/
def wXo (K : PySem.W.Frag) (c : Value) (i : Nat) (ts : TS) (Wout : WX) (D : Ends) : WX := fun cls d σ H =>
  ∃ b, PySem.W.exmOne K cls c = some b ∧ (b = true → ∃ C dd, cls = .ref C ∧ d = some dd ∧ ∀ a, H a = none → ts { nx := fun σ' H' => D.nx (σ'.set i none) H', rt := D.rt, bk := fun σ' H' => D.bk (σ'.set i none) H', ct := fun σ' H' => D.ct (σ'.set i none) H' } (σ.set i (some (.ref a))) (upd H a (xoH a C dd))) ∧
    (b = false → Wout cls d σ H)
section
variable {X : Cx} {x n : Str} {c : Value} {i : Nat} {body suite : List Stmt} {b₀ : Stmt} {np pos pos' : Pos} {tb : WX → TS} {ts : TS} {Wout : WX}
theorem ps_try_xo (hs : X.stack = X.env :: X.outer) (hf : X.env.frame = some X.env.locals) (hN : X.N.Nodup) (hi : X.N[i]? = some n) (hln : X.env.kindOf n = some .local) (hc : Names X x c) (tk : Takes X Wout)
    (hb : ∀ (W : WX) (pn : List (Addr × Obj)) (xe : Value → Shared → Prop), Takes (X.tr pn xe) W → PassesOwn (model X.prog X.w) X.A X.env xe → PSs (X.tr pn xe) body (tb W))
    (hsu : ∀ (a : Addr) (pn : List (Addr × Obj)), PSs (X.suite a pn) (b₀ :: suite) ts) :
    PS X (.Try body [.ExceptHandler (some (.Name x np)) (some n) (b₀ :: suite) pos'] [] [] pos) (fun D σ H => tb (wXo X.K c i ts Wout D) D σ H) := by
  refine ⟨fun pins s σ H D I h => ?_⟩
  have ok := I.ok
  have hfr : X.A.frames = some (X.env :: X.outer) := by rw [ok.frames, hs]
  have hloc : Loc X.env.scope n := .inl hln
  refine wpAny_Try_except ?_
  refine wpAny_mono ((hb (wXo X.K c i ts Wout D) (X.pn ++ pins) (fun e s₁ => wpAny (model X.prog X.w) X.A (noteFrame e X.env) (fun _ s₂ => wpAny (model X.prog X.w) X.A (setFlight e none) (fun _ s₃ =>
    wpAny (model X.prog X.w) X.A (handleBy e X.env [.ExceptHandler (some (.Name x np)) (some n) (b₀ :: suite) pos']) (SP X pins D) X.xe s₃) X.xe s₂) X.xe s₁) (fun u s' xx => ?_) PassesOwn.looking).run [] s σ H D (I.toTry _) h) (fun f s1 hsp => ?_) (fun e s1 he => he)
  · obtain ⟨a, B, sI, pins', σ', H', cls, d, rfl, J', nb, up, sky, na, os, ag, b, hb1, hyes, hno⟩ := xx
    have J : Inv X pins σ' H' sI := J'.ofTry ok
    have sky' : Sky B (X.env :: X.outer) a (Zc cls d) X.env.locals s'.heap := by rw [← hs]; exact sky
    show wpAny (model X.prog X.w) X.A (noteFrame (.ref a) X.env) _ _ _
    refine Sky.land Zc.steady hfr hf sky' fun h3 fl3 up3 => ?_
    have J3 : Inv X pins σ' H' { s' with heap := h3 } := J.landed nb fl3.1 (up.trans up3) os ag
    obtain ⟨oe3, vs3, he3, hz3, hd3⟩ := fl3.there
    have nfr : a ∉ frs (X.env :: X.outer) := fun hm => by
      obtain ⟨_, o', e', hnf⟩ := fl3.2.2.1.mem hm
      rw [he3] at e'
      cases e'
      exact hnf _ hd3
    have nL : a ≠ X.env.locals := fun z => nfr (List.mem_filterMap.mpr ⟨X.env, List.mem_cons_self, by rw [hf, z]⟩)
    have nF : a ∉ X.fs := fun hm => by
      obtain ⟨e, he, q⟩ := List.mem_filterMap.mp hm
      exact nfr (List.mem_filterMap.mpr ⟨e, List.mem_cons_of_mem _ he, q⟩)
    have sub : ∀ b, b ∈ frs X.stack → b = X.env.locals ∨ b ∈ X.fs := fun b hb => List.mem_cons.mp (J.stkSub b hb)
    have nst : a ∉ frs X.stack := fun z => (sub a z).elim nL nF
    have noB : ∀ o, sI.heap.get? a ≠ some o := fun o e => by
      have := nb a o e nst
      rw [fl3.2.1] at this
      cases this
    have npn : ∀ p ∈ X.pn ++ pins, p.1 ≠ a := fun p hp z => by
      obtain ⟨k1, _⟩ := J.pin p hp
      rw [z] at k1
      exact noB _ k1
    have new : X.s_0.heap.get? a = none ∨ a ∈ X.ex := by
      by_cases hx : a ∈ X.ex
      · exact .inr hx
      · cases e : X.s_0.heap.get? a with
        | none => exact .inl rfl
        | some o =>
          obtain ⟨o', q⟩ := J.base.there a o e hx
          exact absurd q (noB o')
    have S3 : Inv (X.suite a (X.pn ++ pins)) [] σ' H' { s' with heap := h3 } := inv_toS J3
    refine wpAny_handleBy_cons (codeAny_handlers_test ?_) (by intro q; cases q)
    have LT : PySem.W.Looks (model X.prog X.w) h3 (typeOf (.ref a)) cls := fun A Q E s k q => wpAny_typeOf_ref (k _ _ he3) (by rw [hz3.1]; exact q)
    have LM := PySem.W.exm_one (M := model X.prog X.w) (J3.kIn) LT hb1
    have test : ∀ {Q : Value → Shared → Prop} {E : Value → Shared → Prop}, Q c { s' with heap := h3 } → wpAny (model X.prog X.w) (X.A.mark (some (.ref a))) (eval (.Name x np) X.env) Q E { s' with heap := h3 } := fun {Q E} q => by
      obtain ⟨hg, hdbg, hm | ⟨hm, hv, hnn⟩⟩ := hc
      · exact ld_glob (X := X.suite a (X.pn ++ pins)) S3 hg hm q hdbg
      · exact ld_blt (X := X.suite a (X.pn ++ pins)) S3 hg hm hv q hnn hdbg
    refine test (LM.here ?_)
    cases b with
    | true =>
      obtain ⟨C, dd, rfl, rfl, hts⟩ := hyes rfl
      refine codeAny_handlers_suite_as ?_
      refine HandSPX.lands_againZ fl3 fun h4 fl4 up4 => ?_
      have J4 : Inv X pins σ' H' { s' with heap := h4 } := J.landed nb fl4.1 ((up.trans up3).trans up4) os ag
      obtain ⟨oe4, vs4, he4, hz4, hd4⟩ := fl4.there
      have S4 : Inv (X.suite a (X.pn ++ pins)) [] σ' (upd H' a (xoH a C dd)) { s' with heap := h4 } := inv_toS (inv_xo J4 he4 hz4.1 hz4.2 hd4 na nL new npn)
      refine store_ok (X := X.suite a (X.pn ++ pins)) (v := .ref a) S4 hN hi hloc rfl (fun s5 S5 => ?_) (.inr hln)
      refine wpAny_mono ((hsu a (X.pn ++ pins)).run [] s5 _ _ _ S5 (hts a na)) (fun f s6 hsp => ?_) (fun _ _ z => False.elim z)
      have end_ : ∀ {σ6 : L2.St} {H6 : Hp} {Q : Shared → Prop}, Inv (X.suite a (X.pn ++ pins)) [] σ6 H6 s6 → (∀ s7, Inv X pins (σ6.set i none) H6 s7 → Q s7) →
          wpAny (model X.prog X.w) X.A (do bindName X.env n .none; unbindBehindTheSuite X.env n pos') (fun _ s7 => Q s7) X.xe s6 := fun {σ6 H6 Q} S6 hq => gone_ok (inv_ofS S6 ok) hN hi hln hq
      cases f with
      | next =>
        obtain ⟨σ6, H6, S6, q6⟩ := hsp
        exact end_ S6 fun s7 J7 => ⟨_, _, J7, q6⟩
      | brk =>
        obtain ⟨σ6, H6, S6, q6⟩ := hsp
        exact end_ S6 fun s7 J7 => ⟨_, _, J7, q6⟩
      | cont =>
        obtain ⟨σ6, H6, S6, q6⟩ := hsp
        exact end_ S6 fun s7 J7 => ⟨_, _, J7, q6⟩
      | ret u =>
        obtain ⟨v6, σ6, H6, S6, r6, q6⟩ := hsp
        exact end_ S6 fun s7 J7 => ⟨_, _, _, J7, r6, q6⟩
    | false =>
      show wpAny _ X.A (handleBy (.ref a) X.env []) _ _ _
      refine wpAny_handleBy_nil ?_
      obtain ⟨k1, k2, k3, oe, vs, T, oT, ts', he, hz, hd, h1, hr⟩ := id fl3
      unfold PySem.passOn
      refine wpAny_bind (wpAny_field he hd h1 ?_)
      rw [if_neg (show ¬ ((Value.ref T == Value.none) = true) from by simp)]
      have fin : wpAny (model X.prog X.w) X.A (setFlight (.ref a) X.env.frame) (fun _ s4 => wpAny (model X.prog X.w) X.A (throw (.ref a) : Sem Flow) (SP X pins D) X.xe s4) X.xe { s' with heap := h3 } := by
        rw [hf]
        refine HandSPX.setFlight_upZ fl3 fun h4 hh4 up4 => wpAny_throw (tk _ _ ?_)
        exact ⟨a, B, sI, pins, σ', H', cls, d, rfl, J, nb, (up.trans up3).trans up4, .inr (.inr (by rw [hs]; exact hh4)), na, os, ag, hno rfl⟩
      first
        | exact wpAny_bind (wpAny_pure (wpAny_bind fin))
        | exact wpAny_bind fin
  · cases f with
    | next =>
      obtain ⟨σ', H', J', q⟩ := hsp
      exact wpAny_execs_nil ⟨σ', H', J'.ofTry ok, q⟩
    | brk =>
      obtain ⟨σ', H', J', q⟩ := hsp
      exact ⟨σ', H', J'.ofTry ok, q⟩
    | cont =>
      obtain ⟨σ', H', J', q⟩ := hsp
      exact ⟨σ', H', J'.ofTry ok, q⟩
    | ret u =>
      obtain ⟨v, σ', H', J', r, q⟩ := hsp
      exact ⟨v, σ', H', J'.ofTry ok, r, q⟩
end
end Sm

/-! S51: x_try. -/
namespace Sm
open PySem PySem.Spec PyProof.Rows L2

def sTry (i : Nat) (T : Str → Option Bool) (f g : Fs) : Fs := fun τ m => match f τ m with
  | .ok (.ex x τ') m' => (match T x.cls with
    | some true => if x.ns = [] then .bad else (match g (τ'.set i (.val (.exc x.cls x.ns x.vs))) m' with
      | .ok (.nx τ2) m2 => .ok (.nx (τ2.set i .un)) m2
      | .ok (.rt w) m2 => .ok (.rt w) m2
      | .ok (.bk τ2) m2 => .ok (.bk (τ2.set i .un)) m2
      | .ok (.ct τ2) m2 => .ok (.ct (τ2.set i .un)) m2
      | _ => .bad)
    | some false => .ok (.ex x τ') m'
    | none => .bad)
  | r => r
section
variable {c : Cn} {B : Bs} {F : Hp} {ρ : List Addr} {m : Sto} {τ : SS} {σ : L2.St} {H : Hp}
theorem Fr.setun {i : Nat} (x : Fr c B F ρ m τ σ H) : Fr c B F ρ m (τ.set i .un) (σ.set i none) H := by
  refine ⟨x.r, ⟨by rw [List.length_set, List.length_set, x.s.len], fun j u h => ?_, fun j o h => ?_, fun j k o o' a n h1 h2 h3 h4 => ?_⟩, x.g, fun j o a h1 h2 => ?_, fun o a e h1 => ?_⟩
  · rcases get_set h with ⟨_, e⟩ | ⟨ne, h⟩
    · cases e
    · obtain ⟨v', q, r⟩ := x.s.val j u h
      exact ⟨v', by rw [List.getElem?_set_ne ne]; exact q, r⟩
  · rcases get_set h with ⟨_, e⟩ | ⟨ne, h⟩
    · cases e
    · obtain ⟨a, u, q, r⟩ := x.s.own j o h
      exact ⟨a, u, by rw [List.getElem?_set_ne ne]; exact q, r⟩
  · rcases get_set h1 with ⟨_, e⟩ | ⟨n1, h1⟩
    · cases e
    · rcases get_set h2 with ⟨_, e⟩ | ⟨n2, h2⟩
      · cases e
      · rw [List.getElem?_set_ne n1] at h3
        rw [List.getElem?_set_ne n2] at h4
        exact x.s.nd j k o o' a n h1 h2 h3 h4
  · rcases get_set h1 with ⟨_, e⟩ | ⟨ne, h1⟩
    · cases e
    · rw [List.getElem?_set_ne ne] at h2
      exact x.fresh j o a h1 h2
  · rcases get_set h1 with ⟨_, e⟩ | ⟨ne, h1⟩
    · cases e
    · rw [List.getElem?_set_ne ne]
      exact x.slf o a e h1
/-- an exception that is caught, frozen from now on -/
theorem Fr.caught {a C dd : Addr} {gs : List (Str × V)} (x : Fr c B F ρ m τ σ H) (hd : H dd = some (.xd gs)) (hr : dd ∉ ρ) (hb : B.H dd = none) (na : H a = none) :
    ∃ F', Fr c B F' ρ m τ σ (upd H a (xoH a C dd)) ∧ F' a = some (xoH a C dd) ∧ F' dd = some (.xd gs) ∧ Same F F' := by
  have nad : dd ≠ a := ne_of_none hd na
  have fa : F a = none := x.r.fnone na
  have nar : a ∉ ρ := x.r.notin na
  have ff : Same F (upd (upd F dd (.xd gs)) a (xoH a C dd)) := fun b o e => by
    rw [upd_ne (ne_of_none e fa)]
    by_cases h : b = dd
    · subst h
      rw [upd_same]
      have := x.r.sub _ _ e
      rw [hd] at this
      exact this
    · rw [upd_ne h]
      exact e
  have nba : B.H a = none := by
    cases e : B.H a with
    | none => rfl
    | some o =>
      by_cases h : a ∈ B.ρ
      · obtain ⟨i, hi⟩ := List.getElem?_of_mem h
        exact absurd (List.mem_of_getElem? (x.g.pre i a hi)) nar
      · have := x.g.keep a o e h
        rw [na] at this
        cases this
  refine ⟨upd (upd F dd (.xd gs)) a (xoH a C dd), ⟨⟨fun b o e => ?_, x.r.len, x.r.nd, fun b hb' => ?_, fun i b o h1 h2 => ?_⟩, ⟨x.s.len, fun i w e => ?_, fun i o e => ?_, x.s.nd⟩, ⟨x.g.ff.trans ff, x.g.pre, fun b o e n => ?_, fun b o e n => ⟨(x.g.off b o e n).1, fun z => ?_⟩⟩, x.fresh, x.slf⟩, upd_same, by rw [upd_ne nad, upd_same], ff⟩
  · by_cases h : b = a
    · subst h
      rw [upd_same] at e ⊢
      exact e
    · rw [upd_ne h] at e ⊢
      by_cases h2 : b = dd
      · subst h2
        rw [upd_same] at e
        cases e
        exact hd
      · rw [upd_ne h2] at e
        exact x.r.sub _ _ e
  · rw [upd_ne (fun z => nar (by rw [← z]; exact hb')), upd_ne (fun z => hr (by rw [← z]; exact hb'))]
    exact x.r.off b hb'
  · obtain ⟨h, e, q⟩ := x.r.at_ i b o h1 h2
    exact ⟨h, by rw [upd_ne (ne_of_none e na)]; exact e, q.mono ff (.refl _)⟩
  · obtain ⟨v, q, r⟩ := x.s.val i w e
    exact ⟨v, q, r.mono ff (.refl _)⟩
  · obtain ⟨b, h, h1, h2, h3, h4, h5⟩ := x.s.own i o e
    have nb : b ≠ dd := fun z => by
      rw [z, hd] at h4
      cases h4
      cases o with
      | lst _ => obtain ⟨_, e, _⟩ := h5; cases e
      | dK _ _ => obtain ⟨_, e, _⟩ := h5; cases e
      | dT _ _ => exact h5.elim
      | ins _ _ _ => obtain ⟨_, _, e, _⟩ := h5; cases e
      | tin _ _ _ _ => obtain ⟨_, _, _, _, e, _⟩ := h5; cases e
    exact ⟨b, h, h1, by rw [upd_ne (ne_of_none h4 na), upd_ne nb]; exact h2, h3, by rw [upd_ne (ne_of_none h4 na)]; exact h4, h5.mono ff (.refl _)⟩
  · have e1 := x.g.keep b o e n
    rw [upd_ne (ne_of_none e1 na)]
    exact e1
  · have e1 := x.g.keep b o e n
    have nb : b ≠ dd := fun w => by
      rw [w, hb] at e
      cases e
    rw [upd_ne (ne_of_none e1 na), upd_ne nb]
    exact (x.g.off b o e n).2 z
end
section
variable {cl : Str → Addr} {X : Cx} {Wx : WX} {B : Bs} {k : Nat} {x n : Str} {cv : Value} {i : Nat} {body suite : List Stmt} {b₀ : Stmt} {np pos pos' : Pos} {f g : Fs} {T : Str → Option Bool}
theorem x_try (hX : Ctx X Wx k) (hs : X.stack = X.env :: X.outer) (hf : X.env.frame = some X.env.locals) (hi : X.N[i]? = some n) (hln : X.env.kindOf n = some .local) (hc : Names X x cv)
    (hT : ∀ C b, T C = some b → PySem.W.exmOne X.K (.ref (cl C)) cv = some b)
    (hb : ∀ (Wx' : WX) (pn : List (Addr × Obj)) (xe : Value → Shared → Prop), Ctx (X.tr pn xe) Wx' k → SXs ⟨X.K, cl⟩ (X.tr pn xe) Wx' B body f)
    (hsu : ∀ (a : Addr) (pn : List (Addr × Obj)), SXs ⟨X.K, cl⟩ (X.suite a pn) (fun _ _ _ _ => False) B (b₀ :: suite) g) :
    SX ⟨X.K, cl⟩ X Wx B (.Try body [.ExceptHandler (some (.Name x np)) (some n) (b₀ :: suite) pos'] [] [] pos) (sTry i T f g) := by
  refine PS.weak (ps_try_xo (tb := fun W => sS ⟨X.K, cl⟩ W B f) (ts := sS ⟨X.K, cl⟩ (fun _ _ _ _ => False) B g) hs hf hX.nd hi hln hc hX.tk (fun W pn xe tk po => hb W pn xe ⟨hX.calm, tk, po, hX.hr, hX.nd⟩) hsu) fun D σ H ⟨F, ρ, m, τ, fr, p⟩ => ⟨F, ρ, m, τ, fr, ?_⟩
  unfold sTry at p
  cases e : f τ m with
  | bad =>
    rw [e] at p
    exact p
  | exc x m' =>
    rw [e] at p
    exact p
  | ok o m1 =>
    rw [e] at p
    cases o with
    | nx τ1 => exact p
    | rt w => exact p
    | bk τ1 => exact p
    | ct τ1 => exact p
    | ex x τ1 =>
      dsimp only at p
      intro kv d σ1 F1 ρ1 H1 fr1 xr
      cases et : T x.cls with
      | none =>
        rw [et] at p
        exact p.elim
      | some b =>
        rw [et] at p
        obtain ⟨rfl, xr2⟩ := id xr
        refine ⟨b, hT _ _ et, fun eb => ?_, fun eb => ?_⟩
        · subst eb
          dsimp only at p
          split at p
          · exact p.elim
          rename_i hns
          rcases xr2 with ⟨_, z, _⟩ | ⟨dd, gs, rfl, hd, hn, hv, hr, hbd⟩
          · exact absurd z hns
          refine ⟨_, dd, rfl, rfl, fun a na => ?_⟩
          obtain ⟨F2, fr2, fa, fd, ff⟩ := fr1.caught (C := cl x.cls) hd hr hbd na
          have rw' : RW ⟨X.K, cl⟩ F2 ρ1 (.exc x.cls x.ns x.vs) (.ref a) := by
            unfold RW
            exact .inl ⟨a, dd, gs, rfl, fa, fd, hn, hv.mono ff (.refl _)⟩
          refine ⟨F2, ρ1, m1, _, fr2.setv rw', ?_⟩
          cases eg : g (τ1.set i (.val (.exc x.cls x.ns x.vs))) m1 with
          | bad =>
            rw [eg] at p
            exact p
          | exc z m2 =>
            rw [eg] at p
            exact p.elim
          | ok o2 m2 =>
            rw [eg] at p
            cases o2 with
            | nx τ2 => exact fun σ3 F3 ρ3 H3 fr3 => p _ F3 ρ3 H3 fr3.setun
            | rt w => exact p
            | bk τ2 => exact fun σ3 F3 ρ3 H3 fr3 => p _ F3 ρ3 H3 fr3.setun
            | ct τ2 => exact fun σ3 F3 ρ3 H3 fr3 => p _ F3 ρ3 H3 fr3.setun
            | ex z τ2 => exact p.elim
        · subst eb
          exact p _ _ σ1 F1 ρ1 H1 fr1 xr
end
end Sm

/-! S52: e.f and isinstance(e, ..) of a caught exception. -/
namespace Sm
open PySem PySem.Spec PyProof.Rows L2

/-- the exceptions' classes and attributes that may be read -/
abbrev Xas := List (Str × Str)
structure XaC (K : PySem.W.Frag) (cl : Str → Addr) (p : Str × Str) : Prop where
  c : XfC K (cl p.1)
  f : PySem.W.findIn K (.ref (cl p.1)) p.2 = some none
def XaOk (K : PySem.W.Frag) (cl : Str → Addr) (L : Xas) : Prop := ∀ p ∈ L, XaC K cl p
def xaB (K : PySem.W.Frag) (cl : Str → Addr) (L : Xas) : Bool := L.all fun p => xfB K (cl p.1) && decide (PySem.W.findIn K (.ref (cl p.1)) p.2 = some none)
theorem xa_of {K : PySem.W.Frag} {cl : Str → Addr} {L : Xas} (h : xaB K cl L = true) : XaOk K cl L := fun p hp => by
  obtain ⟨h1, h2⟩ := Bool.and_eq_true_iff.mp (List.all_eq_true.mp h p hp)
  exact ⟨xfB_ok h1, of_decide_eq_true h2⟩
def xfW (L : Xas) (f : Str) : W → Sto → Option W
  | .exc C ns vs, _ => if L.contains (C, f) then lookA f ns vs else none
  | _, _ => none
def tXo (K : PySem.W.Frag) (n : Str) (te : TE) : TE := fun σ H Q => te σ H fun x H1 => ∃ (a C d : Addr) (fs : List (Str × V)) (v : V), x = .ref a ∧ XfC K C ∧ PySem.W.findIn K (.ref C) n = some none ∧ H1 a = some (xoH a C d) ∧ H1 d = some (.xd fs) ∧ fs.lookup n = some v ∧ Q v H1
theorem inst_xo {X : Cx} {pins : List (Addr × Obj)} {σ : L2.St} {H : Hp} {s : Shared} {a C d : Addr} {fs : List (Str × V)} (I : Inv X pins σ H s) (ha : H a = some (xoH a C d)) (hd : H d = some (.xd fs)) :
    ∃ (oe od : Obj) (mA : Str → Option Value), PySem.W.InstAt s.heap a oe C (some od) ∧ s.heap.Ns1 d mA ∧ s.heap.get? d = some od ∧ ∀ f, RelO (fs.lookup f) (mA f) := by
  obtain ⟨oe, vs, h1, h2, h3, h4⟩ := xoH_at I.hok ha
  have hx : ObjOk X.prog X.w H s.heap d (.xd fs) := I.hok d _ hd
  obtain ⟨mA, hns, hr⟩ := hx
  obtain ⟨od, ho, hl⟩ := lookIn_ns hns
  exact ⟨oe, od, mA, ⟨h1, h2, by unfold PySem.W.notCls; rw [h4] <;> rfl, by rw [h3]; exact ho⟩, hns, ho, hr⟩
theorem pe_xo {X : Cx} {e : Expr} {te : TE} {pos : Pos} {n : Str} (he : PE X e te) (hb : attributeBase e n X.env (eval e X.env) = eval e X.env := by rfl) : PE X (.Attribute e n pos) (tXo X.K n te) := by
  refine ⟨fun pins s σ H Q I h => ?_⟩
  refine attr_of hb (thn (he.run pins s σ H _ I h) fun u s1 hh => ?_)
  obtain ⟨x, H1, I1, rx, a, C, d, fs, v, ex, T, hno, ha, hd, l, q⟩ := hh
  subst ex
  obtain rfl : u = Value.ref a := rx
  obtain ⟨oe, od, mA, J, hns, ho, hr⟩ := inst_xo I1 ha hd
  obtain ⟨od', ho', hl⟩ := lookIn_ns hns
  rw [ho] at ho'
  cases ho'
  obtain ⟨u, hu, ru⟩ := RelO.some_of (v := v) (o := mA n) (by rw [← l]; exact hr n)
  exact HandSPX.exc_get I1.kIn J T.ga T.gg T.exC (PySem.W.findObj_own T.hdC hno rfl (by rw [hl, hu])) (handed_of ru) ⟨v, H1, I1.tok _, ru, q⟩
section
variable {c : Cn} {X : Cx} {Wx : WX} {e : Expr} {fa : Fe} {pos : Pos}
theorem s_xf {L : Xas} {f : Str} (hL : XaOk c.K c.cl L) (hK : c.K = X.K) (he : SE c X Wx e fa) (hb : attributeBase e f X.env (eval e X.env) = eval e X.env := by rfl) : SE c X Wx (.Attribute e f pos) (op1 (xfW L f) fa) :=
  PE.weak (pe_xo he hb) fun σ H Q h => w_op1E h fun F ρ m H1 w1 w x r q e k => by
    unfold xfW at e
    split at e
    · rename_i C ns vs
      split at e
      · rename_i hc
        have T := hL _ (List.contains_iff_mem.mp hc)
        unfold RW at q
        rcases q with ⟨a, d, gs, rfl, h1, h2, h3, h4⟩ | ⟨n1, n2, _⟩
        · rw [← h3] at e
          obtain ⟨v, l, rw'⟩ := lookA_ok h4 e
          exact ⟨a, c.cl C, d, gs, v, rfl, hK ▸ T.c, hK ▸ T.f, r.sub _ _ h1, r.sub _ _ h2, l, k v F ρ H1 r .refl rw'⟩
        · subst n1 n2
          cases e
      · cases e
    · cases e
end
/-! ### isinstance -/
def excB (K : PySem.W.Frag) (D : Addr) : Bool := xfB K D && (decide (PySem.W.findIn K (.ref D) "__class__" = some (some (.builtin "object.__class__"))) && (decide (PySem.W.specialIn K (.builtin "object.__class__") "__get__" = some (some (.builtin "getset_descriptor.__get__"))) &&
  (decide (PySem.W.takesIn K (.builtin "object.__class__") = some true) && decide (PySem.W.mroIn K D (.type "object") = some true))))
theorem excB_ok {K : PySem.W.Frag} {D : Addr} (h : excB K D = true) : ExcC K D := by
  obtain ⟨h1, h⟩ := Bool.and_eq_true_iff.mp h
  obtain ⟨h2, h⟩ := Bool.and_eq_true_iff.mp h
  obtain ⟨h3, h⟩ := Bool.and_eq_true_iff.mp h
  obtain ⟨h4, h5⟩ := Bool.and_eq_true_iff.mp h
  have T := xfB_ok h1
  exact ⟨T.ga, T.gg, T.exC, T.hdC, of_decide_eq_true h2, of_decide_eq_true h3, of_decide_eq_true h4, of_decide_eq_true h5⟩
def XcOk (K : PySem.W.Frag) (cl : Str → Addr) (L : List Str) : Prop := ∀ C ∈ L, ExcC K (cl C)
theorem xc_of {K : PySem.W.Frag} {cl : Str → Addr} {L : List Str} (h : (L.all fun C => excB K (cl C)) = true) : XcOk K cl L := fun C hC => excB_ok (List.all_eq_true.mp h C hC)
def isxW (L : List Str) (T : Kt) : List W → Sto → Option W
  | [.exc C _ _, .tup cs], _ => if L.contains C then (match clsTs cs with
    | some _ => (isiAny T (.c C) cs).map .bl
    | none => none) else none
  | [.exc C _ _, c], _ => if L.contains C then (match clsT c with
    | some u => (ktB T (.c C) u).map .bl
    | none => none) else none
  | _, _ => none
section
variable {cl : Str → Addr} {X : Cx} {L : List Str} {T : Kt}
theorem c_isx (hL : XcOk X.K cl L) (hT : KtOk X.K cl T) : CallR X (.builtin "isinstance") (rC ⟨X.K, cl⟩ (isxW L T)) := by
  intro pins s σ H xs us Q I rv h
  obtain ⟨F, ρ, m, ws, w, r, q, e, k⟩ := h
  have kit : ∀ {C : Str} {ns : List Str} {vs : List W} {v : V} {u : Value}, RB ⟨X.K, cl⟩ F ρ H (.exc C ns vs) v → L.contains C = true → RelV v u → ∃ P : Heap → Prop, PySem.W.KitX X.K u (.ref (cl C)) P ∧ P s.heap ∧ u ≠ .builtin "__main__.__loader__#opaque" := fun {C ns vs v u} q hc rv => by
    have T := hL _ (List.contains_iff_mem.mp hc)
    have q := q.scal fun o e => by cases o <;> cases e
    unfold RW at q
    rcases q with ⟨a, d, gs, rfl, h1, h2, h3, h4⟩ | ⟨_, _, a, rfl, h1⟩
    · obtain rfl : u = Value.ref a := rv
      obtain ⟨oe, od, mA, J, _⟩ := inst_xo I (r.sub _ _ h1) (r.sub _ _ h2)
      obtain ⟨cd, hcd, _⟩ := PySem.W.any_some T.hd
      exact ⟨_, PySem.W.kitx_exc (by rw [hcd]; rfl) T.hg T.hk T.hs T.ha T.hn T.ht T.hm, J, fun z => nomatch z⟩
    · obtain rfl : u = Value.ref a := rv
      have hx : ObjOk X.prog X.w H s.heap a (.ext fun h => ∃ (oe : Obj) (vs : Array Value), h.get? a = some oe ∧ oe.cls = .ref (cl C) ∧ oe.dict = none ∧ oe.data = .fields vs) := I.hok a _ (r.sub _ _ h1)
      obtain ⟨⟨oe, vs', g1, g2, g3, g4⟩, _, _⟩ := hx
      have J : PySem.W.InstAt s.heap a oe (cl C) none := ⟨g1, g2, by unfold PySem.W.notCls; rw [g4] <;> rfl, by rw [g3]; trivial⟩
      obtain ⟨cd, hcd, _⟩ := PySem.W.any_some T.hd
      exact ⟨_, PySem.W.kitx_exc (by rw [hcd]; rfl) T.hg T.hk T.hs T.ha T.hn T.ht T.hm, J, fun z => nomatch z⟩
  unfold isxW at e
  split at e
  · obtain ⟨v, u, rfl, q1, q2⟩ := q.two
    split at e
    · rename_i hc
      split at e
      · rename_i ts h2
        obtain ⟨b, e1, rfl⟩ := Option.map_eq_some_iff.mp e
        obtain ⟨a, vs, rfl, h3, tl⟩ := q2.tup r
        obtain ⟨k1, k2⟩ := isiAny_ok hT tl h2 e1
        obtain ⟨u1, u2, rfl, r1, r2⟩ := vals2 rv
        cases (show u2 = Value.ref a from r2)
        obtain ⟨P, Z, p, hx⟩ := kit q1 hc r1
        obtain ⟨its, rv', ⟨o, h1, h2', n, h3'⟩, _⟩ := I.tuple h3
        have e3 := ClsV.all k1 rv'
        subst e3
        obtain ⟨oc, od, dt, sl⟩ := o
        simp only at h2' h3'
        subst h2' h3'
        exact PySem.W.kia_tup Z I.kIn p h1 k2 hx fun tk => ⟨.bl b, H, I.tok tk, rfl, k _ F ρ H r .refl rfl⟩
      · cases e
    · cases e
  · obtain ⟨v, u, rfl, q1, q2⟩ := q.two
    split at e
    · rename_i hc
      split at e
      · rename_i tu h2
        obtain ⟨b, e1, rfl⟩ := Option.map_eq_some_iff.mp e
        have q3 : RW ⟨X.K, cl⟩ F ρ _ u := q2.scal fun o eo => by
          rw [eo] at h2
          cases o <;> cases h2
        obtain ⟨u1, u2, rfl, r1, r2⟩ := vals2 rv
        have e2 := (clsT_ok q3 h2).eq r2
        subst e2
        obtain ⟨P, Z, p, hx⟩ := kit q1 hc r1
        exact PySem.W.kia_one Z I.kIn p (ktB_ok hT e1) hx fun tk => ⟨.bl b, H, I.tok tk, rfl, k _ F ρ H r .refl rfl⟩
      · cases e
    · cases e
  · cases e
end
end Sm

/-! S53: own exception classes over any built-in one: stores of attributes. -/
namespace PySem
namespace SmX
open PySem.W PySem.Calls PyProof.Rows
open Builtin Builtin.ObjectAttr
section
variable {prog : Program} {w : World} {A : Around} {E : Value → Shared → Prop} {R : Result → Shared → Prop} {hp : Heap} {g : Array GenState} {d : Drawn} {t : Nat} {os : OsState} {B : String} {bmB : List Value}
theorem osa_new {K : W.Frag} {name : Str} {tk : Tok} {v : Value} {x C : Addr} {fv : Array Value} (SF : StoreFacts B bmB "object.__setattr__" "object")
    (X : K.In hp) (hx : hp.get? x = some { cls := .ref C, data := .fields fv }) (hov : excOver K C bmB = true) (ht : takerIn K C name = some none) (hh : hasDictIn K C = true)
    (hq : ∀ h' tk' dx, (∀ b o, b ≠ x → hp.get? b = some o → h'.get? b = some o) → hp.objs.size ≤ dx → dx ≠ x → h'.get? x = some { cls := .ref C, dict := some dx, data := .fields fv } →
      h'.Ns1 dx (fun y => if y = name then some v else none) → R (.ok (.ret .none)) ⟨h', g, d, tk', os⟩) :
    codeAny (model prog w) A (.call (.builtin "object.__setattr__") ⟨[.ref x, .str name tk, v], []⟩) R ⟨hp, g, d, t, os⟩ := by
  have hxs : x ≠ hp.objs.size := Nat.ne_of_lt (Heap.lt_size hx)
  obtain ⟨cd, hcd, hd'⟩ := any_some hh
  have hcls : W.Looks (model prog w) hp (classData C) cd := W.looks_clsIn X hcd
  obtain ⟨nm, bs, mro, ns, qn, hd, sn, sb, ab, col, del⟩ := cd
  dsimp only at hd'
  subst hd'
  refine osa_openX (s := ⟨hp, g, d, t, os⟩) (od := none) SF X ⟨hx, rfl, rfl, trivial⟩ hov ht fun b => ?_
  show wpAny _ _ (storeInOwnDict (.ref x) (.ref C) (.str name tk) name v b) _ _ _
  unfold storeInOwnDict ownDictForStores
  repeat (first | with_reducible refine HandSPX.store_in_new ?_ ?_ | with_reducible refine wpAny_loadPart_at hx ?_ | with_reducible refine hcls.at ?_ | wp_step)
  · exact ⟨_, #[], _, (Heap.get?_update_ne _ _ _ _ hxs.symm).trans (Heap.get?_push_at rfl rfl), rfl, fun e he => absurd he (by simp), fun _ => rfl⟩
  · intro h' tk' hn' hs
    have hx₁ : (hp.push { cls := .type "dict", data := .dict #[] }).get? x = some { cls := .ref C, data := .fields fv } := Heap.get?_push_of_some _ hx
    refine hq h' tk' hp.objs.size (fun b o hb ho => ?_) (Nat.le_refl _) hxs.symm ?_ hn'
    · exact (hs.2 b (Nat.ne_of_lt (Heap.lt_size ho))).trans ((Heap.get?_update_ne _ _ _ _ hb).trans (Heap.get?_push_of_some _ ho))
    · exact (hs.2 x hxs).trans (Heap.get?_update_self _ hx₁ rfl)
theorem osa_old {K : W.Frag} {name : Str} {tk : Tok} {v : Value} {x C dx : Addr} {fv : Array Value} {m0 : Str → Option Value} {nl : List Str} (SF : StoreFacts B bmB "object.__setattr__" "object")
    (X : K.In hp) (hx : hp.get? x = some { cls := .ref C, dict := some dx, data := .fields fv }) (hns : hp.Ns1 dx m0) (hw : Within m0 nl) (hz : nl.length ≤ 1000) (hov : excOver K C bmB = true) (ht : takerIn K C name = some none) (hh : hasDictIn K C = true)
    (hq : ∀ h' tk', (∀ b o, b ≠ dx → hp.get? b = some o → h'.get? b = some o) → h'.Ns1 dx (fun y => if y = name then some v else m0 y) → R (.ok (.ret .none)) ⟨h', g, d, tk', os⟩) :
    codeAny (model prog w) A (.call (.builtin "object.__setattr__") ⟨[.ref x, .str name tk, v], []⟩) R ⟨hp, g, d, t, os⟩ := by
  obtain ⟨oD, esD, epD, hoD, hdD, _⟩ := hns.count hw
  obtain ⟨cd, hcd, hd'⟩ := any_some hh
  have hcls : W.Looks (model prog w) hp (classData C) cd := W.looks_clsIn X hcd
  obtain ⟨nm, bs, mro, ns, qn, hd, sn, sb, ab, col, del⟩ := cd
  dsimp only at hd'
  subst hd'
  refine osa_openX (s := ⟨hp, g, d, t, os⟩) (od := some oD) SF X ⟨hx, rfl, rfl, hoD⟩ hov ht fun b => ?_
  show wpAny _ _ (storeInOwnDict (.ref x) (.ref C) (.str name tk) name v b) _ _ _
  unfold storeInOwnDict ownDictForStores
  repeat (first | with_reducible refine PySem.OEX.store_in_old hns hw hz ?_ | with_reducible refine wpAny_loadPart_at hx ?_ | with_reducible refine hcls.at ?_ | wp_step)
  intro h' tk' hn' hs
  exact hq h' tk' (fun b o hb ho => (hs.2 b hb).trans ho) hn'
end
end SmX
end PySem

/-! S54: self.f = v of an exception in the making. -/
namespace Sm
open PySem PySem.Spec PyProof.Rows L2

/-- what an own exception class over the built-in one Bn must have -/
structure XCl (K : PySem.W.Frag) (C : Addr) (Bn newId initId : String) (tail : List Value) : Prop where
  fb : ExcBaseFacts Bn newId initId tail
  sf : StoreFacts Bn tail "object.__setattr__" "object"
  kx : PySem.W.KxsFacts Bn initId
  ini : PySem.W.excInitIn K C tail newId = true
  ov : PySem.W.excOver K C tail = true
  hh : PySem.W.hasDictIn K C = true
  sa : PySem.W.findIn K (.ref C) "__setattr__" = some (some (.builtin "object.__setattr__"))
  exC : PySem.W.subIn K (.ref C) (.type "BaseException") = some true
  tyC : PySem.W.typeIn K (.ref C) = some (.type "type")
  kC : PySem.W.keepIn K (.ref C) = true
  sB : PySem.W.subIn K (.ref C) (.type Bn) = some true
  op : PySem.W.nsIn K cStatics "thirdparty.any" = some none
section
variable {X : Cx} {pins : List (Addr × Obj)} {σ : L2.St} {H : Hp} {s : Shared} {a C dx : Addr} {f : Str} {y : V} {u : Value} {fs : List (Str × V)} {Q : Unit → Shared → Prop} {E : Value → Shared → Prop} {A : Around} {Bn newId initId : String} {tail : List Value}
theorem st_new (T : XCl X.K C Bn newId initId tail) (I : Inv X pins σ H s) (e : H a = some (exo a C none)) (ht : PySem.W.takerIn X.K C f = some none) (ry : RelV y u)
    (h : ∀ dx s', H dx = none → dx ≠ a → Inv X pins σ (upd (upd H dx (exd dx [(f, y)])) a (exo a C (some dx))) s' → Q () s') : wpAny (model X.prog X.w) A (setAttr (.ref a) f u) Q E s := by
  obtain ⟨t1, ho⟩ := exo_at I.hok e
  obtain ⟨hp, g, d, t, os⟩ := s
  refine PySem.W.set_plain I.kIn (ox := { cls := .ref C, dict := none, data := .fields #[.ref t1, .none, .none, .none, .bool false, .none] }) (od := none) ⟨ho, rfl, rfl, trivial⟩ T.sa ?_
  refine PySem.SmX.osa_new T.sf I.kIn ho T.ov ht T.hh (fun h' tk' dx k dn dne hx hn => ?_)
  have hnd : H dx = none := I.hok.fresh dn
  have nd : ∀ {b : Addr} {o : Obj}, hp.get? b = some o → b ≠ dx := fun {b o} q => Nat.ne_of_lt (Nat.lt_of_lt_of_le (Heap.lt_size q) dn)
  have na : ∀ {b : Addr}, H b = none → b ≠ a := fun {b} n z => by
    rw [z, e] at n
    cases n
  have Un1 : Un X.fs [] H (upd (upd H dx (exd dx [(f, y)])) a (exo a C (some dx))) hp h' := {
    keep := fun b o q n _ _ => k b o (na n) q
    slot := fun b o q n _ _ => ⟨o.slots, k b o (na n) q⟩
    free := fun b o q n _ => by rw [upd_ne (na n), upd_ne (nd q)]; exact n
    there := fun b o q _ => by
      by_cases hb : b = a
      · exact ⟨_, by rw [hb]; exact hx⟩
      · exact ⟨o, k b o hb q⟩
    tups := fun b xs q => by rw [upd_ne (at_ne e q exo_tup), upd_ne (ne_of_none q hnd)]; exact q
    frzs := fun b o v q => by rw [upd_ne (at_ne e q exo_frz), upd_ne (ne_of_none q hnd)]; exact q
    tbls := fun b ps q => ⟨#[], by rw [upd_ne (at_ne e q exo_tbl), upd_ne (ne_of_none q hnd), q]; simp⟩ }
  refine h dx _ hnd dne (I.un (t' := tk') Un1 fun b o q => ?_)
  by_cases hb : b = a
  · subst hb
    rw [upd_same] at q
    cases q
    exact exo_ok hx
  · rw [upd_ne hb] at q
    by_cases hd : b = dx
    · subst hd
      rw [upd_same] at q
      cases q
      exact exd_ok hn (relO_put (fs := []) ry fun g => True.intro)
    · rw [upd_ne hd] at q
      exact (I.hok b o q).stay (fun c v hc z => k c v (by
          rcases hc with hc | hc
          · rw [hc]
            exact hb
          · exact at_ne e hc exo_own) z)
        (fun c hc => by rw [upd_ne (at_ne e hc exo_own), upd_ne (ne_of_none hc hnd)]; exact hc) (fun c xs hc => by rw [upd_ne (at_ne e hc exo_tup), upd_ne (ne_of_none hc hnd)]; exact hc)
theorem st_old (T : XCl X.K C Bn newId initId tail) (I : Inv X pins σ H s) (e : H a = some (exo a C (some dx))) (ed : H dx = some (exd dx fs)) (hl : fs.length ≤ 900) (ht : PySem.W.takerIn X.K C f = some none) (ry : RelV y u)
    (h : ∀ s', Inv X pins σ (upd H dx (exd dx ((f, y) :: fs))) s' → Q () s') : wpAny (model X.prog X.w) A (setAttr (.ref a) f u) Q E s := by
  obtain ⟨t1, ho⟩ := exo_at I.hok e
  obtain ⟨mA, hns, rel⟩ := exd_at I.hok ed
  have hw := within_of rel
  obtain ⟨hp, g, d, t, os⟩ := s
  obtain ⟨oD, _, _, hoD, _, _⟩ := hns.count hw
  refine PySem.W.set_plain I.kIn (ox := { cls := .ref C, dict := some dx, data := .fields #[.ref t1, .none, .none, .none, .bool false, .none] }) (od := some oD) ⟨ho, rfl, rfl, hoD⟩ T.sa ?_
  refine PySem.SmX.osa_old T.sf I.kIn ho hns hw (by rw [List.length_map]; omega) T.ov ht T.hh (fun h' tk' k hn => ?_)
  have hd : ∃ o, h'.get? dx = some o := by
    obtain ⟨o, _, _, e', _⟩ := hn
    exact ⟨o, e'⟩
  exact h _ (I.write (t' := tk') (x := dx) (e := dx) (o := exd dx ((f, y) :: fs)) (by rw [ed]; exact True.intro) (.inl rfl) k hd (exd_ok hn (relO_put ry rel)))
/-- self.f = e -/
def tXst (K : PySem.W.Frag) (C : Addr) (f : Str) (to te : TE) : TS := fun D σ H => te σ H fun y H1 => to σ H1 fun x H2 => ∃ a : Addr, x = .ref a ∧ PySem.W.takerIn K C f = some none ∧
  ((H2 a = some (exo a C none) ∧ ∀ dx, H2 dx = none → dx ≠ a → D.nx σ (upd (upd H2 dx (exd dx [(f, y)])) a (exo a C (some dx)))) ∨
    ∃ (dx : Addr) (fs : List (Str × V)), H2 a = some (exo a C (some dx)) ∧ H2 dx = some (exd dx fs) ∧ fs.length ≤ 900 ∧ D.nx σ (upd H2 dx (exd dx ((f, y) :: fs))))
theorem ps_xst {o e : Expr} {to te : TE} {p' pos : Pos} (T : XCl X.K C Bn newId initId tail) (ho : PE X o to) (he : PE X e te) (hs : swapsWith e (some (.Attribute o f p')) pos.line X.env = pure false := by rfl) : PS X (.Assign [.Attribute o f p'] e pos) (tXst X.K C f to te) := by
  refine ⟨fun pins s σ H D I h => ?_⟩
  refine plainObj_wpAny_Assign_Attribute (thn (he.run pins s σ H _ I h) fun v s1 ⟨y, H1, I1, r1, q1⟩ => thn (ho.run pins s1 σ H1 _ I1 q1) fun u s2 ⟨x, H2, I2, r2, a, ex, hno, q⟩ => ?_) hs
  subst ex
  obtain rfl : u = Value.ref a := r2
  rcases q with ⟨ea, q⟩ | ⟨dx, fs, ea, ed, hl, q⟩
  · exact st_new T I2 ea hno r1 fun dx s' n ne J => ⟨σ, _, J, q dx n ne⟩
  · exact st_old T I2 ea ed hl hno r1 fun s' J => ⟨σ, _, J, q⟩
end
end Sm

/-! S55: super().__init__(..) in an exception's __init__. -/
namespace Sm
open PySem PySem.Spec PyProof.Rows L2
open PySem.W in
theorem call_mw {X : Cx} {pins : List (Addr × Obj)} {σ : L2.St} {H : Hp} {s : Shared} {a C u : Addr} {us : List Value} {Q : Value → Shared → Prop} {E : Value → Shared → Prop} {A : Around} {Bn newId initId : String} {tail : List Value}
    (T : XCl X.K C Bn newId initId tail) (I : L2.Inv X pins σ H s) (e : H a = some (exo a C none)) (hu : s.heap.get? u = some (kxs_mw initId a)) (hl : us.length ≤ sizeLine) (h : ∀ s', L2.Inv X pins σ H s' → Q .none s') :
    wpAny (model X.prog X.w) A (call (.ref u) us) Q E s := by
  obtain ⟨nm, N', qn, bs, bm, hdct, sn, sub, ab, col, dd, k0, k1, k2, k3, k5, hC, hT⟩ := excInit_of I.kIn T.ini
  obtain ⟨t1, he⟩ := exo_at I.hok e
  obtain ⟨hp, g, d, tk, os⟩ := s
  have fin : ∀ h', (∀ b o, b ≠ a → hp.get? b = some o → h'.get? b = some o) → h'.get? a = some (excObj C hp.objs.size none .none) → h'.get? hp.objs.size = some (excTup us) → Q .none ⟨h', g, d, tk, os⟩ := fun h' k e' _ => by
    have J := I.write (t' := tk) (x := a) (e := a) (o := exo a C none) (by rw [e]; exact True.intro) (.inl rfl) k ⟨_, e'⟩ (exo_ok e')
    have eu : upd H a (exo a C none) = H := by
      funext b
      by_cases hb : b = a
      · rw [hb, upd_same, e]
      · rw [upd_ne hb]
    rw [eu] at J
    exact h _ J
  refine wpAny_call (codeAny_of_tree ?_)
  show wpAny _ A.in1 (callAny (.ref u) ⟨us, []⟩) _ _ _
  simp only [callAny]
  refine wpAny_bind (wpAny_load hu ?_)
  simp only [kxs_mw, show (Value.type "method-wrapper" == Value.type "method" || Value.type "method-wrapper" == Value.type "builtin_function_or_method" || Value.type "method-wrapper" == Value.type "method-wrapper") = true by decide, if_true]
  refine KFB.if_so (by decide) ?_
  refine wpAny_bind (check_bound_init T.fb.toExcCallFacts hC he rfl ?_)
  refine wpAny_bind (wpAny_pure (wpAny_pure ?_))
  refine ⟨plainId_quiet T.fb.init.plain _, codeAny_builtin T.fb.initEntry ?_⟩
  exact exc_init_tree (cls := .ref C) (t0 := t1) (dv := none) (c2 := .none) (c3 := .none) (b4 := .bool false) he hl fin
/-- the bound built-in __init__ -/
def mwH (i : String) (x u : Addr) : HO := .ext fun h => h.get? u = some (PySem.W.kxs_mw i x)
theorem mwH_at {P : Program} {w : World} {H : Hp} {h : Heap} {i : String} {x u : Addr} (hok : HOk P w H h) (he : H u = some (mwH i x u)) : h.get? u = some (PySem.W.kxs_mw i x) := by
  have z : ObjOk P w H h u (.ext fun h => h.get? u = some (PySem.W.kxs_mw i x)) := hok u _ he
  exact z.1
def tSupX (i : String) (C : Addr) (ta : TA) : TS := fun D σ H => ∃ a : Addr, σ[(0 : Nat)]? = some (some (.ref a)) ∧ H a = some (exo a C none) ∧ ∀ u, H u = none → ta σ (upd H u (mwH i a u)) fun vs H1 => vs.length ≤ 1000 ∧ H1 a = some (exo a C none) ∧ H1 u = some (mwH i a u) ∧ D.nx σ H1
section
variable {P : Program} {w : World} {K : PySem.W.Frag} {mg : Str → Option Value} {base : Heap} {N : List Str} {x qual : Str} {params : Arguments} {body body' : List Stmt} {scope : Scope} {f cda cc C : Addr} {fd : FuncData} {A : Around} {outer : List Env} {s0 : Shared} {H0 : Hp} {E : XK}
  {e : Expr} {es : List Expr} {ta : TA} {p0 p1 p2 p3 p4 : Pos} {ar : Arg} {Bn newId initId : String} {tail : List Value}
theorem a_superX {pl : Sem Bool} (Fs : FunS P K x qual params body' scope f fd cc C cda) (T : XCl K C Bn newId initId tail) (hsi : PySem.W.ks_superIn K C C "__init__" = some (some (.builtin initId))) (hsub : PySem.W.mroIn K C (.ref C) = some true)
    (htop : (P.main.scope.names.lookup ("super" : Str)).isSome = false) (hmg : mg "super" = none)
    (ha : PA (cxS (CX P w) P w K mg base N qual scope f cda cc A outer s0 H0 E) (e :: es) ta)
    (hp : (params.posonlyargs ++ params.args).head? = some ar) (hN : N[0]? = some ar.arg) (hka : scope.names.lookup ar.arg = some .local) (hks : scope.names.lookup ("super" : Str) = some .globalImplicit) (hkc : scope.names.lookup ("__class__" : Str) = some .free)
    (hc : eval (.Call (.Attribute (.Call (.Name "super" p0) [] [] p1) "__init__" p2) (e :: es) [] p3) (envS qual scope s0.heap.objs.size f cda cc) = (do
      let ov ← attributeBase (.Call (.Name "super" p0) [] [] p1) "__init__" (envS qual scope s0.heap.objs.size f cda cc) (eval (.Call (.Name "super" p0) [] [] p1) (envS qual scope s0.heap.objs.size f cda cc))
      standAt p2.atName
      let (f', first) ← holding [ov] (getMethod ov "__init__" pl)
      callWith p3 f' first (backTo p3 (starEach (e :: es) (envS qual scope s0.heap.objs.size f cda cc))) []) := by rfl)
    (hi : interactive (envS qual scope s0.heap.objs.size f cda cc) = false := by rfl)
    (hs : swapsWith (.Call (.Attribute (.Call (.Name "super" p0) [] [] p1) "__init__" p2) (e :: es) [] p3) none p4.line (envS qual scope s0.heap.objs.size f cda cc) = pure false := by rfl)
    (he : starEach (e :: es) (envS qual scope s0.heap.objs.size f cda cc) = (false, eval e (envS qual scope s0.heap.objs.size f cda cc)) :: starEach es (envS qual scope s0.heap.objs.size f cda cc) := by rfl) (hpl : (backTo p3 (starEach es (envS qual scope s0.heap.objs.size f cda cc))).any (·.1) = false := by rfl) :
    PA1 (cxS (CX P w) P w K mg base N qual scope f cda cc A outer s0 H0 E) (.func body (envS qual scope s0.heap.objs.size f cda cc)) (.Expr (.Call (.Attribute (.Call (.Name "super" p0) [] [] p1) "__init__" p2) (e :: es) [] p3) p4) (tSupX initId C ta) := by
  refine ⟨fun pins s σ H D I h => ?_⟩
  obtain ⟨a, e1, e4, p⟩ := h
  obtain ⟨oc, od, dV, kV, doc, pm, an, ct, osl, rfl, lkf⟩ := Fs.ex
  obtain ⟨ccl, cdd, vs, ccs, file, tf, lkc, hvs, hfile⟩ := Fs.file
  obtain ⟨lcl, cld, csl, lcc⟩ := Fs.cell
  obtain ⟨cdD, hD⟩ := Fs.cls
  have KI := I.kIn
  obtain ⟨t1, k4⟩ := exo_at I.hok e4
  have ks4 : scope.kind = .function := I.ok.kind
  obtain ⟨oD, hD1, hD2⟩ : ∃ oD, s.heap.get? C = some oD ∧ oD.data = .cls cdD := by
    unfold PySem.W.clsIn at hD
    split at hD
    · rename_i c d cd' sl ho
      cases hD
      exact ⟨_, KI _ _ ho, rfl⟩
    · cases hD
  have nac : a ≠ C := fun z => by
    rw [← z, k4] at hD1
    cases hD1
    cases hD2
  refine ks_wpAt_Expr_any (env := envS qual scope s0.heap.objs.size f cda cc) (ks_wpAt_MethodCall (ks_wpAt_super_base (env := envS qual scope s0.heap.objs.size f cda cc) (ar := ar) hks hkc (by decide) rfl (KI _ _ lkf) rfl hp rfl (KI _ _ lkc) rfl hvs hfile htop ?_) hc) hi hs
  obtain ⟨mb, b1, b2⟩ := I.mod.blt
  refine PySem.W.ks_loadName_global (env := envS qual scope s0.heap.objs.size f cda cc) ks4 hks (Calls.loadGlobal_builtin (env := envS qual scope s0.heap.objs.size f cda cc) (I.mod.glob.keeps I.bk) hmg (b1.keeps I.bk) ((b2 _ (by decide)).trans (show bootBuiltins "super" = some (.type "super") from by kernel_rfl)) ⟨rfl, ?_⟩)
  refine wpAny_loadName_free (env := envS qual scope s0.heap.objs.size f cda cc) ks4 hkc rfl ⟨_, KI _ _ lcc, rfl⟩ ?_
  obtain ⟨ml, hn, hl⟩ := I.loc
  obtain ⟨u, ru, l⟩ := hl 0 ar.arg (.ref a) hN e1 (Or.inl hka)
  obtain rfl : u = Value.ref a := ru
  have hml : ml ar.arg = some (.ref a) := by
    rcases l with ⟨_, hm⟩ | ⟨hk, _⟩
    · exact hm
    · have hk' : scope.names.lookup ar.arg = some .cell ∨ scope.names.lookup ar.arg = some .free := hk
      rw [hka] at hk'
      rcases hk' with z | z <;> cases z
  refine wpAny_loadName_local (env := envS qual scope s0.heap.objs.size f cda cc) ks4 hka hn hml ?_
  refine ks_wpAny_isType_cls hD1 hD2 ⟨rfl, ?_⟩
  obtain ⟨hh, gg, dd, tt, os⟩ := s
  refine ks_wpAny_call_super hD1 hD2 k4 rfl (fun c z => by cases z) (PySem.W.looks_mroIn KI hsub) (fun h1 es1 kk => ?_)
  have I1 : Inv (cxS (CX P w) P w K mg base N qual scope f cda cc A outer s0 H0 E) pins σ H ⟨h1, gg, dd, tt, os⟩ := I.kept (t' := tt) kk
  obtain ⟨cdC, hC, hsi'⟩ : ∃ cd, PySem.W.clsIn K C = some cd ∧ PySem.W.alongIn K "__init__" ((cd.mro.dropWhile (· != .ref C)).drop 1) = some (some (.builtin initId)) := by
    unfold PySem.W.ks_superIn at hsi
    cases hc : PySem.W.clsIn K C with
    | none => rw [hc] at hsi; cases hsi
    | some cd => rw [hc] at hsi; exact ⟨cd, rfl, hsi⟩
  have hIn : PySem.W.Looks (model P w) h1 (isInstance (.ref a) (.type Bn)) true := by
    have LT : PySem.W.Looks (model P w) h1 (typeOf (.ref a)) (.ref C) := fun A Q E s k q => wpAny_typeOf_ref (k _ _ (kk _ _ k4)) q
    exact LT.andThen (PySem.W.looks_subIn I1.kIn T.sB)
  refine PySem.W.kxs_getMethod T.kx es1 (PySem.W.looks_opaque I1.kIn T.op) (l₀ := cdC.mro) ?_ rfl I1.kIn hsi' hIn nac (by decide) ?_
  · exact fun A Q E s k q => wpAny_bind ((PySem.W.looks_clsIn I1.kIn hC) A _ E s k (wpAny_pure q))
  have hq0 : H h1.objs.size = none := I1.hok.fresh (Nat.le_refl _)
  have hgu : (h1.push (PySem.W.kxs_mw initId a)).get? h1.objs.size = some (PySem.W.kxs_mw initId a) := Heap.get?_push_size _ rfl
  have I2 : Inv (cxS (CX P w) P w K mg base N qual scope f cda cc A outer s0 H0 E) pins σ (upd H h1.objs.size (mwH initId a h1.objs.size)) ⟨h1.push (PySem.W.kxs_mw initId a), gg, dd, tt + 1, os⟩ :=
    I1.laid (t' := tt + 1) (a := h1.objs.size) (o := mwH initId a h1.objs.size) (h' := h1.push (PySem.W.kxs_mw initId a)) (fun b o z => Heap.get?_push_of_some _ z) (Nat.le_refl _) ⟨hgu, ⟨_, hgu⟩, fun _ _ z k => k _ z⟩
  rw [he]
  refine PySem.W.kxs_callWith (i := initId) (x := a) (by show (false || (backTo p3 (starEach es _)).any (·.1)) = false; rw [hpl]; rfl) ?_
  have run := ha.run p3 pins _ σ _ _ I2 (p h1.objs.size hq0)
  rw [show (cxS (CX P w) P w K mg base N qual scope f cda cc A outer s0 H0 E).env = envS qual scope s0.heap.objs.size f cda cc from rfl, he] at run
  refine Calls.evalArgs_plain (thn run fun us s3 ⟨vs, H3, I3, rv, hlen, ea, eu, q⟩ => ?_)
  refine ⟨mwH_at I3.hok eu, ?_⟩
  have hus : us.length ≤ sizeLine := by
    rw [← Paired.length rv, sizeLine_eq]
    omega
  exact call_mw T I3 ea (mwH_at I3.hok eu) hus fun s' J => ⟨σ, H3, J, q⟩
end
end Sm

/-! S56: an exception's __init__. -/
namespace Sm
open PySem PySem.Spec PyProof.Rows L2

/-- what the __init__ of the exception class at C does: its fields fs are its arguments -/
def spX (C : Addr) (fs : List Str) : Sp := fun vs H Q _ => vs.length = fs.length + 1 ∧ ∃ (a : Addr) (ws : List V), vs = .ref a :: ws ∧ H a = some (exo a C none) ∧
  ∀ (H' : Hp) (d : Addr), H' a = some (exo a C (some d)) → H' d = some (exd d (fs.zip ws).reverse) → H d = none → (∀ b o, H b = some o → b ≠ a → H' b = some o) → Q .non H'
section
variable {P : Program} {w : World} {K : PySem.W.Frag} {mg : Str → Option Value} {base : Heap}
theorem xinit_ok {x qual : Str} {params : Arguments} {body : List Stmt} {scope : Scope} {f cda cc D C : Addr} {fd : FuncData} {N ps : List Str} {k : Nat} {fs : List Str} {t : TS} (Fs : FunS P K x qual params body scope f fd cc D cda) (S : ScS N ps scope) (hps : ps.length = fs.length + 1)
    (hb : ∀ (A : Around) (outer : List Env) (s : Shared) (H : Hp) (E : XK), PAs (cxS (CX P w) P w K mg base N qual scope f cda cc A outer s H E) (.func body (envS qual scope s.heap.objs.size f cda cc)) body t)
    (ht : ∀ (a : Addr) (ws : List V) (H : Hp) (D : Ends), ws.length = fs.length → H a = some (exo a C none) →
      (∀ (σ' : L2.St) (H' : Hp) (d : Addr), H' a = some (exo a C (some d)) → H' d = some (exd d (fs.zip ws).reverse) → H d = none → (∀ b o, H b = some o → b ≠ a → H' b = some o) → D.nx σ' H') → t D (L2.start N (.ref a :: ws)) H) :
    FnOk P w K mg base (CX P w) (k + 1) f fd ps (spX C fs) := by
  refine ⟨fun vs H Q E h => by rw [hps]; exact h.1, fun A outer s H args us vs Q E hr e0 hbd r hsp => ?_⟩
  obtain ⟨oc, od, dV, kV, doc, pm, an, ct, osl, rfl, lk⟩ := Fs.ex
  have hl : vs.length = ps.length := by rw [hps]; exact hsp.1
  have KX : K.In s.heap := e0.mod.kin.keeps fun b o e => (e0.bs b o e).1
  have lim : s.heap.NoLimit := e0.mod.nolimit.keeps fun b o e => (e0.bs b o e).1
  refine ks_codeAny_call_defAt hr.depth (KX _ _ lk) rfl lim (PySem.W.codeRec_of KX Fs.code) rfl hbd S.nocell (fun y hy => ?_) (fun h0 hns hk => ?_) S.co S.gen S.kind
  · obtain ⟨n, v⟩ := y
    exact S.par n (List.of_mem_zip hy).1
  obtain ⟨hlen, a, ws, rfl, ha, q⟩ := hsp
  have I := inv_startS (CXx := CX P w) (E := E) (f := f) (cda := cda) (qual := qual) (t' := s.toks + (ps.zip us).length) S Fs.cell hr.hd e0 hl r hns hk
  refine ks_wpAt_mono ((hb A outer s H E).run [] _ _ H { nx := fun _ H' => Q .non H', rt := fun _ _ => False, bk := fun _ _ => False, ct := fun _ _ => False } I (ht a ws H _ (by simpa using hlen) ha fun σ' H' d h1 h2 h3 h4 => q H' d h1 h2 h3 h4)) (fun fl s' hs => ?_) fun e s' hs => hs
  have fin : ∀ {σ' : L2.St} {H' : Hp} {v : V} {u : Value}, Inv (cxS (CX P w) P w K mg base N qual scope f cda cc A outer s H E) [] σ' H' s' → RelV v u → Q v H' → CE outer P w H s Q u s' :=
    fun {σ' H' v u} J rv q => ⟨v, H', J.os, J.bare, J.base, J.hok, rv, q⟩
  cases fl with
  | ret u =>
    obtain ⟨v, σ', H', J, rv, q⟩ := hs
    exact q.elim
  | next =>
    obtain ⟨σ', H', J, q⟩ := hs
    exact fin (v := V.non) (u := Value.none) J rfl q
  | brk =>
    obtain ⟨_, _, _, q⟩ := hs
    exact False.elim q
  | cont =>
    obtain ⟨_, _, _, q⟩ := hs
    exact False.elim q
end
end Sm

/-! S57: the bodies of such __init__s, of one field and of two. -/
namespace Sm
open PySem PySem.Spec PyProof.Rows L2
section
variable {X : Cx} {cd : Code}
theorem pas_of {st : List Stmt} {t : TS} (h : PSs X st t) : PAs X cd st t := ⟨fun pins s σ H D I q => PySem.wpAt_of_wpAny (h.run pins s σ H D I q)⟩
theorem pas_cons {st : Stmt} {rest : List Stmt} {t u : TS} (h1 : PA1 X cd st t) (h2 : PAs X cd rest u) : PAs X cd (st :: rest) (fun D σ H => t { D with nx := u D } σ H) := ⟨fun pins s σ H D I p => by
  refine PySem.ks_wpAt_execs_cons (PySem.ks_wpAt_mono (h1.run pins s σ H { D with nx := u D } I p) (fun fl s1 q => ?_) fun _ _ z => z)
  cases fl with
  | next =>
    obtain ⟨σ', H', I', q⟩ := q
    exact h2.run pins s1 σ' H' D I' q
  | ret v => exact q
  | brk => exact q
  | cont => exact q⟩
end
/-- behind super().__init__(p) and self.f = p -/
theorem xb1 {K : PySem.W.Frag} {i : String} {C : Addr} {f : Str} {N : List Str} (hf : PySem.W.takerIn K C f = some none) (a : Addr) (ws : List V) (H : Hp) (D : Ends) (hl : ws.length = [f].length) (ha : H a = some (exo a C none))
    (q : ∀ (σ' : L2.St) (H' : Hp) (d : Addr), H' a = some (exo a C (some d)) → H' d = some (exd d ([f].zip ws).reverse) → H d = none → (∀ b o, H b = some o → b ≠ a → H' b = some o) → D.nx σ' H') :
    (fun D σ H => tSupX i C (tCons (tVar 1) tNil) { D with nx := tXst K C f (tVar 0) (tVar 1) D } σ H : TS) D (L2.start N (.ref a :: ws)) H := by
  match ws, hl with
  | [y], _ =>
  have s0 : (L2.start N (.ref a :: [y]))[(0 : Nat)]? = some (some (.ref a)) := rfl
  have s1 : (L2.start N (.ref a :: [y]))[(1 : Nat)]? = some (some y) := rfl
  refine ⟨a, s0, ha, fun u hu => ⟨y, s1, ?_⟩⟩
  have nua : a ≠ u := ne_of_none ha hu
  refine ⟨by simp, by rw [upd_ne nua]; exact ha, upd_same, y, s1, .ref a, s0, a, rfl, hf, .inl ⟨by rw [upd_ne nua]; exact ha, fun dx hd hda => ?_⟩⟩
  have hdu : dx ≠ u := fun z => by
    rw [z, upd_same] at hd
    cases hd
  rw [upd_ne hdu] at hd
  refine q _ _ dx upd_same (by rw [upd_ne hda, upd_same]; rfl) hd fun b o e n => ?_
  rw [upd_ne n, upd_ne (ne_of_none e hd), upd_ne (ne_of_none e hu)]
  exact e
theorem xb2 {K : PySem.W.Frag} {i : String} {C : Addr} {f g : Str} {N : List Str} (hf : PySem.W.takerIn K C f = some none) (hg : PySem.W.takerIn K C g = some none) (a : Addr) (ws : List V) (H : Hp) (D : Ends) (hl : ws.length = [f, g].length) (ha : H a = some (exo a C none))
    (q : ∀ (σ' : L2.St) (H' : Hp) (d : Addr), H' a = some (exo a C (some d)) → H' d = some (exd d ([f, g].zip ws).reverse) → H d = none → (∀ b o, H b = some o → b ≠ a → H' b = some o) → D.nx σ' H') :
    (fun D σ H => tSupX i C (tCons (tVar 1) (tCons (tVar 2) tNil)) { D with nx := fun σ H => tXst K C f (tVar 0) (tVar 1) { D with nx := tXst K C g (tVar 0) (tVar 2) D } σ H } σ H : TS) D (L2.start N (.ref a :: ws)) H := by
  match ws, hl with
  | [y, z], _ =>
  have s0 : (L2.start N (.ref a :: [y, z]))[(0 : Nat)]? = some (some (.ref a)) := rfl
  have s1 : (L2.start N (.ref a :: [y, z]))[(1 : Nat)]? = some (some y) := rfl
  have s2 : (L2.start N (.ref a :: [y, z]))[(2 : Nat)]? = some (some z) := rfl
  refine ⟨a, s0, ha, fun u hu => ⟨y, s1, z, s2, ?_⟩⟩
  have nua : a ≠ u := ne_of_none ha hu
  refine ⟨by simp, by rw [upd_ne nua]; exact ha, upd_same, y, s1, .ref a, s0, a, rfl, hf, .inl ⟨by rw [upd_ne nua]; exact ha, fun dx hd hda => ?_⟩⟩
  have hdu : dx ≠ u := fun z => by
    rw [z, upd_same] at hd
    cases hd
  rw [upd_ne hdu] at hd
  refine ⟨z, s2, .ref a, s0, a, rfl, hg, .inr ⟨dx, [(f, y)], upd_same, by rw [upd_ne hda, upd_same], by simp, ?_⟩⟩
  refine q _ _ dx (by rw [upd_ne (Ne.symm hda), upd_same]) (by rw [upd_same]; rfl) hd fun b o e n => ?_
  rw [upd_ne (ne_of_none e hd), upd_ne n, upd_ne (ne_of_none e hd), upd_ne (ne_of_none e hu)]
  exact e
end Sm

/-! S58: raise X(..). -/
namespace Sm
open PySem PySem.Spec PyProof.Rows L2
/-- X(e, ..), its __init__ keeping sp -/
def tMkX (C : Addr) (sp : Sp) (ta : TA) : L2.St → Hp → XK → Prop := fun σ H Q => ta σ H fun vs H1 => vs.length ≤ 1000 ∧ ∀ a, H1 a = none → sp (.ref a :: vs) (upd H1 a (exo a C none))
  (fun v H2 => v = .non ∧ ∃ (d : Addr) (fs : List (Str × V)), H2 a = some (exo a C (some d)) ∧ H2 d = some (exd d fs) ∧ H1 d = none ∧ Q (.ref C) (some d) (upd (del H2 a) d (.xd fs))) (fun _ _ _ => False)
section
variable {X : Cx} {e : Expr} {es : List Expr} {ta : TA} {p pos : Pos} {Bn newId initId : String} {tail : List Value}
theorem pmk_x {CXx : CXT} {x : Str} {C fI : Addr} {k : Nat} {fd : FuncData} {ps : List Str} {sp : Sp} (T : XCl X.K C Bn newId initId tail) (iC : PySem.W.findIn X.K (.ref C) "__init__" = some (some (.ref fI))) (tI : PySem.W.typeIn X.K (.ref fI) = some (.type "function"))
    (F1 : FnOk X.prog X.w X.K X.mg X.base CXx k fI fd ps sp) (hr : Room (k + 1) X.A) (hb : Binds X.K fd ps []) (hx : Passes CXx X (fun _ _ _ => False)) (hg : Gl X x) (hm : X.mg x = some (.ref C)) (ha : PA X (e :: es) ta)
    (hdb : (x == ("__debug__" : Str)) = false := by decide) (he : starEach (e :: es) X.env = (false, eval e X.env) :: starEach es X.env := by rfl) (hpl : (backTo pos (starEach es X.env)).any (·.1) = false := by rfl) :
    PMk X (.Call (.Name x p) (e :: es) [] pos) (tMkX C sp ta) := by
  intro pins s σ H Q I h
  refine wpAny_Call_Name_kw (ld_glob I hg hm ?_ hdb)
  refine PySem.W.callWith_K (h₀ := X.base) I.ok.mod.kin T.kC (thn (ha.run pos pins s σ H _ I h) fun us s1 ⟨vs, H1, I1, r1, hz, q1⟩ => ⟨I1.kIn, ?_⟩) he hpl
  show wpAny _ _ (call (.ref C) us) _ _ _
  obtain ⟨nm, N, q, bs, bm, hdct, sn, sub, ab, col, dd, k0, k1, k2, k3, k5, hC, hT⟩ := PySem.W.excInit_of I1.kIn T.ini
  obtain ⟨hp, g, dr, tk, os⟩ := s1
  have hsz : hp.objs.size ≤ hp.objs.size + 1 := Nat.le_succ _
  have hn : H1 (hp.objs.size + 1) = none := I1.hok.fresh hsz
  have hq := q1 (hp.objs.size + 1) hn
  have kk : ∀ b o, hp.get? b = some o → ((hp.push (PySem.W.kdv_tup us)).push (PySem.HandSPX.excO C hp.objs.size)).get? b = some o := fun b o e => Heap.get?_push_of_some _ (Heap.get?_push_of_some _ e)
  have hget : ((hp.push (PySem.W.kdv_tup us)).push (PySem.HandSPX.excO C hp.objs.size)).get? (hp.objs.size + 1) = some (PySem.HandSPX.excO C hp.objs.size) := by heap_get
  have I2 : Inv X pins σ (upd H1 (hp.objs.size + 1) (exo (hp.objs.size + 1) C none)) ⟨(hp.push (PySem.W.kdv_tup us)).push (PySem.HandSPX.excO C hp.objs.size), g, dr, tk, os⟩ :=
    I1.laid (t' := tk) (a := hp.objs.size + 1) (o := exo (hp.objs.size + 1) C none) (h' := (hp.push (PySem.W.kdv_tup us)).push (PySem.HandSPX.excO C hp.objs.size)) kk hsz (exo_ok hget)
  have r2 : Vals (V.ref (hp.objs.size + 1) :: vs) (Value.ref (hp.objs.size + 1) :: us) := .cons rfl r1
  have hl : (Value.ref (hp.objs.size + 1) :: us ++ []).length = ps.length := by
    have e := r2.length
    rw [F1.len _ _ _ _ hq] at e
    rw [List.append_nil]
    exact e.symm
  have hus : us.length ≤ sizeLine := by
    rw [← Paired.length r1, sizeLine_eq]
    omega
  have bt := hb _ (Value.ref (hp.objs.size + 1) :: us) I2.kIn hl
  rw [List.append_nil] at bt
  refine wpAny_call (PySem.HandSPX.call_own T.fb hT hC (PySem.W.looks_findIn I1.kIn iC) (fun self => PySem.W.bind_fn I1.kIn self tI) hus
    (codeAny_mono (F1.run _ X.stack _ _ ⟨Value.ref (hp.objs.size + 1) :: us, []⟩ (Value.ref (hp.objs.size + 1) :: us) _ _ (fun _ _ _ => False) (hr.make C us []) (I2.env0.make C us []) bt r2 hq) fun r s' hq' => ?_))
  cases r with
  | error er => exact hx pins σ _ _ er s' I2 hq'
  | ok fl =>
    cases fl with
    | ret u =>
      obtain ⟨v, H2, os2, bare2, un2, hok2, rv, ev, d, fs, ea, ed, hd1, q2⟩ := hq'
      subst ev
      obtain ⟨h2, g2, d2, t2, os'⟩ := s'
      exact ⟨rv, mk_end (raises_own T.exC T.tyC) I1 hsz kk un2 hok2 os2 bare2 ea ed hd1 q2⟩
    | next => exact False.elim hq'
    | brk => exact False.elim hq'
    | cont => exact False.elim hq'
end
end Sm

/-! S59: x_raise. -/
namespace Sm
open PySem PySem.Spec PyProof.Rows L2
def sRaise (C : Str) (fs : List Str) (g : Fas) : Fs := fun τ m => exS (g τ m) τ fun ws m' => if ws.length = fs.length then .ok (.ex ⟨C, fs.reverse, ws.reverse⟩ τ) m' else .bad
/-- the ways to hand over the fields fs: how many by place, the names of the others, the order -/
def kbs : List Str → List (Nat × List Str × List Nat)
  | [a] => [(0, [a], [0]), (1, [], [0])]
  | [a, b] => [(0, [a, b], [0, 1]), (0, [b, a], [1, 0]), (2, [], [0, 1])]
  | _ => []
def Kbs (K : PySem.W.Frag) (fd : FuncData) (ps fs : List Str) : Prop := ∀ p ∈ kbs fs, KB K fd ps (p.1 + 1) p.2.1 (0 :: p.2.2.map (· + 1)) []
theorem kbs1 {K : PySem.W.Frag} {fd : FuncData} {ps : List Str} {a : Str} (h1 : KB K fd ps 1 [a] [0, 1] []) (h2 : KB K fd ps 2 [] [0, 1] []) : Kbs K fd ps [a] := fun p hp => by
  rcases List.mem_cons.mp hp with rfl | hp
  · exact h1
  · rcases List.mem_cons.mp hp with rfl | hp
    · exact h2
    · cases hp
theorem kbs2 {K : PySem.W.Frag} {fd : FuncData} {ps : List Str} {a b : Str} (h1 : KB K fd ps 1 [a, b] [0, 1, 2] []) (h2 : KB K fd ps 1 [b, a] [0, 2, 1] []) (h3 : KB K fd ps 3 [] [0, 1, 2] []) : Kbs K fd ps [a, b] := fun p hp => by
  rcases List.mem_cons.mp hp with rfl | hp
  · exact h1
  · rcases List.mem_cons.mp hp with rfl | hp
    · exact h2
    · rcases List.mem_cons.mp hp with rfl | hp
      · exact h3
      · cases hp
/-- the exception class C: its __init__ keeps its arguments as the fields fs -/
structure CalX (P : Program) (w : World) (K : PySem.W.Frag) (mg : Str → Option Value) (base : Heap) (cl : Str → Addr) (k : Nat) (C : Str) (fs : List Str) : Prop where
  ex : ∃ f fd ps Bn newId initId tail, XCl K (cl C) Bn newId initId tail ∧ FnOk P w K mg base (CX P w) k f fd ps (spX (cl C) fs) ∧ mg C = some (.ref (cl C)) ∧ PySem.W.findIn K (.ref (cl C)) "__init__" = some (some (.ref f)) ∧ PySem.W.typeIn K (.ref f) = some (.type "function") ∧ Binds K fd ps [] ∧ Kbs K fd ps fs
  len : fs.length ≤ 1000
theorem zip1 {α β : Type} : ∀ {l : List α} {r : List β}, r.length = l.length → (l.zip r).map (·.1) = l ∧ (l.zip r).map (·.2) = r
  | [], [], _ => ⟨rfl, rfl⟩
  | x :: l, y :: r, h => by
    obtain ⟨h1, h2⟩ := zip1 (l := l) (r := r) (by simpa using h)
    exact ⟨by rw [List.zip_cons_cons, List.map_cons, h1], by rw [List.zip_cons_cons, List.map_cons, h2]⟩
  | [], _ :: _, h => by simp at h
  | _ :: _, [], h => by simp at h
section
variable {cl : Str → Addr} {X : Cx} {Wx : WX} {B : Bs} {k : Nat} {C : Str} {fs : List Str} {e : Expr} {es : List Expr} {g : Fas} {p pos pos' : Pos}
theorem x_raise (hX : Ctx X Wx (k + 1)) (c : CalX X.prog X.w X.K X.mg X.base cl k C fs) (hp : Passes (CX X.prog X.w) X (fun _ _ _ => False)) (ha : SA ⟨X.K, cl⟩ X Wx (e :: es) g) (hg : Gl X C := by rfl)
    (hdb : (C == ("__debug__" : Str)) = false := by decide) (he : starEach (e :: es) X.env = (false, eval e X.env) :: starEach es X.env := by rfl) (hpl : (backTo pos (starEach es X.env)).any (·.1) = false := by rfl) :
    SX ⟨X.K, cl⟩ X Wx B (.Raise (some (.Call (.Name C p) (e :: es) [] pos)) none pos') (sRaise C fs g) := by
  obtain ⟨f, fd, ps, Bn, newId, initId, tail, T, F1, hm, iC, tI, hb, _⟩ := c.ex
  refine PS.weak (ps_raise hX.calm hX.tk (pmk_x T iC tI F1 hX.hr hb hp hg hm ha hdb he hpl)) fun D σ H ⟨F, ρ, m, τ, fr, q⟩ => ?_
  refine useA fr q fun ws m1 vs F1 ρ1 H1 fr1 rws q1 => ?_
  split at q1
  rotate_left
  · exact q1.elim
  rename_i hlen
  have hvl : vs.length = fs.length := by rw [rws.length]; exact hlen
  refine ⟨by rw [hvl]; exact c.len, fun a na => ⟨by rw [List.length_cons, hvl], a, vs, rfl, upd_same, fun H' d h1 h2 h3 h4 => ⟨rfl, d, _, h1, h2, ?_, ?_⟩⟩⟩
  · have nda : d ≠ a := fun z => by
      rw [z, upd_same] at h3
      cases h3
    rw [upd_ne nda] at h3
    exact h3
  · have nda : d ≠ a := fun z => by
      rw [z, upd_same] at h3
      cases h3
    rw [upd_ne nda] at h3
    have kp : ∀ b o, H1 b = some o → upd (del H' a) d (.xd (fs.zip vs).reverse) b = some o := fun b o eb => by
      have n1 : b ≠ a := ne_of_none eb na
      rw [upd_ne (ne_of_none eb h3), del_ne n1]
      exact h4 b o (by rw [upd_ne n1]; exact eb) n1
    have r2 : R ⟨X.K, cl⟩ F1 ρ1 m1 (upd (del H' a) d (.xd (fs.zip vs).reverse)) := ⟨fun b o eb => kp b o (fr1.r.sub b o eb), fr1.r.len, fr1.r.nd, fr1.r.off, fun i b o e1 e2 => by
      obtain ⟨h, e3, e4⟩ := fr1.r.at_ i b o e1 e2
      exact ⟨h, kp b h e3, e4⟩⟩
    have g2 : Go F1 ρ1 H1 F1 ρ1 (upd (del H' a) d (.xd (fs.zip vs).reverse)) := ⟨Same.refl _, .refl _, fun b o eb _ => kp b o eb, fun b o eb n => ⟨n, fun z => z⟩⟩
    have nbd : B.H d = none := by
      cases eb : B.H d with
      | none => rfl
      | some o =>
        by_cases hr : d ∈ B.ρ
        · obtain ⟨i, hi⟩ := List.getElem?_of_mem hr
          exact absurd (List.mem_of_getElem? (fr1.g.pre i d hi)) (fr1.r.notin h3)
        · have := fr1.g.keep d o eb hr
          rw [h3] at this
          cases this
    obtain ⟨z1, z2⟩ := zip1 (l := fs) (r := vs) hvl
    exact q1 _ _ σ F1 ρ1 _ (fr1.go r2 g2) ⟨rfl, .inr ⟨d, _, rfl, upd_same, by rw [List.map_reverse, z1], by rw [List.map_reverse, z2]; exact rws.reverse, fr1.r.notin h3, nbd⟩⟩
end
end Sm

/-! S60: the facts of an exception's class from a Bool. -/
namespace Sm
open PySem PySem.Spec PyProof.Rows L2
/-- the built-in classes over which the program's own stand -/
inductive XBn where
  | ve | ie | le
def XBn.nm : XBn → String
  | .ve => "ValueError"
  | .ie => "IndexError"
  | .le => "LookupError"
def XBn.nw : XBn → String
  | .ve => "ValueError.__new__"
  | .ie => "IndexError.__new__"
  | .le => "LookupError.__new__"
def XBn.it : XBn → String
  | .ve => "ValueError.__init__"
  | .ie => "IndexError.__init__"
  | .le => "LookupError.__init__"
def XBn.tl : XBn → List Value
  | .ve => [.type "ValueError", .type "Exception", .type "BaseException", .type "object"]
  | .ie => [.type "IndexError", .type "LookupError", .type "Exception", .type "BaseException", .type "object"]
  | .le => [.type "LookupError", .type "Exception", .type "BaseException", .type "object"]
def xclB (K : PySem.W.Frag) (C : Addr) (b : XBn) : Bool := PySem.W.excInitIn K C b.tl b.nw && (PySem.W.excOver K C b.tl && (PySem.W.hasDictIn K C && (decide (PySem.W.findIn K (.ref C) "__setattr__" = some (some (.builtin "object.__setattr__"))) &&
  (decide (PySem.W.subIn K (.ref C) (.type "BaseException") = some true) && (decide (PySem.W.typeIn K (.ref C) = some (.type "type")) && (PySem.W.keepIn K (.ref C) && (decide (PySem.W.subIn K (.ref C) (.type b.nm) = some true) && decide (PySem.W.nsIn K cStatics "thirdparty.any" = some none))))))))
theorem xcl_of {K : PySem.W.Frag} {C : Addr} {b : XBn} (h : xclB K C b = true) : XCl K C b.nm b.nw b.it b.tl := by
  obtain ⟨h1, h⟩ := Bool.and_eq_true_iff.mp h
  obtain ⟨h2, h⟩ := Bool.and_eq_true_iff.mp h
  obtain ⟨h3, h⟩ := Bool.and_eq_true_iff.mp h
  obtain ⟨h4, h⟩ := Bool.and_eq_true_iff.mp h
  obtain ⟨h5, h⟩ := Bool.and_eq_true_iff.mp h
  obtain ⟨h6, h⟩ := Bool.and_eq_true_iff.mp h
  obtain ⟨h7, h⟩ := Bool.and_eq_true_iff.mp h
  obtain ⟨h8, h9⟩ := Bool.and_eq_true_iff.mp h
  cases b with
  | ve => exact ⟨F.excBase_ValueError, F.store_ValueError, PySem.W.kxs_ValueError, h1, h2, h3, of_decide_eq_true h4, of_decide_eq_true h5, of_decide_eq_true h6, h7, of_decide_eq_true h8, of_decide_eq_true h9⟩
  | ie => exact ⟨F.excBase_IndexError, F.store_IndexError, PySem.W.kxs_IndexError, h1, h2, h3, of_decide_eq_true h4, of_decide_eq_true h5, of_decide_eq_true h6, h7, of_decide_eq_true h8, of_decide_eq_true h9⟩
  | le => exact ⟨F.excBase_LookupError, F.store_LookupError, PySem.W.kxs_LookupError, h1, h2, h3, of_decide_eq_true h4, of_decide_eq_true h5, of_decide_eq_true h6, h7, of_decide_eq_true h8, of_decide_eq_true h9⟩
end Sm

/-! S61: the tables of exceptions; short forms of the rules. -/
namespace Sm
open PySem PySem.Spec PyProof.Rows L2
structure Xt where
  cal : List (Str × XBn × List Str)
  cls : List Str
  xa : Xas
  xc : List Str
  kt : Kt
  xm : List ((Str × Str) × Bool)
structure HyX (P : Program) (w : World) (K : PySem.W.Frag) (mg : Str → Option Value) (base : Heap) (cl : Str → Addr) (t : Xt) : Prop where
  cal : ∀ p ∈ t.cal, ∀ j, CalX P w K mg base cl (j + 1) p.1 p.2.2
  cls : ∀ C ∈ t.cls, mg C = some (.ref (cl C))
  xa : XaOk K cl t.xa
  xc : XcOk K cl t.xc
  kt : KtOk K cl t.kt
  xm : ∀ p ∈ t.xm, PySem.W.exmOne K (.ref (cl p.1.1)) (.ref (cl p.1.2)) = some p.2
def xmT (t : List ((Str × Str) × Bool)) (x : Str) : Str → Option Bool := fun C => (t.find? fun p => decide (p.1 = (C, x))).map (·.2)
theorem xmT_ok {K : PySem.W.Frag} {cl : Str → Addr} {t : List ((Str × Str) × Bool)} {x C : Str} {b : Bool} (h : ∀ p ∈ t, PySem.W.exmOne K (.ref (cl p.1.1)) (.ref (cl p.1.2)) = some p.2) (e : xmT t x C = some b) : PySem.W.exmOne K (.ref (cl C)) (.ref (cl x)) = some b := by
  unfold xmT at e
  cases q : t.find? fun p => decide (p.1 = (C, x)) with
  | none =>
    rw [q] at e
    cases e
  | some p =>
    rw [q] at e
    cases e
    have h1 := h p (List.mem_of_find?_eq_some q)
    have h2 := List.find?_some q
    have h3 : p.1 = (C, x) := by simpa using h2
    rw [h3] at h1
    exact h1
section
variable {cl : Str → Addr} {t : Xt} {X : Cx} {Wx : WX} {B : Bs} {k : Nat} {e e2 : Expr} {es : List Expr} {f f2 : Fe} {g : Fas} {p pos pos' np : Pos} {x n : Str}
theorem x_raiseH (h : Ctx X Wx (k + 3)) (hE : HyX X.prog X.w X.K X.mg X.base cl t) (i : Nat) {C : Str} {b : XBn} {fs : List Str} (ha : SA ⟨X.K, cl⟩ X Wx (e :: es) g) (ei : t.cal[i]? = some (C, b, fs) := by rfl) (hg : Gl X C := by rfl)
    (hdb : (C == ("__debug__" : Str)) = false := by decide) (he : starEach (e :: es) X.env = (false, eval e X.env) :: starEach es X.env := by rfl) (hpl : (backTo pos (starEach es X.env)).any (·.1) = false := by rfl) :
    SX ⟨X.K, cl⟩ X Wx B (.Raise (some (.Call (.Name C p) (e :: es) [] pos)) none pos') (sRaise C fs g) :=
  x_raise h (hE.cal _ (List.mem_of_getElem? ei) (k + 1)) (passes_call h.tk fun _ _ _ _ z => z.elim) ha hg hdb he hpl
theorem x_tryH {i : Nat} {body suite : List Stmt} {b₀ : Stmt} {f g : Fs} (h : Ctx X Wx k) (hE : HyX X.prog X.w X.K X.mg X.base cl t) (ic : Nat)
    (hb : ∀ (Wx' : WX) (pn : List (Addr × Obj)) (xe : Value → Shared → Prop), Ctx (X.tr pn xe) Wx' k → SXs ⟨X.K, cl⟩ (X.tr pn xe) Wx' B body f)
    (hsu : ∀ (a : Addr) (pn : List (Addr × Obj)), SXs ⟨X.K, cl⟩ (X.suite a pn) (fun _ _ _ _ => False) B (b₀ :: suite) g)
    (ec : t.cls[ic]? = some x := by rfl) (hs : X.stack = X.env :: X.outer := by rfl) (hf : X.env.frame = some X.env.locals := by rfl) (hi : X.N[i]? = some n := by rfl) (hln : X.env.kindOf n = some .local := by rfl) (hg : Gl X x := by rfl) (hdb : (x == ("__debug__" : Str)) = false := by decide) :
    SX ⟨X.K, cl⟩ X Wx B (.Try body [.ExceptHandler (some (.Name x np)) (some n) (b₀ :: suite) pos'] [] [] pos) (sTry i (xmT t.xm x) f g) :=
  x_try h hs hf hi hln ⟨hg, hdb, .inl (hE.cls _ (List.mem_of_getElem? ec))⟩ (fun C b e => xmT_ok hE.xm e) hb hsu
theorem s_clX {P : Program} {w : World} {base : Heap} (hE : HyX P w X.K X.mg base cl t) (i : Nat) (e : t.cls[i]? = some x := by rfl) (hg : Gl X x := by rfl) (hd : (x == ("__debug__" : Str)) = false := by decide) : SE ⟨X.K, cl⟩ X Wx (.Name x pos) (eC (.cls x)) := s_cls (hE.cls _ (List.mem_of_getElem? e)) hg hd
theorem s_isxH {P : Program} {w : World} {base : Heap} {t0 : Tb} (h : Fx X.K X.mg cl t0) (hE : HyX P w X.K X.mg base cl t) (i : Nat) (ha : SR ⟨X.K, cl⟩ X Wx e f) (hb : SR ⟨X.K, cl⟩ X Wx e2 f2) (eb : t0.bl[i]? = some ("isinstance" : Str) := by rfl) (hg : Gl X "isinstance" := by rfl) (h1 : starEach [e, e2] X.env = (false, eval e X.env) :: starEach [e2] X.env := by rfl) (h2 : starEach [e2] X.env = (false, eval e2 X.env) :: starEach [] X.env := by rfl) (hpl : (backTo pos (starEach [e2] X.env)).any (·.1) = false := by rfl) :
    SE ⟨X.K, cl⟩ X Wx (.Call (.Name "isinstance" p) [e, e2] [] pos) (eBlt (isxW t.xc t.kt) (aCons f (aCons f2 aNil))) := s_blt (c_isx hE.xc hE.kt) (ar_cons ha (ar_cons hb ar_nil h2) h1) (h.nog.at i eb) (by kernel_rfl) hg (by decide) (by decide) h1 hpl
end
/-! ### from Bools -/
def xrowB (K : PySem.W.Frag) (p : Str × XBn × List Str) : Bool := xclB K (He.ga K p.1) p.2.1 && ((He.Fa.glo p.1).ok K && (He.eqO (PySem.W.findIn K (.ref (He.ga K p.1)) "__init__") (some (some (.ref (He.fAd K (p.1, some "__init__"))))) && (decide (PySem.W.typeIn K (.ref (He.fAd K (p.1, some "__init__"))) = some (.type "function")) &&
  (He.eqO (PySem.W.ks_superIn K (He.ga K p.1) (He.ga K p.1) "__init__") (some (some (.builtin p.2.1.it))) && (eqB1 (PySem.W.mroIn K (He.ga K p.1) (.ref (He.ga K p.1))) (some true) && p.2.2.all fun f => He.eqO (PySem.W.takerIn K (He.ga K p.1) f) (some none))))))
structure XRow (K : PySem.W.Frag) (mg : Str → Option Value) (C : Str) (b : XBn) (fs : List Str) : Prop where
  c : XCl K (He.ga K C) b.nm b.nw b.it b.tl
  mg : mg C = some (.ref (He.ga K C))
  i : PySem.W.findIn K (.ref (He.ga K C)) "__init__" = some (some (.ref (He.fAd K (C, some "__init__"))))
  t : PySem.W.typeIn K (.ref (He.fAd K (C, some "__init__"))) = some (.type "function")
  s : PySem.W.ks_superIn K (He.ga K C) (He.ga K C) "__init__" = some (some (.builtin b.it))
  m : PySem.W.mroIn K (He.ga K C) (.ref (He.ga K C)) = some true
  f : ∀ f ∈ fs, PySem.W.takerIn K (He.ga K C) f = some none
theorem xrow_of {K : PySem.W.Frag} {h : Heap} {mg : Str → Option Value} {C : Str} {b : XBn} {fs : List Str} (X : K.In h) (G : h.Ns mainGlobals mg) (q : xrowB K (C, b, fs) = true) : XRow K mg C b fs := by
  unfold xrowB at q
  obtain ⟨q1, q⟩ := He.ba q
  obtain ⟨q2, q⟩ := He.ba q
  obtain ⟨q3, q⟩ := He.ba q
  obtain ⟨q4, q⟩ := He.ba q
  obtain ⟨q5, q⟩ := He.ba q
  obtain ⟨q6, q7⟩ := He.ba q
  exact ⟨xcl_of q1, He.glo_ok X G q2, He.eqO_ok q3, of_decide_eq_true q4, He.eqO_ok q5, of_decide_eq_true q6, fun f hf => He.eqO_ok (List.all_eq_true.mp q7 f hf)⟩
theorem calX_of {P : Program} {w : World} {K : PySem.W.Frag} {mg : Str → Option Value} {base : Heap} {k : Nat} {C : Str} {b : XBn} {fs : List Str} {fd : FuncData} {ps : List Str} (r : XRow K mg C b fs) (F : FnOk P w K mg base (CX P w) k (He.fAd K (C, some "__init__")) fd ps (spX (He.ga K C) fs)) (hb : Binds K fd ps []) (hk : Kbs K fd ps fs) (hl : fs.length ≤ 1000 := by decide) :
    CalX P w K mg base (He.ga K) k C fs := ⟨⟨_, fd, ps, _, _, _, _, r.c, F, r.mg, r.i, r.t, hb, hk⟩, hl⟩
def XtB (K : PySem.W.Frag) (t : Xt) : Bool := (t.cal.all fun p => xrowB K p) && ((t.cls.all fun C => (He.Fa.glo C).ok K) && (xaB K (He.ga K) t.xa && ((t.xc.all fun C => excB K (He.ga K C)) && ((t.kt.all fun p => eqB1 (PySem.W.kitOne K (tyV (He.ga K) p.1.1) (tyV (He.ga K) p.1.2)) (some p.2)) && t.xm.all fun p => eqB1 (PySem.W.exmOne K (.ref (He.ga K p.1.1)) (.ref (He.ga K p.1.2))) (some p.2)))))
theorem hyx_of {P : Program} {w : World} {K : PySem.W.Frag} {h : Heap} {mg : Str → Option Value} {base : Heap} {t : Xt} (X : K.In h) (G : h.Ns mainGlobals mg) (q : XtB K t = true) (hc : ∀ p ∈ t.cal, XRow K mg p.1 p.2.1 p.2.2 → ∀ j, CalX P w K mg base (He.ga K) (j + 1) p.1 p.2.2) : HyX P w K mg base (He.ga K) t := by
  unfold XtB at q
  obtain ⟨q1, q⟩ := He.ba q
  obtain ⟨q2, q⟩ := He.ba q
  obtain ⟨q3, q⟩ := He.ba q
  obtain ⟨q4, q⟩ := He.ba q
  obtain ⟨q5, q6⟩ := He.ba q
  exact ⟨fun p hp => hc p hp (xrow_of X G (List.all_eq_true.mp q1 p hp)), fun C hC => He.glo_ok X G (List.all_eq_true.mp q2 C hC), xa_of q3, xc_of q4, fun p hp => of_decide_eq_true (List.all_eq_true.mp q5 p hp), fun p hp => of_decide_eq_true (List.all_eq_true.mp q6 p hp)⟩
end Sm

/-! S62: walking through worths (Wp): what is behind stands folded until a plain value comes. -/
namespace Sm
open PySem PySem.Spec PyProof.Rows L2

def Wp {α : Type} (r : Res α) (Q : α → Sto → Prop) (E : Ex → Sto → Prop) : Prop := match r with
  | .ok a m => Q a m
  | .exc x m => E x m
  | .bad => False
abbrev PQ (α : Type) := α → Sto → Prop
abbrev PX := Ex → Sto → Prop
theorem Wp.ok {α : Type} {a : α} {m : Sto} {Q : PQ α} {E : PX} : Wp (.ok a m) Q E = Q a m := rfl
theorem Wp.exc {α : Type} {x : Ex} {m : Sto} {Q : PQ α} {E : PX} : Wp (.exc x m) Q E = E x m := rfl
theorem Wp.mono {α : Type} {r : Res α} {Q Q' : PQ α} {E E' : PX} (h : Wp r Q E) (hq : ∀ a m, Q a m → Q' a m) (he : ∀ x m, E x m → E' x m) : Wp r Q' E' := by
  cases r with
  | ok a m => exact hq a m h
  | exc x m => exact he x m h
  | bad => exact h
theorem Wp.to {α : Type} {r : Res α} {a : α} {m : Sto} {Q : PQ α} {E : PX} (e : r = .ok a m) (h : Q a m) : Wp r Q E := by rw [e]; exact h
theorem Wp.toX {α : Type} {r : Res α} {a : Ex} {m : Sto} {Q : PQ α} {E : PX} (e : r = .exc a m) (h : E a m) : Wp r Q E := by rw [e]; exact h
theorem Wp.out {α : Type} {r : Res α} {Q : PQ α} (h : Wp r Q fun _ _ => False) : ∃ a m, r = .ok a m ∧ Q a m := by
  cases r with
  | ok a m => exact ⟨a, m, rfl, h⟩
  | exc x m => exact h.elim
  | bad => exact h.elim

section
variable {α β : Type} {τ : SS} {m : Sto} {E : PX}
/-! ### plain answers -/
def wO (o : Option W) (Q : PQ W) (m : Sto) : Prop := match o with
  | some w => Q w m
  | none => False
theorem wO_some {w : W} {Q : PQ W} : wO (some w) Q m = Q w m := rfl
theorem Wp.lift {o : Option W} {Q : PQ W} : Wp (lift o m) Q E = wO o Q m := by cases o <;> rfl
def vO (o : Option Sl) (Q : PQ W) (m : Sto) : Prop := match o with
  | some (.val w) => Q w m
  | _ => False
theorem vO_val {w : W} {Q : PQ W} : vO (some (.val w)) Q m = Q w m := rfl
def rO (o : Option Sl) (Q : PQ W) (m : Sto) : Prop := match o with
  | some (.val w) => Q w m
  | some (.own o) => Q (toW o) m
  | _ => False
theorem rO_val {w : W} {Q : PQ W} : rO (some (.val w)) Q m = Q w m := rfl
theorem rO_own {o : MO} {Q : PQ W} : rO (some (.own o)) Q m = Q (toW o) m := rfl
theorem Wp.eVar {i : Nat} {Q : PQ W} : Wp (eVar i τ m) Q E = vO τ[i]? Q m := by
  unfold Sm.eVar vO
  rcases τ[i]? with _ | _ | _ | _ <;> rfl
theorem Wp.rVar {i : Nat} {Q : PQ W} : Wp (rVar i τ m) Q E = rO τ[i]? Q m := by
  unfold Sm.rVar rO
  rcases τ[i]? with _ | _ | _ | _ <;> rfl
theorem Wp.eC {w : W} {Q : PQ W} : Wp (eC w τ m) Q E = Q w m := rfl
theorem Wp.ret {a : α} {Q : PQ α} : Wp (ret a m) Q E = Q a m := rfl
theorem Wp.bnd {x : M α} {f : α → M β} {Q : PQ β} : Wp (bnd x f m) Q E = Wp (x m) (fun a m => Wp (f a m) Q E) E := by
  unfold Sm.bnd
  cases x m <;> rfl
theorem Wp.exS {r : Res α} {k : α → Sto → Res Out} {Q : PQ Out} : Wp (exS r τ k) Q E = Wp r (fun a m => Wp (k a m) Q E) fun x m => Q (.ex x τ) m := by
  cases r <;> rfl

/-! ### operators -/
def k2b (g : W → W → Sto → Option W) (x : W) (Q : PQ W) : PQ W := fun y m => wO (g x y m) Q m
theorem k2b_ap {g : W → W → Sto → Option W} {x y : W} {Q : PQ W} : k2b g x Q y m = wO (g x y m) Q m := rfl
def k2a (g : W → W → Sto → Option W) (fb : Fe) (τ : SS) (Q : PQ W) (E : PX) : PQ W := fun x m => Wp (fb τ m) (k2b g x Q) E
theorem k2a_ap {g : W → W → Sto → Option W} {fb : Fe} {x : W} {Q : PQ W} : k2a g fb τ Q E x m = Wp (fb τ m) (k2b g x Q) E := rfl
theorem Wp.op2 {g : W → W → Sto → Option W} {fa fb : Fe} {Q : PQ W} : Wp (op2 g fa fb τ m) Q E = Wp (fa τ m) (k2a g fb τ Q E) E := by
  unfold Sm.op2
  rw [Wp.bnd]
  simp only [Wp.bnd, Wp.lift]
  rfl
def k1 (g : W → Sto → Option W) (Q : PQ W) : PQ W := fun x m => wO (g x m) Q m
theorem k1_ap {g : W → Sto → Option W} {x : W} {Q : PQ W} : k1 g Q x m = wO (g x m) Q m := rfl
theorem Wp.op1 {g : W → Sto → Option W} {fa : Fe} {Q : PQ W} : Wp (op1 g fa τ m) Q E = Wp (fa τ m) (k1 g Q) E := by
  unfold Sm.op1
  simp only [Wp.bnd, Wp.lift]
  rfl
/-! ### lists of arguments -/
theorem Wp.aNil {Q : PQ (List W)} : Wp (aNil τ m) Q E = Q [] m := rfl
def kCb (w : W) (Q : PQ (List W)) : PQ (List W) := fun ws m => Q (w :: ws) m
theorem kCb_ap {w : W} {ws : List W} {Q : PQ (List W)} : kCb w Q ws m = Q (w :: ws) m := rfl
def kCa (g : Fas) (τ : SS) (Q : PQ (List W)) (E : PX) : PQ W := fun w m => Wp (g τ m) (kCb w Q) E
theorem kCa_ap {g : Fas} {w : W} {Q : PQ (List W)} : kCa g τ Q E w m = Wp (g τ m) (kCb w Q) E := rfl
theorem Wp.aCons {f : Fe} {g : Fas} {Q : PQ (List W)} : Wp (aCons f g τ m) Q E = Wp (f τ m) (kCa g τ Q E) E := by
  unfold Sm.aCons
  simp only [Wp.bnd]
  rfl
def sqO (o : Option (List W)) (Q : PQ (List W)) (m : Sto) : Prop := match o with
  | some w => Q w m
  | none => False
theorem sqO_some {w : List W} {Q : PQ (List W)} : sqO (some w) Q m = Q w m := rfl
def kAp (xs : List W) (Q : PQ (List W)) : PQ (List W) := fun ws m => Q (xs ++ ws) m
theorem kAp_ap {xs ws : List W} {Q : PQ (List W)} : kAp xs Q ws m = Q (xs ++ ws) m := rfl
def kSta (g : Fas) (τ : SS) (Q : PQ (List W)) (E : PX) : PQ (List W) := fun xs m => Wp (g τ m) (kAp xs Q) E
theorem kSta_ap {g : Fas} {xs : List W} {Q : PQ (List W)} : kSta g τ Q E xs m = Wp (g τ m) (kAp xs Q) E := rfl
def kStb (g : Fas) (τ : SS) (Q : PQ (List W)) (E : PX) : PQ W := fun w m => sqO (seqW w m) (kSta g τ Q E) m
theorem kStb_ap {g : Fas} {w : W} {Q : PQ (List W)} : kStb g τ Q E w m = sqO (seqW w m) (kSta g τ Q E) m := rfl
theorem Wp.aStar {f : Fe} {g : Fas} {Q : PQ (List W)} : Wp (aStar f g τ m) Q E = Wp (f τ m) (kStb g τ Q E) E := by
  unfold Sm.aStar
  simp only [Wp.bnd]
  congr 1
  funext w m'
  unfold kStb sqO
  rcases seqW w m' with _ | xs
  · rfl
  · dsimp only
    rw [Wp.bnd]
    rfl
def kSz (f : List W → W) (Q : PQ W) : PQ (List W) := fun ws m => ws.length ≤ 16777216 ∧ Q (f ws) m
theorem kSz_ap {f : List W → W} {ws : List W} {Q : PQ W} : kSz f Q ws m = (ws.length ≤ 16777216 ∧ Q (f ws) m) := rfl
theorem Wp.eTup {g : Fas} {Q : PQ W} : Wp (eTup g τ m) Q E = Wp (g τ m) (kSz .tup Q) E := by
  unfold Sm.eTup
  simp only [Wp.bnd]
  congr 1
  funext ws m'
  unfold kSz
  by_cases h : ws.length ≤ sizeLine
  · rw [if_pos h]
    exact propext ⟨fun z => ⟨h, z⟩, fun z => z.2⟩
  · rw [if_neg h]
    exact propext ⟨fun z => z.elim, fun z => h z.1⟩
def kL (Q : PQ W) : PQ (List W) := fun ws m => Q (.lst ws) m
theorem kL_ap {ws : List W} {Q : PQ W} : kL Q ws m = Q (.lst ws) m := rfl
theorem Wp.eL {g : Fas} {Q : PQ W} : Wp (eL g τ m) Q E = Wp (g τ m) (kL Q) E := by
  unfold Sm.eL
  simp only [Wp.bnd]
  rfl
def kSl (Q : PQ (List W)) : PQ (List W) := fun ws m => ws.length ≤ 16777216 ∧ Q ws m
theorem kSl_ap {ws : List W} {Q : PQ (List W)} : kSl Q ws m = (ws.length ≤ 16777216 ∧ Q ws m) := rfl
theorem Wp.nLst {g : Fas} {Q : PQ (List W)} : Wp (nLst g τ m) Q E = Wp (g τ m) (kSl Q) E := by
  unfold Sm.nLst
  simp only [Wp.bnd]
  congr 1
  funext ws m'
  unfold kSl
  by_cases h : ws.length ≤ sizeLine
  · rw [if_pos h]
    exact propext ⟨fun z => ⟨h, z⟩, fun z => z.2⟩
  · rw [if_neg h]
    exact propext ⟨fun z => z.elim, fun z => h z.1⟩
def kPush (Q : PQ W) : PQ (List W) := fun ws m => Q (.ref m.length) (m ++ [.lst ws])
theorem kPush_ap {ws : List W} {Q : PQ W} : kPush Q ws m = Q (.ref m.length) (m ++ [.lst ws]) := rfl
theorem Wp.ePush {g : Fas} {Q : PQ W} : Wp (ePush g τ m) Q E = Wp (g τ m) (kPush Q) E := by
  unfold Sm.ePush
  simp only [Wp.bnd]
  rfl
def kBlt (h : List W → Sto → Option W) (Q : PQ W) : PQ (List W) := fun ws m => wO (h ws m) Q m
theorem kBlt_ap {h : List W → Sto → Option W} {ws : List W} {Q : PQ W} : kBlt h Q ws m = wO (h ws m) Q m := rfl
theorem Wp.eBlt {h : List W → Sto → Option W} {g : Fas} {Q : PQ W} : Wp (eBlt h g τ m) Q E = Wp (g τ m) (kBlt h Q) E := by
  unfold Sm.eBlt
  simp only [Wp.bnd, Wp.lift]
  rfl
/-! ### calls -/
def kCall (n : Nat) (γ : List W → M W) (dws : List W) (Q : PQ W) (E : PX) : PQ (List W) := fun ws m => if (ws ++ dws).length = n then Wp (γ (ws ++ dws) m) Q E else False
theorem kCall_ap {n : Nat} {γ : List W → M W} {dws ws : List W} {Q : PQ W} (h : (ws ++ dws).length = n) : kCall n γ dws Q E ws m = Wp (γ (ws ++ dws) m) Q E := if_pos h
theorem Wp.eCall {n : Nat} {γ : List W → M W} {dws : List W} {g : Fas} {Q : PQ W} : Wp (eCall n γ dws g τ m) Q E = Wp (g τ m) (kCall n γ dws Q E) E := by
  unfold Sm.eCall
  simp only [Wp.bnd]
  congr 1
  funext ws m'
  unfold kCall
  split <;> rfl
def kNew (C : Str) (n : Nat) (γ : MO → List W → M MO) (dws : List W) (Q : PQ W) (E : PX) : PQ (List W) := fun ws m => if (ws ++ dws).length + 1 = n then Wp (newM C γ (ws ++ dws) m) Q E else False
theorem kNew_ap {C : Str} {n : Nat} {γ : MO → List W → M MO} {dws ws : List W} {Q : PQ W} (h : (ws ++ dws).length + 1 = n) : kNew C n γ dws Q E ws m = Wp (newM C γ (ws ++ dws) m) Q E := if_pos h
theorem Wp.eNew {C : Str} {n : Nat} {γ : MO → List W → M MO} {dws : List W} {g : Fas} {Q : PQ W} : Wp (eNew C n γ dws g τ m) Q E = Wp (g τ m) (kNew C n γ dws Q E) E := by
  unfold Sm.eNew
  simp only [Wp.bnd]
  congr 1
  funext ws m'
  unfold kNew
  split <;> rfl
def kObj (Q : PQ W) : PQ MO := fun o m => if frzb o = true then Q (toW o) m else False
theorem kObj_ap {o : MO} {Q : PQ W} (h : frzb o = true) : kObj Q o m = Q (toW o) m := if_pos h
theorem Wp.newM {C : Str} {γ : MO → List W → M MO} {ws : List W} {Q : PQ W} : Wp (newM C γ ws m) Q E = Wp (γ (.ins C [] []) ws m) (kObj Q) E := by
  unfold Sm.newM
  simp only [Wp.bnd]
  congr 1
  funext o m'
  unfold kObj
  split <;> rfl
def kMb (C : Str) (n : Nat) (dws : List W) (Γ : Str → List W → M W) (x : W) (Q : PQ W) (E : PX) : PQ (List W) := fun ws m => if (x :: ws ++ dws).length = n then Wp (Γ C (x :: ws ++ dws) m) Q E else False
theorem kMb_ap {C : Str} {n : Nat} {dws ws : List W} {Γ : Str → List W → M W} {x : W} {Q : PQ W} (h : (x :: ws ++ dws).length = n) : kMb C n dws Γ x Q E ws m = Wp (Γ C (x :: ws ++ dws) m) Q E := if_pos h
def kMa (mn : Str) (T : List Str) (n : Nat) (dws : List W) (Γ : Str → List W → M W) (g : Fas) (τ : SS) (Q : PQ W) (E : PX) : PQ W := fun x m => match clsW x with
  | some C => if (T.contains C && !((attrs x).contains mn)) = true then Wp (g τ m) (kMb C n dws Γ x Q E) E else False
  | none => False
theorem kMa_ap {mn C : Str} {T : List Str} {n : Nat} {dws : List W} {Γ : Str → List W → M W} {g : Fas} {x : W} {Q : PQ W} (h1 : clsW x = some C) (h2 : (T.contains C && !((attrs x).contains mn)) = true) : kMa mn T n dws Γ g τ Q E x m = Wp (g τ m) (kMb C n dws Γ x Q E) E := by
  unfold kMa
  rw [h1]
  exact if_pos h2
theorem Wp.eMeth {mn : Str} {T : List Str} {n : Nat} {dws : List W} {Γ : Str → List W → M W} {fo : Fe} {g : Fas} {Q : PQ W} : Wp (eMeth mn T n dws Γ fo g τ m) Q E = Wp (fo τ m) (kMa mn T n dws Γ g τ Q E) E := by
  unfold Sm.eMeth
  simp only [Wp.bnd]
  congr 1
  funext x m'
  unfold kMa
  cases clsW x with
  | none => rfl
  | some C =>
    dsimp only
    split
    · rw [Wp.bnd]
      congr 1
      funext ws m2
      unfold kMb
      split <;> rfl
    · rfl
def kM2b (g : W → W → M W) (x : W) (Q : PQ W) (E : PX) : PQ W := fun y m => Wp (g x y m) Q E
theorem kM2b_ap {g : W → W → M W} {x y : W} {Q : PQ W} : kM2b g x Q E y m = Wp (g x y m) Q E := rfl
def kM2a (g : W → W → M W) (fb : Fe) (τ : SS) (Q : PQ W) (E : PX) : PQ W := fun x m => Wp (fb τ m) (kM2b g x Q E) E
theorem kM2a_ap {g : W → W → M W} {fb : Fe} {x : W} {Q : PQ W} : kM2a g fb τ Q E x m = Wp (fb τ m) (kM2b g x Q E) E := rfl
theorem Wp.e2M {g : W → W → M W} {fa fb : Fe} {Q : PQ W} : Wp (e2M g fa fb τ m) Q E = Wp (fa τ m) (kM2a g fb τ Q E) E := by
  unfold Sm.e2M
  simp only [Wp.bnd]
  rfl
def kM1 (g : W → M W) (Q : PQ W) (E : PX) : PQ W := fun x m => Wp (g x m) Q E
theorem kM1_ap {g : W → M W} {x : W} {Q : PQ W} : kM1 g Q E x m = Wp (g x m) Q E := rfl
theorem Wp.e1M {g : W → M W} {fa : Fe} {Q : PQ W} : Wp (e1M g fa τ m) Q E = Wp (fa τ m) (kM1 g Q E) E := by
  unfold Sm.e1M
  simp only [Wp.bnd]
  rfl
def kNot (Q : PQ W) : PQ W := fun w m => match w with
  | .bl b => Q (.bl (!b)) m
  | _ => False
theorem kNot_ap {b : Bool} {Q : PQ W} : kNot Q (.bl b) m = Q (.bl (!b)) m := rfl
theorem Wp.notM {T : List Str} {Γ : Str → List W → M W} {x y : W} {Q : PQ W} : Wp (notM T Γ x y m) Q E = Wp (opM T Γ x y m) (kNot Q) E := by
  unfold Sm.notM
  simp only [Wp.bnd]
  congr 1
  funext w m'
  unfold kNot
  cases w <;> rfl
/-! ### conditions, and, or -/
def kIfE (fa fb : Fe) (τ : SS) (Q : PQ W) (E : PX) : PQ Bool := fun b m => if b = true then Wp (fa τ m) Q E else Wp (fb τ m) Q E
theorem kIfE_t {fa fb : Fe} {Q : PQ W} : kIfE fa fb τ Q E true m = Wp (fa τ m) Q E := rfl
theorem kIfE_f {fa fb : Fe} {Q : PQ W} : kIfE fa fb τ Q E false m = Wp (fb τ m) Q E := rfl
theorem Wp.eIf {ft : Ft} {fa fb : Fe} {Q : PQ W} : Wp (eIf ft fa fb τ m) Q E = Wp (ft τ m) (kIfE fa fb τ Q E) E := by
  unfold Sm.eIf
  simp only [Wp.bnd]
  congr 1
  funext b m'
  cases b <;> rfl
def bO (o : Option Bool) (Q : PQ Bool) (m : Sto) : Prop := match o with
  | some w => Q w m
  | none => False
theorem bO_some {w : Bool} {Q : PQ Bool} : bO (some w) Q m = Q w m := rfl
def kTru (Q : PQ Bool) : PQ W := fun w m => bO (truW w m) Q m
theorem kTru_ap {w : W} {Q : PQ Bool} : kTru Q w m = bO (truW w m) Q m := rfl
theorem Wp.tTru {f : Fe} {Q : PQ Bool} : Wp (tTru f τ m) Q E = Wp (f τ m) (kTru Q) E := by
  unfold Sm.tTru
  simp only [Wp.bnd]
  congr 1
  funext w m'
  unfold kTru bO
  cases truW w m' <;> rfl
def kBl (Q : PQ Bool) : PQ W := fun w m => match w with
  | .bl b => Q b m
  | _ => False
theorem kBl_ap {b : Bool} {Q : PQ Bool} : kBl Q (.bl b) m = Q b m := rfl
theorem Wp.tBl {f : Fe} {Q : PQ Bool} : Wp (tBl f τ m) Q E = Wp (f τ m) (kBl Q) E := by
  unfold Sm.tBl
  simp only [Wp.bnd]
  congr 1
  funext w m'
  unfold kBl blW
  cases w <;> rfl
def kNt (Q : PQ Bool) : PQ Bool := fun b m => Q (!b) m
theorem kNt_ap {b : Bool} {Q : PQ Bool} : kNt Q b m = Q (!b) m := rfl
theorem Wp.tNt {f : Ft} {Q : PQ Bool} : Wp (tNt f τ m) Q E = Wp (f τ m) (kNt Q) E := by
  unfold Sm.tNt
  simp only [Wp.bnd]
  rfl
theorem Wp.tYes {Q : PQ Bool} : Wp (tYesM τ m) Q E = Q true m := rfl
def kAn (g : Ft) (τ : SS) (Q : PQ Bool) (E : PX) : PQ Bool := fun b m => if b = true then Wp (g τ m) Q E else Q false m
theorem kAn_t {g : Ft} {Q : PQ Bool} : kAn g τ Q E true m = Wp (g τ m) Q E := rfl
theorem kAn_f {g : Ft} {Q : PQ Bool} : kAn g τ Q E false m = Q false m := rfl
theorem Wp.tAn {f g : Ft} {Q : PQ Bool} : Wp (tAn f g τ m) Q E = Wp (f τ m) (kAn g τ Q E) E := by
  unfold Sm.tAn
  simp only [Wp.bnd]
  congr 1
  funext b m'
  cases b <;> rfl
def kOr (g : Ft) (τ : SS) (Q : PQ Bool) (E : PX) : PQ Bool := fun b m => if b = true then Q true m else Wp (g τ m) Q E
theorem kOr_t {g : Ft} {Q : PQ Bool} : kOr g τ Q E true m = Q true m := rfl
theorem kOr_f {g : Ft} {Q : PQ Bool} : kOr g τ Q E false m = Wp (g τ m) Q E := rfl
theorem Wp.tOrr {f g : Ft} {Q : PQ Bool} : Wp (tOrr f g τ m) Q E = Wp (f τ m) (kOr g τ Q E) E := by
  unfold Sm.tOrr
  simp only [Wp.bnd]
  congr 1
  funext b m'
  cases b <;> rfl
def kEAn (fb : Fe) (τ : SS) (Q : PQ W) (E : PX) (w : W) : PQ Bool := fun b m => if b = true then Wp (fb τ m) Q E else Q w m
theorem kEAn_t {fb : Fe} {w : W} {Q : PQ W} : kEAn fb τ Q E w true m = Wp (fb τ m) Q E := rfl
theorem kEAn_f {fb : Fe} {w : W} {Q : PQ W} : kEAn fb τ Q E w false m = Q w m := rfl
def kEA (fb : Fe) (τ : SS) (Q : PQ W) (E : PX) : PQ W := fun w m => bO (truW w m) (kEAn fb τ Q E w) m
theorem kEA_ap {fb : Fe} {w : W} {Q : PQ W} : kEA fb τ Q E w m = bO (truW w m) (kEAn fb τ Q E w) m := rfl
theorem Wp.eAnd {fa fb : Fe} {Q : PQ W} : Wp (eAnd fa fb τ m) Q E = Wp (fa τ m) (kEA fb τ Q E) E := by
  unfold Sm.eAnd
  simp only [Wp.bnd]
  congr 1
  funext w m'
  unfold kEA bO kEAn
  rcases truW w m' with _ | _ | _ <;> rfl
def kEOr (fb : Fe) (τ : SS) (Q : PQ W) (E : PX) (w : W) : PQ Bool := fun b m => if b = true then Q w m else Wp (fb τ m) Q E
theorem kEOr_t {fb : Fe} {w : W} {Q : PQ W} : kEOr fb τ Q E w true m = Q w m := rfl
theorem kEOr_f {fb : Fe} {w : W} {Q : PQ W} : kEOr fb τ Q E w false m = Wp (fb τ m) Q E := rfl
def kEO (fb : Fe) (τ : SS) (Q : PQ W) (E : PX) : PQ W := fun w m => bO (truW w m) (kEOr fb τ Q E w) m
theorem kEO_ap {fb : Fe} {w : W} {Q : PQ W} : kEO fb τ Q E w m = bO (truW w m) (kEOr fb τ Q E w) m := rfl
theorem Wp.eOr {fa fb : Fe} {Q : PQ W} : Wp (eOr fa fb τ m) Q E = Wp (fa τ m) (kEO fb τ Q E) E := by
  unfold Sm.eOr
  simp only [Wp.bnd]
  congr 1
  funext w m'
  unfold kEO bO kEOr
  rcases truW w m' with _ | _ | _ <;> rfl
def kNv (Q : PQ W) : PQ Bool := fun b m => Q (.bl (!b)) m
theorem kNv_ap {b : Bool} {Q : PQ W} : kNv Q b m = Q (.bl (!b)) m := rfl
def kNV (Q : PQ W) : PQ W := fun w m => bO (truW w m) (kNv Q) m
theorem kNV_ap {w : W} {Q : PQ W} : kNV Q w m = bO (truW w m) (kNv Q) m := rfl
theorem Wp.eNotV {fa : Fe} {Q : PQ W} : Wp (eNotV fa τ m) Q E = Wp (fa τ m) (kNV Q) E := by
  unfold Sm.eNotV
  simp only [Wp.bnd]
  congr 1
  funext w m'
  unfold kNV bO kNv
  rcases truW w m' with _ | _ | _ <;> rfl
def kChB (g2 : W → W → Sto → Option W) (fd : Fe) (τ : SS) (y : W) (Q : PQ W) (E : PX) : PQ W := fun w m => match w with
  | .bl k => if k = true then Wp (fd τ m) (k2b g2 y Q) E else Q (.bl false) m
  | _ => False
theorem kChB_t {g2 : W → W → Sto → Option W} {fd : Fe} {y : W} {Q : PQ W} : kChB g2 fd τ y Q E (.bl true) m = Wp (fd τ m) (k2b g2 y Q) E := rfl
theorem kChB_f {g2 : W → W → Sto → Option W} {fd : Fe} {y : W} {Q : PQ W} : kChB g2 fd τ y Q E (.bl false) m = Q (.bl false) m := rfl
def kChA (g1 g2 : W → W → Sto → Option W) (fd : Fe) (τ : SS) (x : W) (Q : PQ W) (E : PX) : PQ W := fun y m => wO (g1 x y m) (kChB g2 fd τ y Q E) m
theorem kChA_ap {g1 g2 : W → W → Sto → Option W} {fd : Fe} {x y : W} {Q : PQ W} : kChA g1 g2 fd τ x Q E y m = wO (g1 x y m) (kChB g2 fd τ y Q E) m := rfl
def kCh (g1 g2 : W → W → Sto → Option W) (fb fd : Fe) (τ : SS) (Q : PQ W) (E : PX) : PQ W := fun x m => Wp (fb τ m) (kChA g1 g2 fd τ x Q E) E
theorem kCh_ap {g1 g2 : W → W → Sto → Option W} {fb fd : Fe} {x : W} {Q : PQ W} : kCh g1 g2 fb fd τ Q E x m = Wp (fb τ m) (kChA g1 g2 fd τ x Q E) E := rfl
theorem Wp.eChain {g1 g2 : W → W → Sto → Option W} {fa fb fd : Fe} {Q : PQ W} : Wp (eChain g1 g2 fa fb fd τ m) Q E = Wp (fa τ m) (kCh g1 g2 fb fd τ Q E) E := by
  unfold Sm.eChain
  simp only [Wp.bnd]
  congr 1
  funext x m1
  unfold kCh
  congr 1
  funext y m2
  unfold kChA wO
  cases g1 x y m2 with
  | none => rfl
  | some w =>
    cases w with
    | bl k =>
      cases k
      · rfl
      · dsimp only
        rw [if_pos rfl, Wp.bnd]
        simp only [Wp.lift]
        rfl
    | _ => rfl
/-! ### slices, texts -/
theorem Wp.oNone {Q : PQ (Option Int)} : Wp (oNone τ m) Q E = Q none m := rfl
def kO (Q : PQ (Option Int)) : PQ W := fun w m => match w with
  | .int i => Q (some i) m
  | _ => False
theorem kO_ap {i : Int} {Q : PQ (Option Int)} : kO Q (.int i) m = Q (some i) m := rfl
theorem Wp.oSome {f : Fe} {Q : PQ (Option Int)} : Wp (oSome f τ m) Q E = Wp (f τ m) (kO Q) E := by
  unfold Sm.oSome
  simp only [Wp.bnd]
  congr 1
  funext w m'
  cases w <;> rfl
def kSlC (w : W) (lo : Option Int) (Q : PQ W) : PQ (Option Int) := fun hi m => wO (slW w lo hi) Q m
theorem kSlC_ap {w : W} {lo hi : Option Int} {Q : PQ W} : kSlC w lo Q hi m = wO (slW w lo hi) Q m := rfl
def kSlB (fh : Fo) (τ : SS) (w : W) (Q : PQ W) (E : PX) : PQ (Option Int) := fun lo m => Wp (fh τ m) (kSlC w lo Q) E
theorem kSlB_ap {fh : Fo} {w : W} {lo : Option Int} {Q : PQ W} : kSlB fh τ w Q E lo m = Wp (fh τ m) (kSlC w lo Q) E := rfl
def kSlA (fl fh : Fo) (τ : SS) (Q : PQ W) (E : PX) : PQ W := fun w m => Wp (fl τ m) (kSlB fh τ w Q E) E
theorem kSlA_ap {fl fh : Fo} {w : W} {Q : PQ W} : kSlA fl fh τ Q E w m = Wp (fl τ m) (kSlB fh τ w Q E) E := rfl
theorem Wp.eSl {f : Fe} {fl fh : Fo} {Q : PQ W} : Wp (eSl f fl fh τ m) Q E = Wp (f τ m) (kSlA fl fh τ Q E) E := by
  unfold Sm.eSl
  simp only [Wp.bnd, Wp.lift]
  rfl
def kRev (Q : PQ (List W)) : PQ W := fun w m => match w with
  | .lst xs => Q xs.reverse m
  | _ => False
theorem kRev_ap {xs : List W} {Q : PQ (List W)} : kRev Q (.lst xs) m = Q xs.reverse m := rfl
theorem Wp.nRev {f : Fe} {Q : PQ (List W)} : Wp (nRev f τ m) Q E = Wp (f τ m) (kRev Q) E := by
  unfold Sm.nRev
  simp only [Wp.bnd]
  congr 1
  funext w m'
  cases w <;> rfl
def kJs (fs : List Fe) (acc : Str) (τ : SS) (Q : PQ W) (E : PX) : PQ W := fun w m => match w with
  | .str y => (acc ++ y).length ≤ 16777216 ∧ Wp (jsW fs (acc ++ y) τ m) Q E
  | _ => False
theorem kJs_ap {fs : List Fe} {acc y : Str} {Q : PQ W} : kJs fs acc τ Q E (.str y) m = ((acc ++ y).length ≤ 16777216 ∧ Wp (jsW fs (acc ++ y) τ m) Q E) := rfl
theorem Wp.js0 {acc : Str} {Q : PQ W} : Wp (jsW [] acc τ m) Q E = Q (.str acc) m := rfl
theorem Wp.js1 {f : Fe} {fs : List Fe} {acc : Str} {Q : PQ W} : Wp (jsW (f :: fs) acc τ m) Q E = Wp (f τ m) (kJs fs acc τ Q E) E := by
  unfold Sm.jsW
  simp only [Wp.bnd]
  congr 1
  funext w m'
  cases w with
  | str y =>
    unfold kJs
    dsimp only
    by_cases h : (acc ++ y).length ≤ sizeLine
    · rw [if_pos h]
      exact propext ⟨fun z => ⟨h, z⟩, fun z => z.2⟩
    · rw [if_neg h]
      exact propext ⟨fun z => z.elim, fun z => h z.1⟩
  | _ => rfl
def kJoB (a : Str) (Q : PQ W) : PQ W := fun y m => wO (joinW a y m) Q m
theorem kJoB_ap {a : Str} {y : W} {Q : PQ W} : kJoB a Q y m = wO (joinW a y m) Q m := rfl
def kJo (f : Fe) (τ : SS) (Q : PQ W) (E : PX) : PQ W := fun x m => match x with
  | .str a => Wp (f τ m) (kJoB a Q) E
  | _ => False
theorem kJo_ap {f : Fe} {a : Str} {Q : PQ W} : kJo f τ Q E (.str a) m = Wp (f τ m) (kJoB a Q) E := rfl
theorem Wp.eJoin {fo f : Fe} {Q : PQ W} : Wp (eJoin fo f τ m) Q E = Wp (fo τ m) (kJo f τ Q E) E := by
  unfold Sm.eJoin
  simp only [Wp.bnd]
  congr 1
  funext x m'
  cases x with
  | str a =>
    dsimp only
    rw [Wp.bnd]
    simp only [Wp.lift]
    rfl
  | _ => rfl
def kSpB (a : Str) (Q : PQ (List W)) : PQ W := fun y m => match y with
  | .str b => ((b.length == 0) = false ∧ a.length + 2 ≤ 16777216) ∧ Q ((Txt.split a b).map .str) m
  | _ => False
theorem kSpB_ap {a b : Str} {Q : PQ (List W)} : kSpB a Q (.str b) m = (((b.length == 0) = false ∧ a.length + 2 ≤ 16777216) ∧ Q ((Txt.split a b).map .str) m) := rfl
def kSp (f : Fe) (τ : SS) (Q : PQ (List W)) (E : PX) : PQ W := fun x m => match x with
  | .str a => Wp (f τ m) (kSpB a Q) E
  | _ => False
theorem kSp_ap {f : Fe} {a : Str} {Q : PQ (List W)} : kSp f τ Q E (.str a) m = Wp (f τ m) (kSpB a Q) E := rfl
theorem Wp.nSplit {fo f : Fe} {Q : PQ (List W)} : Wp (nSplit fo f τ m) Q E = Wp (fo τ m) (kSp f τ Q E) E := by
  unfold Sm.nSplit
  simp only [Wp.bnd]
  congr 1
  funext x m'
  cases x with
  | str a =>
    dsimp only
    rw [Wp.bnd]
    unfold kSp
    congr 1
    funext y m2
    cases y with
    | str b =>
      unfold kSpB
      dsimp only
      by_cases h : (b.length == 0) = false ∧ a.length + 2 ≤ sizeLine
      · rw [if_pos h]
        exact propext ⟨fun z => ⟨h, z⟩, fun z => z.2⟩
      · rw [if_neg h]
        exact propext ⟨fun z => z.elim, fun z => h z.1⟩
    | _ => rfl
  | _ => rfl
/-! ### what is walked -/
def kSeq_ (Q : PQ (List W)) : PQ W := fun w m => sqO (itW w) Q m
theorem kSeq__ap {w : W} {Q : PQ (List W)} : kSeq_ Q w m = sqO (itW w) Q m := rfl
theorem Wp.iSeq {f : Fe} {Q : PQ (List W)} : Wp (iSeq f τ m) Q E = Wp (f τ m) (kSeq_ Q) E := by
  unfold Sm.iSeq
  simp only [Wp.bnd]
  congr 1
  funext w m'
  unfold kSeq_ sqO
  cases itW w <;> rfl
def kSeqR (Q : PQ (List W)) : PQ W := fun w m => sqO (itR w m) Q m
theorem kSeqR_ap {w : W} {Q : PQ (List W)} : kSeqR Q w m = sqO (itR w m) Q m := rfl
theorem Wp.iSeqR {f : Fe} {Q : PQ (List W)} : Wp (iSeqR f τ m) Q E = Wp (f τ m) (kSeqR Q) E := by
  unfold Sm.iSeqR
  simp only [Wp.bnd]
  congr 1
  funext w m'
  unfold kSeqR sqO
  cases itR w m' <;> rfl
def kRng (rg : List W → Option (List W)) (Q : PQ (List W)) : PQ (List W) := fun ws m => sqO (rg ws) Q m
theorem kRng_ap {rg : List W → Option (List W)} {ws : List W} {Q : PQ (List W)} : kRng rg Q ws m = sqO (rg ws) Q m := rfl
theorem Wp.iRng {rg : List W → Option (List W)} {g : Fas} {Q : PQ (List W)} : Wp (iRng rg g τ m) Q E = Wp (g τ m) (kRng rg Q) E := by
  unfold Sm.iRng
  simp only [Wp.bnd]
  congr 1
  funext w m'
  unfold kRng sqO
  cases rg w <;> rfl
def kEn (Q : PQ (List W)) : PQ (List W) := fun ws m => match ws with
  | [.lst xs] => Q (enL xs) m
  | _ => False
theorem kEn_ap {xs : List W} {Q : PQ (List W)} : kEn Q [.lst xs] m = Q (enL xs) m := rfl
theorem Wp.iEn {g : Fas} {Q : PQ (List W)} : Wp (iEn g τ m) Q E = Wp (g τ m) (kEn Q) E := by
  unfold Sm.iEn
  simp only [Wp.bnd]
  congr 1
  funext ws m'
  unfold kEn
  rcases ws with _ | ⟨w, _ | ⟨w2, r⟩⟩
  · rfl
  · cases w <;> rfl
  · cases w <;> rfl
/-! ### comprehensions -/
theorem Wp.lc0 {bd : Bd} {ft : Ft} {fe : Fe} {Q : PQ (List W)} : Wp (lcM bd ft fe τ [] m) Q E = Q [] m := rfl
def kLcE (bd : Bd) (ft : Ft) (fe : Fe) (τ : SS) (r : List W) (Q : PQ (List W)) (E : PX) : PQ W := fun w m => Wp (lcM bd ft fe τ r m) (kCb w Q) E
theorem kLcE_ap {bd : Bd} {ft : Ft} {fe : Fe} {r : List W} {w : W} {Q : PQ (List W)} : kLcE bd ft fe τ r Q E w m = Wp (lcM bd ft fe τ r m) (kCb w Q) E := rfl
def kLcT (bd : Bd) (ft : Ft) (fe : Fe) (τ τ1 : SS) (r : List W) (Q : PQ (List W)) (E : PX) : PQ Bool := fun b m => if b = true then Wp (fe τ1 m) (kLcE bd ft fe τ r Q E) E else Wp (lcM bd ft fe τ r m) Q E
theorem kLcT_t {bd : Bd} {ft : Ft} {fe : Fe} {τ1 : SS} {r : List W} {Q : PQ (List W)} : kLcT bd ft fe τ τ1 r Q E true m = Wp (fe τ1 m) (kLcE bd ft fe τ r Q E) E := rfl
theorem kLcT_f {bd : Bd} {ft : Ft} {fe : Fe} {τ1 : SS} {r : List W} {Q : PQ (List W)} : kLcT bd ft fe τ τ1 r Q E false m = Wp (lcM bd ft fe τ r m) Q E := rfl
def tO (o : Option SS) (Q : PQ SS) (m : Sto) : Prop := match o with
  | some τ => Q τ m
  | none => False
theorem tO_some {Q : PQ SS} : tO (some τ) Q m = Q τ m := rfl
def kLcB (bd : Bd) (ft : Ft) (fe : Fe) (τ : SS) (r : List W) (Q : PQ (List W)) (E : PX) : PQ SS := fun τ1 m => Wp (ft τ1 m) (kLcT bd ft fe τ τ1 r Q E) E
theorem kLcB_ap {bd : Bd} {ft : Ft} {fe : Fe} {τ1 : SS} {r : List W} {Q : PQ (List W)} : kLcB bd ft fe τ r Q E τ1 m = Wp (ft τ1 m) (kLcT bd ft fe τ τ1 r Q E) E := rfl
theorem Wp.lc1 {bd : Bd} {ft : Ft} {fe : Fe} {x : W} {r : List W} {Q : PQ (List W)} : Wp (lcM bd ft fe τ (x :: r) m) Q E = tO (bd x τ) (kLcB bd ft fe τ r Q E) m := by
  rw [lcM]
  unfold tO
  cases bd x τ with
  | none => rfl
  | some τ1 =>
    dsimp only
    unfold kLcB
    rw [Wp.bnd]
    congr 1
    funext b m'
    cases b
    · rfl
    · unfold kLcT
      rw [if_pos rfl, if_pos rfl, Wp.bnd]
      congr 1
      funext w m2
      rw [Wp.bnd]
      rfl
def kLc (vs : List Nat) (bd : Bd) (ft : Ft) (fe : Fe) (τ : SS) (Q : PQ (List W)) : PQ (List W) := fun xs m => Wp (lcM bd ft fe (wipeS τ vs) xs m) (kSl Q) fun _ _ => False
theorem kLc_ap {vs : List Nat} {bd : Bd} {ft : Ft} {fe : Fe} {xs : List W} {Q : PQ (List W)} : kLc vs bd ft fe τ Q xs m = Wp (lcM bd ft fe (wipeS τ vs) xs m) (kSl Q) fun _ _ => False := rfl
theorem Wp.nLc {fi : Fas} {vs : List Nat} {bd : Bd} {ft : Ft} {fe : Fe} {Q : PQ (List W)} : Wp (nLc fi vs bd ft fe τ m) Q E = Wp (fi τ m) (kLc vs bd ft fe τ Q) E := by
  unfold Sm.nLc
  rw [Wp.bnd]
  congr 1
  funext xs m'
  unfold kLc
  cases lcM bd ft fe (wipeS τ vs) xs m' with
  | ok ws m2 =>
    dsimp only
    unfold kSl
    by_cases h : ws.length ≤ sizeLine
    · rw [if_pos h]
      exact propext ⟨fun z => ⟨h, z⟩, fun z => z.2⟩
    · rw [if_neg h]
      exact propext ⟨fun z => z.elim, fun z => h z.1⟩
  | exc x m2 => rfl
  | bad => rfl
end
end Sm

/-! S63: walking through worths: statements, loops, defs. -/
namespace Sm
open PySem PySem.Spec PyProof.Rows L2
section
variable {τ : SS} {m : Sto} {E : PX}
theorem Wp.sNil {Q : PQ Out} : Wp (sNil τ m) Q E = Q (.nx τ) m := rfl
theorem Wp.sBrk {Q : PQ Out} : Wp (sBrk τ m) Q E = Q (.bk τ) m := rfl
theorem Wp.sCnt {Q : PQ Out} : Wp (sCnt τ m) Q E = Q (.ct τ) m := rfl
theorem Wp.sRetN {Q : PQ Out} : Wp (sRetN τ m) Q E = Q (.rt .non) m := rfl
def kSeq (g : Fs) (Q : PQ Out) (E : PX) : PQ Out := fun o m => match o with
  | .nx τ => Wp (g τ m) Q E
  | o => Q o m
theorem kSeq_nx {g : Fs} {Q : PQ Out} : kSeq g Q E (.nx τ) m = Wp (g τ m) Q E := rfl
theorem kSeq_rt {g : Fs} {w : W} {Q : PQ Out} : kSeq g Q E (.rt w) m = Q (.rt w) m := rfl
theorem kSeq_bk {g : Fs} {Q : PQ Out} : kSeq g Q E (.bk τ) m = Q (.bk τ) m := rfl
theorem kSeq_ct {g : Fs} {Q : PQ Out} : kSeq g Q E (.ct τ) m = Q (.ct τ) m := rfl
theorem kSeq_ex {g : Fs} {x : Ex} {Q : PQ Out} : kSeq g Q E (.ex x τ) m = Q (.ex x τ) m := rfl
theorem Wp.sSeq {f g : Fs} {Q : PQ Out} : Wp (sSeq f g τ m) Q E = Wp (f τ m) (kSeq g Q E) E := by
  unfold Sm.sSeq
  cases f τ m with
  | ok o m' => cases o <;> rfl
  | exc x m' => rfl
  | bad => rfl
def kEx (τ : SS) (Q : PQ Out) : PX := fun x m => Q (.ex x τ) m
theorem kEx_ap {x : Ex} {Q : PQ Out} : kEx τ Q x m = Q (.ex x τ) m := rfl
def kSet (i : Nat) (τ : SS) (Q : PQ Out) : PQ W := fun w m => Q (.nx (τ.set i (.val w))) m
theorem kSet_ap {i : Nat} {w : W} {Q : PQ Out} : kSet i τ Q w m = Q (.nx (τ.set i (.val w))) m := rfl
theorem Wp.sSet {i : Nat} {f : Fe} {Q : PQ Out} : Wp (sSet i f τ m) Q E = Wp (f τ m) (kSet i τ Q) (kEx τ Q) := by
  unfold Sm.sSet
  rw [Wp.exS]
  rfl
def kSetN (i : Nat) (τ : SS) (Q : PQ Out) : PQ (List W) := fun ws m => Q (.nx (τ.set i (.own (.lst ws)))) m
theorem kSetN_ap {i : Nat} {ws : List W} {Q : PQ Out} : kSetN i τ Q ws m = Q (.nx (τ.set i (.own (.lst ws)))) m := rfl
theorem Wp.sSetN {i : Nat} {f : Fas} {Q : PQ Out} : Wp (sSetN i f τ m) Q E = Wp (f τ m) (kSetN i τ Q) (kEx τ Q) := by
  unfold Sm.sSetN
  rw [Wp.exS]
  rfl
def kExp (τ : SS) (Q : PQ Out) : PQ W := fun _ m => Q (.nx τ) m
theorem kExp_ap {w : W} {Q : PQ Out} : kExp τ Q w m = Q (.nx τ) m := rfl
theorem Wp.sExp {f : Fe} {Q : PQ Out} : Wp (sExp f τ m) Q E = Wp (f τ m) (kExp τ Q) (kEx τ Q) := by
  unfold Sm.sExp
  rw [Wp.exS]
  rfl
def kRet (Q : PQ Out) : PQ W := fun w m => Q (.rt w) m
theorem kRet_ap {w : W} {Q : PQ Out} : kRet Q w m = Q (.rt w) m := rfl
theorem Wp.sRet {f : Fe} {Q : PQ Out} : Wp (sRet f τ m) Q E = Wp (f τ m) (kRet Q) (kEx τ Q) := by
  unfold Sm.sRet
  rw [Wp.exS]
  rfl
def kIf (g h : Fs) (τ : SS) (Q : PQ Out) (E : PX) : PQ Bool := fun b m => if b = true then Wp (g τ m) Q E else Wp (h τ m) Q E
theorem kIf_t {g h : Fs} {Q : PQ Out} : kIf g h τ Q E true m = Wp (g τ m) Q E := rfl
theorem kIf_f {g h : Fs} {Q : PQ Out} : kIf g h τ Q E false m = Wp (h τ m) Q E := rfl
theorem Wp.sIf {ft : Ft} {g h : Fs} {Q : PQ Out} : Wp (sIf ft g h τ m) Q E = Wp (ft τ m) (kIf g h τ Q E) (kEx τ Q) := by
  unfold Sm.sIf
  rw [Wp.exS]
  congr 1
  funext b m'
  cases b <;> rfl
def kUnp (bd : Bd) (τ : SS) (Q : PQ Out) : PQ W := fun w m => tO (bd w τ) (fun τ' m => Q (.nx τ') m) m
def kNx (Q : PQ Out) : PQ SS := fun τ m => Q (.nx τ) m
theorem kNx_ap {Q : PQ Out} : kNx Q τ m = Q (.nx τ) m := rfl
theorem kUnp_ap {bd : Bd} {w : W} {Q : PQ Out} : kUnp bd τ Q w m = tO (bd w τ) (kNx Q) m := rfl
theorem Wp.sUnp {bd : Bd} {f : Fe} {Q : PQ Out} : Wp (sUnp bd f τ m) Q E = Wp (f τ m) (kUnp bd τ Q) (kEx τ Q) := by
  unfold Sm.sUnp
  rw [Wp.exS]
  congr 1
  funext w m'
  unfold kUnp tO
  cases bd w τ <;> rfl
def kPar (i j : Nat) (τ : SS) (Q : PQ Out) : PQ (List W) := fun ws m => match ws with
  | [u, v] => Q (.nx ((τ.set i (.val u)).set j (.val v))) m
  | _ => False
theorem kPar_ap {i j : Nat} {u v : W} {Q : PQ Out} : kPar i j τ Q [u, v] m = Q (.nx ((τ.set i (.val u)).set j (.val v))) m := rfl
theorem Wp.sPar {i j : Nat} {g : Fas} {Q : PQ Out} : Wp (sPar i j g τ m) Q E = Wp (g τ m) (kPar i j τ Q) (kEx τ Q) := by
  unfold Sm.sPar
  rw [Wp.exS]
  congr 1
  funext ws m'
  unfold kPar
  rcases ws with _ | ⟨w, _ | ⟨w2, _ | ⟨w3, r⟩⟩⟩ <;> rfl
def kPar3 (i j l : Nat) (τ : SS) (Q : PQ Out) : PQ (List W) := fun ws m => match ws with
  | [u, v, w] => Q (.nx (((τ.set i (.val u)).set j (.val v)).set l (.val w))) m
  | _ => False
theorem kPar3_ap {i j l : Nat} {u v w : W} {Q : PQ Out} : kPar3 i j l τ Q [u, v, w] m = Q (.nx (((τ.set i (.val u)).set j (.val v)).set l (.val w))) m := rfl
theorem Wp.sPar3 {i j l : Nat} {g : Fas} {Q : PQ Out} : Wp (sPar3 i j l g τ m) Q E = Wp (g τ m) (kPar3 i j l τ Q) (kEx τ Q) := by
  unfold Sm.sPar3
  rw [Wp.exS]
  congr 1
  funext ws m'
  unfold kPar3
  rcases ws with _ | ⟨w, _ | ⟨w2, _ | ⟨w3, _ | ⟨w4, r⟩⟩⟩⟩ <;> rfl
def oO (o : Option Sl) (Q : PQ MO) (m : Sto) : Prop := match o with
  | some (.own o) => Q o m
  | _ => False
theorem oO_own {o : MO} {Q : PQ MO} : oO (some (.own o)) Q m = Q o m := rfl
def kAppB (i : Nat) (xs : List W) (τ : SS) (Q : PQ Out) : PQ W := fun w m => xs.length < 16777216 ∧ Q (.nx (τ.set i (.own (.lst (xs ++ [w]))))) m
theorem kAppB_ap {i : Nat} {xs : List W} {w : W} {Q : PQ Out} : kAppB i xs τ Q w m = (xs.length < 16777216 ∧ Q (.nx (τ.set i (.own (.lst (xs ++ [w]))))) m) := rfl
def kApp (i : Nat) (f : Fe) (τ : SS) (Q : PQ Out) : PQ MO := fun o m => match o with
  | .lst xs => Wp (f τ m) (kAppB i xs τ Q) (kEx τ Q)
  | _ => False
theorem kApp_ap {i : Nat} {f : Fe} {xs : List W} {Q : PQ Out} : kApp i f τ Q (.lst xs) m = Wp (f τ m) (kAppB i xs τ Q) (kEx τ Q) := rfl
theorem Wp.sApp {i : Nat} {f : Fe} {Q : PQ Out} : Wp (sApp i f τ m) Q E = oO τ[i]? (kApp i f τ Q) m := by
  unfold Sm.sApp oO
  rcases τ[i]? with _ | _ | _ | o
  · rfl
  · rfl
  · rfl
  · cases o with
    | lst xs =>
      dsimp only
      rw [Wp.exS]
      unfold kApp
      dsimp only
      congr 1
      funext w m'
      unfold kAppB
      by_cases h : xs.length < sizeLine
      · rw [if_pos h]
        exact propext ⟨fun z => ⟨h, z⟩, fun z => z.2⟩
      · rw [if_neg h]
        exact propext ⟨fun z => z.elim, fun z => h z.1⟩
    | _ => rfl
def kExtB (i : Nat) (xs : List W) (τ : SS) (Q : PQ Out) : PQ W := fun w m => match w with
  | .tup ys => xs.length + ys.length ≤ 16777216 ∧ Q (.nx (τ.set i (.own (.lst (xs ++ ys))))) m
  | _ => False
theorem kExtB_ap {i : Nat} {xs ys : List W} {Q : PQ Out} : kExtB i xs τ Q (.tup ys) m = (xs.length + ys.length ≤ 16777216 ∧ Q (.nx (τ.set i (.own (.lst (xs ++ ys))))) m) := rfl
def kExt (i : Nat) (f : Fe) (τ : SS) (Q : PQ Out) : PQ MO := fun o m => match o with
  | .lst xs => Wp (f τ m) (kExtB i xs τ Q) (kEx τ Q)
  | _ => False
theorem kExt_ap {i : Nat} {f : Fe} {xs : List W} {Q : PQ Out} : kExt i f τ Q (.lst xs) m = Wp (f τ m) (kExtB i xs τ Q) (kEx τ Q) := rfl
theorem Wp.sExt {i : Nat} {f : Fe} {Q : PQ Out} : Wp (sExt i f τ m) Q E = oO τ[i]? (kExt i f τ Q) m := by
  unfold Sm.sExt oO
  rcases τ[i]? with _ | _ | _ | o
  · rfl
  · rfl
  · rfl
  · cases o with
    | lst xs =>
      dsimp only
      rw [Wp.exS]
      unfold kExt
      dsimp only
      congr 1
      funext w m'
      cases w with
      | tup ys =>
        unfold kExtB
        dsimp only
        by_cases h : xs.length + ys.length ≤ sizeLine
        · rw [if_pos h]
          exact propext ⟨fun z => ⟨h, z⟩, fun z => z.2⟩
        · rw [if_neg h]
          exact propext ⟨fun z => z.elim, fun z => h z.1⟩
      | _ => rfl
    | _ => rfl
def kFz (i : Nat) (τ : SS) (Q : PQ Out) : Option Sl → Sto → Prop
  | some (.own o), m => if frzb o then Q (.nx (τ.set i (.val (toW o)))) m else False
  | _, m => Q (.nx τ) m
theorem kFz_val {i : Nat} {w : W} {Q : PQ Out} : kFz i τ Q (some (.val w)) m = Q (.nx τ) m := rfl
theorem kFz_un {i : Nat} {Q : PQ Out} : kFz i τ Q (some .un) m = Q (.nx τ) m := rfl
theorem kFz_lst {i : Nat} {xs : List W} {Q : PQ Out} : kFz i τ Q (some (.own (.lst xs))) m = Q (.nx (τ.set i (.val (.lst xs)))) m := rfl
def kSeqF (i : Nat) (Q : PQ Out) : PQ Out := fun o m => match o with
  | .nx τ => kFz i τ Q τ[i]? m
  | o => Q o m
theorem kSeqF_nx {i : Nat} {Q : PQ Out} : kSeqF i Q (.nx τ) m = kFz i τ Q τ[i]? m := rfl
theorem kSeqF_rt {i : Nat} {w : W} {Q : PQ Out} : kSeqF i Q (.rt w) m = Q (.rt w) m := rfl
theorem kSeqF_ex {i : Nat} {x : Ex} {Q : PQ Out} : kSeqF i Q (.ex x τ) m = Q (.ex x τ) m := rfl
theorem Wp.sSeqF {i : Nat} {f : Fs} {Q : PQ Out} : Wp (sSeqF i f τ m) Q E = Wp (f τ m) (kSeqF i Q) E := by
  unfold Sm.sSeqF
  cases f τ m with
  | ok o m' =>
    cases o with
    | nx τ' =>
      show Wp (match τ'[i]? with
        | some (.own o) => if frzb o then .ok (.nx (τ'.set i (.val (toW o)))) m' else .bad
        | _ => .ok (.nx τ') m') Q E = kFz i τ' Q τ'[i]? m'
      rcases τ'[i]? with _ | _ | _ | o
      · rfl
      · rfl
      · rfl
      · dsimp only [kFz]
        split <;> rfl
    | _ => rfl
  | exc x m' => rfl
  | bad => rfl
def kFrz (i : Nat) (f : Fs) (τ : SS) (Q : PQ Out) (E : PX) : Option Sl → Sto → Prop
  | some (.own o), m => if frzb o then Wp (f (τ.set i (.val (toW o))) m) Q E else False
  | _, m => Wp (f τ m) Q E
theorem kFrz_val {i : Nat} {f : Fs} {w : W} {Q : PQ Out} : kFrz i f τ Q E (some (.val w)) m = Wp (f τ m) Q E := rfl
theorem kFrz_un {i : Nat} {f : Fs} {Q : PQ Out} : kFrz i f τ Q E (some .un) m = Wp (f τ m) Q E := rfl
theorem kFrz_lst {i : Nat} {f : Fs} {xs : List W} {Q : PQ Out} : kFrz i f τ Q E (some (.own (.lst xs))) m = Wp (f (τ.set i (.val (.lst xs))) m) Q E := rfl
theorem Wp.sFrz {i : Nat} {f : Fs} {Q : PQ Out} : Wp (sFrz i f τ m) Q E = kFrz i f τ Q E τ[i]? m := by
  unfold Sm.sFrz
  rcases τ[i]? with _ | _ | _ | o
  · rfl
  · rfl
  · rfl
  · dsimp only [kFrz]
    split <;> rfl
def kAugB (i : Nat) (τ : SS) (Q : PQ Out) : PQ W := fun w m => Q (.nx (τ.set i (.val w))) m
def kAug (i : Nat) (g : W → W → M W) (x : W) (τ : SS) (Q : PQ Out) : PQ W := fun y m => Wp (g x y m) (kSet i τ Q) fun _ _ => False
theorem kAug_ap {i : Nat} {g : W → W → M W} {x y : W} {Q : PQ Out} : kAug i g x τ Q y m = Wp (g x y m) (kSet i τ Q) fun _ _ => False := rfl
def kAugA (i : Nat) (f : Fe) (g : W → W → M W) (τ : SS) (Q : PQ Out) : PQ W := fun x m => Wp (f τ m) (kAug i g x τ Q) (kEx τ Q)
theorem kAugA_ap {i : Nat} {f : Fe} {g : W → W → M W} {x : W} {Q : PQ Out} : kAugA i f g τ Q x m = Wp (f τ m) (kAug i g x τ Q) (kEx τ Q) := rfl
theorem Wp.sAug {i : Nat} {f : Fe} {g : W → W → M W} {Q : PQ Out} : Wp (sAug i f g τ m) Q E = vO τ[i]? (kAugA i f g τ Q) m := by
  unfold Sm.sAug vO
  rcases τ[i]? with _ | _ | x | _
  · rfl
  · rfl
  · dsimp only
    rw [Wp.exS]
    unfold kAugA
    congr 1
    funext y m'
    unfold kAug
    cases g x y m' <;> rfl
  · rfl
def kFor (bd : Bd) (g : Fs) (τ : SS) (Q : PQ Out) (E : PX) : PQ (List W) := fun ws m => Wp (forW bd g ws τ m) Q E
theorem kFor_ap {bd : Bd} {g : Fs} {ws : List W} {Q : PQ Out} : kFor bd g τ Q E ws m = Wp (forW bd g ws τ m) Q E := rfl
theorem Wp.sFor {fi : Fas} {bd : Bd} {g : Fs} {Q : PQ Out} : Wp (sFor fi bd g τ m) Q E = Wp (fi τ m) (kFor bd g τ Q E) (kEx τ Q) := by
  unfold Sm.sFor
  rw [Wp.exS]
  rfl
theorem Wp.for0 {bd : Bd} {g : Fs} {Q : PQ Out} : Wp (forW bd g [] τ m) Q E = Q (.nx τ) m := rfl
def kLoop (bd : Bd) (g : Fs) (r : List W) (Q : PQ Out) (E : PX) : PQ Out := fun o m => match o with
  | .nx τ => Wp (forW bd g r τ m) Q E
  | .ct τ => Wp (forW bd g r τ m) Q E
  | .bk τ => Q (.nx τ) m
  | o => Q o m
theorem kLoop_nx {bd : Bd} {g : Fs} {r : List W} {Q : PQ Out} : kLoop bd g r Q E (.nx τ) m = Wp (forW bd g r τ m) Q E := rfl
theorem kLoop_ct {bd : Bd} {g : Fs} {r : List W} {Q : PQ Out} : kLoop bd g r Q E (.ct τ) m = Wp (forW bd g r τ m) Q E := rfl
theorem kLoop_bk {bd : Bd} {g : Fs} {r : List W} {Q : PQ Out} : kLoop bd g r Q E (.bk τ) m = Q (.nx τ) m := rfl
theorem kLoop_rt {bd : Bd} {g : Fs} {r : List W} {w : W} {Q : PQ Out} : kLoop bd g r Q E (.rt w) m = Q (.rt w) m := rfl
theorem kLoop_ex {bd : Bd} {g : Fs} {r : List W} {x : Ex} {Q : PQ Out} : kLoop bd g r Q E (.ex x τ) m = Q (.ex x τ) m := rfl
def kBody (bd : Bd) (g : Fs) (r : List W) (Q : PQ Out) (E : PX) : PQ SS := fun τ m => Wp (g τ m) (kLoop bd g r Q E) E
theorem kBody_ap {bd : Bd} {g : Fs} {r : List W} {Q : PQ Out} : kBody bd g r Q E τ m = Wp (g τ m) (kLoop bd g r Q E) E := rfl
theorem Wp.for1 {bd : Bd} {g : Fs} {x : W} {r : List W} {Q : PQ Out} : Wp (forW bd g (x :: r) τ m) Q E = tO (bd x τ) (kBody bd g r Q E) m := by
  rw [forW]
  unfold tO
  dsimp only
  cases bd x τ with
  | none => rfl
  | some τ1 =>
    dsimp only
    unfold kBody
    cases g τ1 m with
    | ok o m' => cases o <;> rfl
    | exc x m' => rfl
    | bad => rfl
/-- a loop by an invariant over what is left -/
theorem Wp.forI {bd : Bd} {g : Fs} {Q : PQ Out} (I : List W → SS → Sto → Prop) (step : ∀ x r τ m, I (x :: r) τ m → tO (bd x τ) (fun τ1 m => Wp (g τ1 m) (fun o m => match o with
      | .nx τ => I r τ m
      | .ct τ => I r τ m
      | .bk τ => Q (.nx τ) m
      | o => Q o m) E) m) (fin : ∀ τ m, I [] τ m → Q (.nx τ) m) : ∀ (ws : List W) (τ : SS) (m : Sto), I ws τ m → Wp (forW bd g ws τ m) Q E := by
  intro ws
  induction ws with
  | nil => exact fun τ m h => fin τ m h
  | cons x r ih =>
    intro τ m h
    have s := step x r τ m h
    rw [Wp.for1]
    unfold tO at s ⊢
    cases e : bd x τ with
    | none => rw [e] at s; exact s
    | some τ1 =>
      rw [e] at s
      unfold kBody
      refine s.mono (fun o m' q => ?_) fun _ _ q => q
      cases o with
      | nx τ' => exact ih _ _ q
      | ct τ' => exact ih _ _ q
      | bk τ' => exact q
      | rt w => exact q
      | ex x τ' => exact q
def kWb (ft : Ft) (g : Fs) (n : Nat) (Q : PQ Out) (E : PX) : PQ Out := fun o m => match o with
  | .nx τ => Wp (whW ft g n τ m) Q E
  | .ct τ => Wp (whW ft g n τ m) Q E
  | .bk τ => Q (.nx τ) m
  | o => Q o m
theorem kWb_nx {ft : Ft} {g : Fs} {n : Nat} {Q : PQ Out} : kWb ft g n Q E (.nx τ) m = Wp (whW ft g n τ m) Q E := rfl
theorem kWb_ct {ft : Ft} {g : Fs} {n : Nat} {Q : PQ Out} : kWb ft g n Q E (.ct τ) m = Wp (whW ft g n τ m) Q E := rfl
theorem kWb_bk {ft : Ft} {g : Fs} {n : Nat} {Q : PQ Out} : kWb ft g n Q E (.bk τ) m = Q (.nx τ) m := rfl
theorem kWb_rt {ft : Ft} {g : Fs} {n : Nat} {w : W} {Q : PQ Out} : kWb ft g n Q E (.rt w) m = Q (.rt w) m := rfl
theorem kWb_ex {ft : Ft} {g : Fs} {n : Nat} {x : Ex} {Q : PQ Out} : kWb ft g n Q E (.ex x τ) m = Q (.ex x τ) m := rfl
def kWh (ft : Ft) (g : Fs) (n : Nat) (τ : SS) (Q : PQ Out) (E : PX) : PQ Bool := fun b m => if b = true then Wp (g τ m) (kWb ft g n Q E) E else Q (.nx τ) m
theorem kWh_t {ft : Ft} {g : Fs} {n : Nat} {Q : PQ Out} : kWh ft g n τ Q E true m = Wp (g τ m) (kWb ft g n Q E) E := rfl
theorem kWh_f {ft : Ft} {g : Fs} {n : Nat} {Q : PQ Out} : kWh ft g n τ Q E false m = Q (.nx τ) m := rfl
theorem Wp.wh {ft : Ft} {g : Fs} {n : Nat} {Q : PQ Out} : Wp (whW ft g (n + 1) τ m) Q E = Wp (ft τ m) (kWh ft g n τ Q E) (kEx τ Q) := by
  rw [whW, Wp.exS]
  congr 1
  funext b m'
  cases b
  · rfl
  · rw [if_pos rfl]
    show _ = Wp (g τ m') (kWb ft g n Q E) E
    cases g τ m' with
    | ok o m' => cases o <;> rfl
    | exc x m' => rfl
    | bad => rfl
def kRun (Q : PQ W) (E : PX) : PQ Out := fun o m => match o with
  | .nx _ => Q .non m
  | .rt w => Q w m
  | .ex x _ => E x m
  | _ => False
theorem kRun_nx {Q : PQ W} : kRun Q E (.nx τ) m = Q .non m := rfl
theorem kRun_rt {w : W} {Q : PQ W} : kRun Q E (.rt w) m = Q w m := rfl
theorem kRun_ex {x : Ex} {Q : PQ W} : kRun Q E (.ex x τ) m = E x m := rfl
theorem Wp.runB {n : Nat} {g : Fs} {ws : List W} {Q : PQ W} : Wp (runB n g ws m) Q E = Wp (g (ws.map .val ++ List.replicate (n - ws.length) .un) m) (kRun Q E) fun _ _ => False := by
  unfold Sm.runB
  cases g (ws.map .val ++ List.replicate (n - ws.length) .un) m with
  | ok o m' => cases o <;> rfl
  | exc x m' => rfl
  | bad => rfl
/-! ### exceptions -/
def kTryB (i : Nat) (Q : PQ Out) : PQ Out := fun o m => match o with
  | .nx τ => Q (.nx (τ.set i .un)) m
  | .rt w => Q (.rt w) m
  | .bk τ => Q (.bk (τ.set i .un)) m
  | .ct τ => Q (.ct (τ.set i .un)) m
  | _ => False
theorem kTryB_nx {i : Nat} {Q : PQ Out} : kTryB i Q (.nx τ) m = Q (.nx (τ.set i .un)) m := rfl
theorem kTryB_rt {i : Nat} {w : W} {Q : PQ Out} : kTryB i Q (.rt w) m = Q (.rt w) m := rfl
def kTry (i : Nat) (T : Str → Option Bool) (g : Fs) (Q : PQ Out) (E : PX) : PQ Out := fun o m => match o with
  | .ex x τ => (match T x.cls with
    | some true => if x.ns = [] then False else Wp (g (τ.set i (.val (.exc x.cls x.ns x.vs))) m) (kTryB i Q) fun _ _ => False
    | some false => Q (.ex x τ) m
    | none => False)
  | o => Q o m
theorem kTry_nx {i : Nat} {T : Str → Option Bool} {g : Fs} {Q : PQ Out} : kTry i T g Q E (.nx τ) m = Q (.nx τ) m := rfl
theorem kTry_rt {i : Nat} {T : Str → Option Bool} {g : Fs} {w : W} {Q : PQ Out} : kTry i T g Q E (.rt w) m = Q (.rt w) m := rfl
theorem kTry_ex {i : Nat} {T : Str → Option Bool} {g : Fs} {C : Str} {ns : List Str} {vs : List W} {Q : PQ Out} (h : T C = some true) (hn : ns ≠ []) : kTry i T g Q E (.ex ⟨C, ns, vs⟩ τ) m = Wp (g (τ.set i (.val (.exc C ns vs))) m) (kTryB i Q) fun _ _ => False := by
  unfold kTry
  dsimp only
  rw [h]
  dsimp only
  rw [if_neg hn]
theorem Wp.sTry {i : Nat} {T : Str → Option Bool} {f g : Fs} {Q : PQ Out} : Wp (sTry i T f g τ m) Q E = Wp (f τ m) (kTry i T g Q E) E := by
  unfold Sm.sTry
  cases f τ m with
  | ok o m' =>
    cases o with
    | ex x τ' =>
      show Wp (match T x.cls with
        | some true => if x.ns = [] then .bad else (match g (τ'.set i (.val (.exc x.cls x.ns x.vs))) m' with
          | .ok (.nx τ2) m2 => .ok (.nx (τ2.set i .un)) m2
          | .ok (.rt w) m2 => .ok (.rt w) m2
          | .ok (.bk τ2) m2 => .ok (.bk (τ2.set i .un)) m2
          | .ok (.ct τ2) m2 => .ok (.ct (τ2.set i .un)) m2
          | _ => .bad)
        | some false => .ok (.ex x τ') m'
        | none => .bad) Q E = match T x.cls with
        | some true => if x.ns = [] then False else Wp (g (τ'.set i (.val (.exc x.cls x.ns x.vs))) m') (kTryB i Q) fun _ _ => False
        | some false => Q (.ex x τ') m'
        | none => False
      rcases T x.cls with _ | _ | _
      · rfl
      · rfl
      · dsimp only
        split
        · rfl
        · cases g (τ'.set i (.val (.exc x.cls x.ns x.vs))) m' with
          | ok o m2 => cases o <;> rfl
          | exc x m2 => rfl
          | bad => rfl
    | _ => rfl
  | exc x m' => rfl
  | bad => rfl
def kRaise (C : Str) (fs : List Str) (τ : SS) (Q : PQ Out) : PQ (List W) := fun ws m => if ws.length = fs.length then Q (.ex ⟨C, fs.reverse, ws.reverse⟩ τ) m else False
theorem kRaise_ap {C : Str} {fs : List Str} {ws : List W} {Q : PQ Out} (h : ws.length = fs.length) : kRaise C fs τ Q ws m = Q (.ex ⟨C, fs.reverse, ws.reverse⟩ τ) m := if_pos h
theorem Wp.sRaise {C : Str} {fs : List Str} {g : Fas} {Q : PQ Out} : Wp (sRaise C fs g τ m) Q E = Wp (g τ m) (kRaise C fs τ Q) (kEx τ Q) := by
  unfold Sm.sRaise
  rw [Wp.exS]
  congr 1
  funext ws m'
  unfold kRaise
  split <;> rfl
end
end Sm

/-! S64: x, y = e, [] where a name takes a new list as its own. -/
namespace Sm
open PySem PySem.Spec PyProof.Rows L2
abbrev Fls := SS → M (List Sl)
def RSls (c : Cn) (H0 F : Hp) (ρ : List Addr) (H : Hp) : List Sl → List V → Prop
  | [], vs => vs = []
  | .val w :: r, vs => ∃ v t, vs = v :: t ∧ RW c F ρ w v ∧ RSls c H0 F ρ H r t
  | .own o :: r, vs => ∃ a h t, vs = .ref a :: t ∧ F a = none ∧ a ∉ ρ ∧ H0 a = none ∧ H a = some h ∧ OR c F ρ a o h ∧ RSls c H0 F ρ H r t ∧ ∀ (j : Nat) (o' : MO), r[j]? = some (.own o') → t[j]? ≠ some (V.ref a)
  | .un :: _, _ => False
section
variable {c : Cn} {F F' H0 H1 H H' : Hp} {ρ ρ' : List Addr}
theorem RSls.own : ∀ {r : List Sl} {t : List V} {j : Nat} {o : MO}, RSls c H0 F ρ H r t → r[j]? = some (.own o) → ∃ a, t[j]? = some (V.ref a) ∧ H0 a = none
  | [], _, _, _, _, e => by simp at e
  | .val w :: r, t, j, o, h, e => by
    unfold RSls at h
    obtain ⟨v, t', rfl, _, h⟩ := h
    cases j with
    | zero => simp at e
    | succ j =>
      obtain ⟨a, h1, h2⟩ := RSls.own (j := j) h (by simpa using e)
      exact ⟨a, by simpa using h1, h2⟩
  | .own o' :: r, t, j, o, h, e => by
    unfold RSls at h
    obtain ⟨a, u, t', rfl, _, _, h0, _, _, h, _⟩ := h
    cases j with
    | zero => exact ⟨a, rfl, h0⟩
    | succ j =>
      obtain ⟨b, h1, h2⟩ := RSls.own (j := j) h (by simpa using e)
      exact ⟨b, by simpa using h1, h2⟩
  | .un :: _, _, _, _, h, _ => by unfold RSls at h; exact h.elim
theorem RSls.back (hb : ∀ a, H1 a = none → H0 a = none) : ∀ {r : List Sl} {t : List V}, RSls c H1 F ρ H r t → RSls c H0 F ρ H r t
  | [], _, h => h
  | .val w :: r, t, h => by
    unfold RSls at h ⊢
    obtain ⟨v, t', e, q, h⟩ := h
    exact ⟨v, t', e, q, RSls.back hb h⟩
  | .own o' :: r, t, h => by
    unfold RSls at h ⊢
    obtain ⟨a, u, t', e, h1, h2, h0, h3, h4, h, h5⟩ := h
    exact ⟨a, u, t', e, h1, h2, hb a h0, h3, h4, RSls.back hb h, h5⟩
  | .un :: _, _, h => by unfold RSls at h; exact h.elim
end
section
variable (c : Cn) (Wx : WX)
def sLs (f : Fls) : TA := fun σ H Q => ∃ F ρ m τ, R c F ρ m H ∧ RS c F ρ τ σ H ∧ Post (fun sls m' => ∀ vs F' ρ' H', R c F' ρ' m' H' → Go F ρ H F' ρ' H' → RSls c H F' ρ' H' sls vs → Q vs H') (OkX c F ρ H fun k d H' => Wx k d σ H') (f τ m)
end
abbrev SLs (c : Cn) (X : Cx) (Wx : WX) (es : List Expr) (f : Fls) : Prop := PA X es (sLs c Wx f)
def lNil : Fls := fun _ m => .ok [] m
def lVal (f : Fe) (g : Fls) : Fls := fun τ => bnd (f τ) fun w => bnd (g τ) fun ws m => .ok (.val w :: ws) m
def lOwn (f : Fas) (g : Fls) : Fls := fun τ => bnd (f τ) fun w => bnd (g τ) fun ws m => .ok (.own (.lst w) :: ws) m
section
variable {c : Cn} {X : Cx} {Wx : WX} {B : Bs} {e : Expr} {es : List Expr} {f : Fe} {fn : Fas} {g : Fls} {pos : Pos}
theorem l_nil : SLs c X Wx [] lNil := PA.weak pa_nil fun σ H Q ⟨F, ρ, m, τ, r, s, p⟩ => p [] F ρ H r .refl rfl
theorem l_val (he : SE c X Wx e f) (hs : SLs c X Wx es g) (hst : starEach (e :: es) X.env = (false, eval e X.env) :: starEach es X.env := by rfl) : SLs c X Wx (e :: es) (lVal f g) := PA.weak (pa_cons he hs hst) fun σ H Q h => by
  obtain ⟨F, ρ, m, τ, r, s, p⟩ := h
  refine ⟨F, ρ, m, τ, r, s, ?_⟩
  unfold lVal bnd at p
  cases e : f τ m with
  | bad =>
    rw [e] at p
    exact p
  | exc x m' =>
    rw [e] at p
    exact p
  | ok w m1 =>
    rw [e] at p
    dsimp only at p
    intro v F1 ρ1 H1 r1 g1 q1
    refine ⟨F1, ρ1, m1, τ, r1, s.go g1, ?_⟩
    cases e2 : g τ m1 with
    | bad =>
      rw [e2] at p
      exact p
    | exc x m' =>
      rw [e2] at p
      exact OkX.back r1 g1 p
    | ok ws m2 =>
      rw [e2] at p
      exact fun vs F2 ρ2 H2 r2 g2 q2 => p (v :: vs) F2 ρ2 H2 r2 (g1.trans g2) ⟨v, vs, rfl, q1.mono g2.ff g2.pre, q2.back fun a n => g1.back_none r1 n⟩
theorem l_own (he : SN c X Wx e fn) (hs : SLs c X Wx es g) (hst : starEach (e :: es) X.env = (false, eval e X.env) :: starEach es X.env := by rfl) : SLs c X Wx (e :: es) (lOwn fn g) := PA.weak (pa_cons he hs hst) fun σ H Q h => by
  obtain ⟨F, ρ, m, τ, r, s, p⟩ := h
  refine ⟨F, ρ, m, τ, r, s, ?_⟩
  unfold lOwn bnd at p
  cases e : fn τ m with
  | bad =>
    rw [e] at p
    exact p
  | exc x m' =>
    rw [e] at p
    exact p
  | ok w m1 =>
    rw [e] at p
    dsimp only at p
    intro a vs1 F1 ρ1 H1 r1 g1 h0 hf hn ha q1
    refine ⟨F1, ρ1, m1, τ, r1, s.go g1, ?_⟩
    cases e2 : g τ m1 with
    | bad =>
      rw [e2] at p
      exact p
    | exc x m' =>
      rw [e2] at p
      exact OkX.back r1 g1 p
    | ok ws m2 =>
      rw [e2] at p
      intro vs F2 ρ2 H2 r2 g2 q2
      obtain ⟨n1, n2⟩ := g2.off a _ ha hn
      refine p (.ref a :: vs) F2 ρ2 H2 r2 (g1.trans g2) ⟨a, _, vs, rfl, n2 hf, n1, h0, g2.keep a _ ha hn, ⟨vs1, rfl, q1.mono g2.ff g2.pre⟩, q2.back fun a n => g1.back_none r1 n, fun j o' h1 h2 => ?_⟩
      obtain ⟨b, h3, h4⟩ := q2.own h1
      rw [h2] at h3
      cases h3
      rw [ha] at h4
      cases h4
end
def putS : List Nat → List Sl → SS → SS
  | i :: is, s :: ss, τ => putS is ss (τ.set i s)
  | _, _, τ => τ
def putV : List Nat → List V → L2.St → L2.St
  | i :: is, s :: ss, τ => putV is ss (τ.set i (some s))
  | _, _, τ => τ
section
variable {c : Cn} {B : Bs}
theorem Fr.takeD {F : Hp} {ρ : List Addr} {m : Sto} {τ : SS} {σ : L2.St} {H : Hp} {i : Nat} {o : MO} {a : Addr} {u : HO} (x : Fr c B F ρ m τ σ H) (i0 : i ≠ 0) (hb : B.H a = none) (hf : F a = none) (hn : a ∉ ρ) (ha : H a = some u) (q : OR c F ρ a o u)
    (hd : ∀ (j : Nat) (o' : MO), τ[j]? = some (.own o') → σ[j]? = some (some (V.ref a)) → False) :
    Fr c B F ρ m (τ.set i (.own o)) (σ.set i (some (.ref a))) H := by
  refine ⟨x.r, x.s.seto hf hn ha q fun j o' ne h1 h2 => hd j o' h1 h2, x.g, fun j o' b h1 h2 => ?_, fun o' b e h1 => ?_⟩
  · rcases get_set h1 with ⟨e1, _⟩ | ⟨ne, h1⟩
    · subst e1
      have hl : i < (σ.set i (some (V.ref a))).length := (List.getElem?_eq_some_iff.mp h2).1
      rw [List.length_set] at hl
      rw [set_get hl] at h2
      cases h2
      exact hb
    · rw [List.getElem?_set_ne ne] at h2
      exact x.fresh j o' b h1 h2
  · rcases get_set h1 with ⟨e1, _⟩ | ⟨ne, h1⟩
    · exact absurd e1 i0
    · rw [List.getElem?_set_ne ne]
      exact x.slf o' b e h1
theorem Fr.puts {F H0 : Hp} {ρ : List Addr} {m : Sto} {H : Hp} (hB : ∀ a, H0 a = none → B.H a = none) : ∀ {is : List Nat} {sls : List Sl} {vs : List V} {τ : SS} {σ : L2.St}, (∀ i ∈ is, i ≠ 0) → RSls c H0 F ρ H sls vs → Fr c B F ρ m τ σ H →
    (∀ (j : Nat) (o' : MO) (b : Addr), τ[j]? = some (.own o') → σ[j]? = some (some (V.ref b)) → ∀ (k : Nat) (o : MO), sls[k]? = some (.own o) → vs[k]? ≠ some (V.ref b)) → Fr c B F ρ m (putS is sls τ) (putV is vs σ) H
  | [], _, _, _, _, _, _, x, _ => by unfold putS putV; exact x
  | i :: is, [], vs, τ, σ, _, h, x, _ => by
    have e : vs = [] := h
    subst e
    exact x
  | i :: is, .val w :: r, vs, τ, σ, hi, h, x, hd => by
    unfold RSls at h
    obtain ⟨v, t, rfl, q, h⟩ := h
    refine Fr.puts (is := is) hB (fun j hj => hi j (List.mem_cons_of_mem _ hj)) h (x.setv q) fun j o' b h1 h2 k o h3 h4 => ?_
    rcases get_set h1 with ⟨_, e⟩ | ⟨ne, h1⟩
    · cases e
    · rw [List.getElem?_set_ne ne] at h2
      exact hd j o' b h1 h2 (k + 1) o (by simpa using h3) (by simpa using h4)
  | i :: is, .own o0 :: r, vs, τ, σ, hi, h, x, hd => by
    unfold RSls at h
    obtain ⟨a, u, t, rfl, hf, hn, h0, ha, q, h, hdd⟩ := h
    refine Fr.puts (is := is) hB (fun j hj => hi j (List.mem_cons_of_mem _ hj)) h (x.takeD (hi i (List.mem_cons_self ..)) (hB a h0) hf hn ha q fun j o' h1 h2 => hd j o' a h1 h2 0 o0 rfl rfl) fun j o' b h1 h2 k o h3 h4 => ?_
    rcases get_set h1 with ⟨e, _⟩ | ⟨ne, h1⟩
    · subst e
      have hl : i < (σ.set i (some (V.ref a))).length := (List.getElem?_eq_some_iff.mp h2).1
      rw [List.length_set] at hl
      rw [set_get hl] at h2
      cases h2
      exact hdd k o h3 h4
    · rw [List.getElem?_set_ne ne] at h2
      exact hd j o' b h1 h2 (k + 1) o (by simpa using h3) (by simpa using h4)
  | i :: is, .un :: _, _, _, _, _, h, _, _ => by unfold RSls at h; exact h.elim
end
def sParO (is : List Nat) (g : Fls) : Fs := fun τ m => exS (g τ m) τ fun ws m' => if ws.length = is.length then .ok (.nx (putS is ws τ)) m' else .bad
section
variable {c : Cn} {X : Cx} {Wx : WX} {B : Bs} {g : Fls} {pos : Pos}
theorem RSls.len {F H0 H : Hp} {ρ : List Addr} : ∀ {r : List Sl} {t : List V}, RSls c H0 F ρ H r t → t.length = r.length
  | [], _, h => by
    have e : _ = [] := h
    rw [e]
    rfl
  | .val w :: r, t, h => by
    unfold RSls at h
    obtain ⟨v, t', rfl, _, h⟩ := h
    simp [RSls.len h]
  | .own o' :: r, t, h => by
    unfold RSls at h
    obtain ⟨a, u, t', rfl, _, _, h0, _, _, h, _⟩ := h
    simp [RSls.len h]
  | .un :: _, _, h => by unfold RSls at h; exact h.elim
theorem useLs {F : Hp} {ρ : List Addr} {m : Sto} {τ : SS} {σ : L2.St} {H : Hp} {is : List Nat} {Q : List V → Hp → Prop} {D : Ends} (fr : Fr c B F ρ m τ σ H) (h0 : ∀ i ∈ is, i ≠ 0) (p : Post (okS c Wx B D) (fun _ _ => False) (sParO is g τ m))
    (h : ∀ v H', v.length = is.length → D.nx (putV is v σ) H' → Q v H') : sLs c Wx g σ H Q := by
  refine ⟨F, ρ, m, τ, fr.r, fr.s, ?_⟩
  unfold sParO exS at p
  cases e : g τ m with
  | bad =>
    rw [e] at p
    exact p
  | exc x m' =>
    rw [e] at p
    exact Fr.ex (D := D) fr p
  | ok w m1 =>
    rw [e] at p
    dsimp only at p
    intro v F1 ρ1 H1 r1 g1 q
    by_cases hl : w.length = is.length
    · rw [if_pos hl] at p
      refine h v H1 (by rw [q.len, hl]) (p _ _ _ _ (Fr.puts (fun a n => fr.bnone n) h0 q (fr.go r1 g1) fun j o' b h1 h2 k o h3 h4 => ?_))
      obtain ⟨b', u, e1, _, _, e2, _⟩ := fr.s.own j o' h1
      rw [h2] at e1
      cases e1
      obtain ⟨a, e3, e4⟩ := q.own h3
      rw [h4] at e3
      cases e3
      rw [e2] at e4
      cases e4
    · rw [if_neg hl] at p
      exact p.elim
theorem x_parO {i j : Nat} {x y : Str} {px py pt pt2 : Pos} {kt k2} {a b : Expr} (hc : X.calm = true) (hN : X.N.Nodup) (hij : i ≠ j) (ha : SLs c X Wx [a, b] g) (i0 : ∀ k ∈ [i, j], k ≠ 0 := by decide) (hi : X.N[i]? = some x := by rfl) (hj : X.N[j]? = some y := by rfl) (hx : X.env.scope.names.lookup x = some .local := by rfl) (hy : X.env.scope.names.lookup y = some .local := by rfl)
    (hw : swappedStores [.Tuple [.Name x px, .Name y py] kt pt] (.Tuple [a, b] k2 pt2) X.env = pure (some [x, y]) := by rfl) (hs : swapsWithSole [.Tuple [.Name x px, .Name y py] kt pt] (.Tuple [a, b] k2 pt2) pos.line X.env = pure false := by rfl) :
    SX c X Wx B (.Assign [.Tuple [.Name x px, .Name y py] kt pt] (.Tuple [a, b] k2 pt2) pos) (sParO [i, j] g) :=
  PS.weak (ps_par hc hN hi hj hij hx hy ha hw hs) fun D σ H ⟨F, ρ, m, τ, fr, p⟩ => useLs fr i0 p fun v H' hl q => by
    match v, hl, q with
    | [v1, v2], _, q => exact ⟨v1, v2, rfl, q⟩
theorem x_par3O {i j l : Nat} {x y z : Str} {px py pz pt pt2 : Pos} {kt k2} {a b d : Expr} (hc : X.calm = true) (hN : X.N.Nodup) (hij : i ≠ j) (hil : i ≠ l) (hjl : j ≠ l) (ha : SLs c X Wx [a, b, d] g) (i0 : ∀ k ∈ [i, j, l], k ≠ 0 := by decide) (hi : X.N[i]? = some x := by rfl) (hj : X.N[j]? = some y := by rfl) (hl : X.N[l]? = some z := by rfl)
    (hx : X.env.scope.names.lookup x = some .local := by rfl) (hy : X.env.scope.names.lookup y = some .local := by rfl) (hz : X.env.scope.names.lookup z = some .local := by rfl)
    (hw : swappedStores [.Tuple [.Name x px, .Name y py, .Name z pz] kt pt] (.Tuple [a, b, d] k2 pt2) X.env = pure (some [x, y, z]) := by rfl) (hs : swapsWithSole [.Tuple [.Name x px, .Name y py, .Name z pz] kt pt] (.Tuple [a, b, d] k2 pt2) pos.line X.env = pure false := by rfl) :
    SX c X Wx B (.Assign [.Tuple [.Name x px, .Name y py, .Name z pz] kt pt] (.Tuple [a, b, d] k2 pt2) pos) (sParO [i, j, l] g) :=
  PS.weak (ps_par3 hc hN hi hj hl hij hil hjl hx hy hz ha hw hs) fun D σ H ⟨F, ρ, m, τ, fr, p⟩ => useLs fr i0 p fun v H' hl q => by
    match v, hl, q with
    | [v1, v2, v3], _, q => exact ⟨v1, v2, v3, rfl, q⟩
end
/-! walking -/
section
variable {τ : SS} {m : Sto} {E : PX}
theorem Wp.lNil {Q : PQ (List Sl)} : Wp (lNil τ m) Q E = Q [] m := rfl
def kLsB (w : Sl) (Q : PQ (List Sl)) : PQ (List Sl) := fun ws m => Q (w :: ws) m
theorem kLsB_ap {w : Sl} {ws : List Sl} {Q : PQ (List Sl)} : kLsB w Q ws m = Q (w :: ws) m := rfl
def kLsV (g : Fls) (τ : SS) (Q : PQ (List Sl)) (E : PX) : PQ W := fun w m => Wp (g τ m) (kLsB (.val w) Q) E
theorem kLsV_ap {g : Fls} {w : W} {Q : PQ (List Sl)} : kLsV g τ Q E w m = Wp (g τ m) (kLsB (.val w) Q) E := rfl
theorem Wp.lVal {f : Fe} {g : Fls} {Q : PQ (List Sl)} : Wp (lVal f g τ m) Q E = Wp (f τ m) (kLsV g τ Q E) E := by
  unfold Sm.lVal
  simp only [Wp.bnd]
  rfl
def kLsO (g : Fls) (τ : SS) (Q : PQ (List Sl)) (E : PX) : PQ (List W) := fun w m => Wp (g τ m) (kLsB (.own (.lst w)) Q) E
theorem kLsO_ap {g : Fls} {w : List W} {Q : PQ (List Sl)} : kLsO g τ Q E w m = Wp (g τ m) (kLsB (.own (.lst w)) Q) E := rfl
theorem Wp.lOwn {f : Fas} {g : Fls} {Q : PQ (List Sl)} : Wp (lOwn f g τ m) Q E = Wp (f τ m) (kLsO g τ Q E) E := by
  unfold Sm.lOwn
  simp only [Wp.bnd]
  rfl
def kParO (is : List Nat) (τ : SS) (Q : PQ Out) : PQ (List Sl) := fun ws m => if ws.length = is.length then Q (.nx (putS is ws τ)) m else False
theorem kParO_ap {is : List Nat} {ws : List Sl} {Q : PQ Out} (h : ws.length = is.length) : kParO is τ Q ws m = Q (.nx (putS is ws τ)) m := if_pos h
theorem Wp.sParO {is : List Nat} {g : Fls} {Q : PQ Out} : Wp (sParO is g τ m) Q E = Wp (g τ m) (kParO is τ Q) (kEx τ Q) := by
  unfold Sm.sParO
  rw [Wp.exS]
  congr 1
  funext ws m'
  unfold kParO
  split <;> rfl
end
end Sm

/-! S65: {"k": c, ..}.get(e, f); x not in (data). -/
namespace Sm
open PySem PySem.Spec PyProof.Rows L2
inductive DRow (c : Cn) (X : Cx) (pos : Pos) : List (Option Expr) → List Expr → List (Str × W) → List (Key × V) → Prop where
  | nil : DRow c X pos [] [] [] []
  | cons {k v : Expr} {x : Str} {y : V} {w : W} {ks : List (Option Expr)} {vs : List Expr} {rows : List (Str × W)} {kvs : List (Key × V)} (hk : PE X k (tC (.str x))) (hv : PE X v (tC y)) (hw : ∀ F ρ, RW c F ρ w y) (hr : DRow c X pos ks vs rows kvs) :
      DRow c X pos (some k :: ks) (v :: vs) ((x, w) :: rows) ((.inr x, y) :: kvs)
section
variable {c : Cn} {X : Cx} {pos : Pos}
theorem DRow.pps {ks : List (Option Expr)} {vs : List Expr} {rows : List (Str × W)} {kvs : List (Key × V)} (h : DRow c X pos ks vs rows kvs) : PPs X pos ks vs (kvs.map fun r => (tC (kV r.1), tC r.2)) := by
  induction h with
  | nil => exact pps_nil
  | cons hk hv hw _ ih => exact pps_cons hk hv ih
theorem tPairs_c : ∀ {kvs : List (Key × V)} {σ : L2.St} {H : Hp} {Q : List (V × V) → Hp → Prop}, Q (kvs.map fun r => (kV r.1, r.2)) H → tPairs (kvs.map fun r => (tC (kV r.1), tC r.2)) σ H Q
  | [], σ, H, Q, h => h
  | r :: kvs, σ, H, Q, h => by
    show tPairs (kvs.map fun r => (tC (kV r.1), tC r.2)) σ H fun ps H3 => Q ((kV r.1, r.2) :: ps) H3
    exact tPairs_c h
theorem DRow.look {ks : List (Option Expr)} {vs : List Expr} {rows : List (Str × W)} {kvs : List (Key × V)} (h : DRow c X pos ks vs rows kvs) (x : Str) : (valV kvs (.inr x) = none ∧ rows.lookup x = none) ∨ ∃ y w, valV kvs (.inr x) = some y ∧ rows.lookup x = some w ∧ ∀ F ρ, RW c F ρ w y := by
  induction h with
  | nil => exact .inl ⟨rfl, rfl⟩
  | @cons k v x' y w ks vs rows kvs hk hv hw _ ih =>
    by_cases e : x' = x
    · refine .inr ⟨y, w, valV_pos (by rw [e]), ?_, hw⟩
      rw [List.lookup_cons, e, beq_self_eq_true]
    · have e2 : (x == x') = false := by simpa using fun z : x = x' => e z.symm
      rw [valV_neg (fun z => e (by simpa using z)), List.lookup_cons, e2]
      exact ih
theorem DRow.lens {ks : List (Option Expr)} {vs : List Expr} {rows : List (Str × W)} {kvs : List (Key × V)} (h : DRow c X pos ks vs rows kvs) : ks.all (·.isSome) = true ∧ ks.length = vs.length ∧ kvs.length = ks.length ∧ rows.map (fun r => (Sum.inr r.1 : Key)) = kvs.map (·.1) := by
  induction h with
  | nil => exact ⟨rfl, rfl, rfl, rfl⟩
  | cons hk hv hw _ ih =>
    obtain ⟨h1, h2, h3, h4⟩ := ih
    refine ⟨?_, by simp [h2], by simp [h3], by simp [h4]⟩
    simpa using h1
end
theorem putK_new {kvs : List (Key × V)} {k : Key} {v : V} (h : k ∉ kvs.map (·.1)) : putK kvs k v = kvs ++ [(k, v)] := by
  unfold putK
  rw [if_neg]
  intro z
  obtain ⟨p, hp, e⟩ := List.any_eq_true.mp z
  exact h (List.mem_map.mpr ⟨p, hp, of_decide_eq_true e⟩)
theorem mergeK_new : ∀ {more kvs : List (Key × V)}, (kvs.map (·.1) ++ more.map (·.1)).Nodup → mergeK kvs more = kvs ++ more
  | [], kvs, _ => by simp [mergeK]
  | p :: more, kvs, h => by
    have h1 : p.1 ∉ kvs.map (·.1) := by
      intro z
      rw [List.nodup_append] at h
      exact h.2.2 _ z _ (by simp) rfl
    have h2 := mergeK_new (more := more) (kvs := kvs ++ [(p.1, p.2)]) (by simpa using h)
    show mergeK (putK kvs p.1 p.2) more = _
    rw [putK_new h1, h2]
    simp
def eDG (rows : List (Str × W)) (fe ff : Fe) : Fe := fun τ => bnd (fe τ) fun k => bnd (ff τ) fun z m => match k with
  | .str x => (match rows.lookup x with
    | some w => .ok w m
    | none => .ok z m)
  | _ => .bad
section
variable {cl : Str → Addr} {X : Cx} {Wx : WX} {pos apos cpos : Pos} {ks : List (Option Expr)} {vs : List Expr} {rows : List (Str × W)} {kvs : List (Key × V)} {e f : Expr} {fe ff : Fe}
theorem s_dg {k : Nat} {c : Cn} (hr : Room k X.A) (hd : DRow c X pos ks vs rows kvs) (he : SE c X Wx e fe) (hf : SE c X Wx f ff) (hn : ((kvs.map (·.1)).Nodup) := by decide) (h15 : ks.length ≤ 15 := by decide) (h0 : ks ≠ [] := by exact List.cons_ne_nil _ _)
    (hm : M2 X (.Dict ks vs pos) "get" apos e f cpos := by exact ⟨rfl, rfl, rfl, rfl⟩) : SE c X Wx (.Call (.Attribute (.Dict ks vs pos) "get" apos) [e, f] [] cpos) (eDG rows fe ff) := by
  obtain ⟨l1, l2, l3, _⟩ := hd.lens
  refine PE.weak (pe_dget2 (by have := hr.un; omega) (pe_disp hd.pps l1 l2 h0 h15) he hf hm) fun σ H Q ⟨F, ρ, m, τ, r, s, p⟩ => ?_
  intro a na
  refine tPairs_c ⟨upd_same, kvs, rfl, by omega, ?_⟩
  have em : mergeK [] kvs = kvs := by
    have := mergeK_new (more := kvs) (kvs := []) (by simpa using hn)
    simpa using this
  rw [em]
  have eu : upd (upd H a (.dK [])) a (.dK kvs) = upd H a (.dK kvs) := by
    funext b
    by_cases hb : b = a
    · subst hb
      rw [upd_same, upd_same]
    · rw [upd_ne hb, upd_ne hb, upd_ne hb]
  rw [eu]
  obtain ⟨r1, g1⟩ := r.newH na (.dK kvs)
  have ni := r.notin na
  refine ⟨a, rfl, .inl ⟨kvs, .of upd_same⟩, F, ρ, m, τ, r1, s.go g1, ?_⟩
  unfold eDG bnd at p
  cases e1 : fe τ m with
  | bad =>
    rw [e1] at p
    exact p
  | exc x m' =>
    rw [e1] at p
    exact OkX.back r1 g1 p
  | ok w1 m1 =>
    rw [e1] at p
    dsimp only at p
    intro v1 F1 ρ1 H1 r2 g2 q1
    refine ⟨F1, ρ1, m1, τ, r2, (s.go g1).go g2, ?_⟩
    cases e2 : ff τ m1 with
    | bad =>
      rw [e2] at p
      exact p
    | exc x m' =>
      rw [e2] at p
      exact OkX.back r2 (g1.trans g2) p
    | ok w2 m2 =>
      rw [e2] at p
      dsimp only at p
      intro v2 F2 ρ2 H2 r3 g3 q2
      cases w1 with
      | str x =>
        have ev : v1 = .str x := q1
        subst ev
        have k1 := g2.keep a _ upd_same ni
        have k2 := g3.keep a _ k1 (g2.off a _ upd_same ni).1
        refine ⟨valV kvs (.inr x), DGet.k (k := .inr x) k2, ?_⟩
        dsimp only at p
        rcases hd.look x with ⟨h1, h2⟩ | ⟨y, w, h1, h2, h3⟩
        · rw [h2] at p
          rw [h1]
          exact p _ F2 ρ2 H2 r3 ((g1.trans g2).trans g3) q2
        · rw [h2] at p
          rw [h1]
          exact p _ F2 ρ2 H2 r3 ((g1.trans g2).trans g3) (h3 F2 ρ2)
      | _ => exact p.elim
end
section
variable {cl : Str → Addr} {X : Cx}
theorem o_ninD (hu : X.A.units + 65 < cLine) : OpR X (compareOp .NotIn) (rS ⟨X.K, cl⟩ ninDW) := by
  intro pins s σ H x y v u Q I rx ry h
  obtain ⟨F, ρ, m, w1, w2, w, r, q1, q2, e, k⟩ := h
  unfold ninDW inDB at e
  split at e
  · rename_i d ds e1 e2
    split at e
    · rename_i hs
      cases e
      obtain ⟨as, r1⟩ := Dp.reads I d x v (deref_dp r q1 e1) rx
      obtain ⟨bs, r2⟩ := Dp.reads I (.tuple ds) y u (deref_dp r q2 e2) ry
      exact SeqAt.notIn_tuple_reads r2 r1 (SeqAt.canLay_of_shaped hs.2) (SeqAt.canLay_of_shaped hs.1) (room_in_shaped hs.1 hu) ⟨.bl _, H, I, rfl, k _ F ρ H r .refl rfl⟩
    · cases e
  · rename_i d ds e1 e2
    split at e
    · rename_i hs
      cases e
      exact op_notInD hu pins s σ H x y v u Q I rx ry ⟨d, ds, deref_dp r q1 e1, deref_dp r q2 e2, hs.1, hs.2, k _ F ρ H r .refl rfl⟩
    · cases e
  · cases e
end
/-! walking -/
section
variable {τ : SS} {m : Sto} {E : PX}
def kDG2 (rows : List (Str × W)) (k : W) (Q : PQ W) : PQ W := fun z m => match k with
  | .str x => (match rows.lookup x with
    | some w => Q w m
    | none => Q z m)
  | _ => False
theorem kDG2_some {rows : List (Str × W)} {x : Str} {w z : W} {Q : PQ W} (h : rows.lookup x = some w) : kDG2 rows (.str x) Q z m = Q w m := by unfold kDG2; dsimp only; rw [h]
theorem kDG2_none {rows : List (Str × W)} {x : Str} {z : W} {Q : PQ W} (h : rows.lookup x = none) : kDG2 rows (.str x) Q z m = Q z m := by unfold kDG2; dsimp only; rw [h]
def kDG1 (rows : List (Str × W)) (ff : Fe) (τ : SS) (Q : PQ W) (E : PX) : PQ W := fun k m => Wp (ff τ m) (kDG2 rows k Q) E
theorem kDG1_ap {rows : List (Str × W)} {ff : Fe} {k : W} {Q : PQ W} : kDG1 rows ff τ Q E k m = Wp (ff τ m) (kDG2 rows k Q) E := rfl
theorem Wp.eDG {rows : List (Str × W)} {fe ff : Fe} {Q : PQ W} : Wp (eDG rows fe ff τ m) Q E = Wp (fe τ m) (kDG1 rows ff τ Q E) E := by
  unfold Sm.eDG
  simp only [Wp.bnd]
  congr 1
  funext k m1
  unfold kDG1
  congr 1
  funext z m2
  unfold kDG2
  cases k with
  | str x =>
    dsimp only
    cases rows.lookup x <;> rfl
  | _ => rfl
end
end Sm

/-! S66: walking: methods of lists of the store, o[i] = e. -/
namespace Sm
open PySem PySem.Spec PyProof.Rows L2
section
variable {τ : SS} {m : Sto} {E : PX}
def hO (o : Option (W × List W)) (Q : PQ W) (m : Sto) (i : Nat) : Prop := match o with
  | some (w, ys) => Q w (m.set i (.lst ys))
  | none => False
theorem hO_some {w : W} {ys : List W} {Q : PQ W} {i : Nat} : hO (some (w, ys)) Q m i = Q w (m.set i (.lst ys)) := rfl
def mO (o : Option MO) (h : List W → List W → Option (W × List W)) (ws : List W) (Q : PQ W) (m : Sto) (i : Nat) : Prop := match o with
  | some (.lst xs) => hO (h xs ws) Q m i
  | _ => False
theorem mO_lst {xs : List W} {h : List W → List W → Option (W × List W)} {ws : List W} {Q : PQ W} {i : Nat} : mO (some (.lst xs)) h ws Q m i = hO (h xs ws) Q m i := rfl
def kMtB (h : List W → List W → Option (W × List W)) (i : Nat) (Q : PQ W) : PQ (List W) := fun ws m => mO m[i]? h ws Q m i
theorem kMtB_ap {h : List W → List W → Option (W × List W)} {i : Nat} {ws : List W} {Q : PQ W} : kMtB h i Q ws m = mO m[i]? h ws Q m i := rfl
def mC (o : Option MO) (h : List W → List W → Option (W × List W)) (g : Fas) (τ : SS) (Q : PQ W) (E : PX) (i : Nat) (m : Sto) : Prop := match o with
  | some (.lst _) => Wp (g τ m) (kMtB h i Q) E
  | _ => False
theorem mC_lst {xs : List W} {h : List W → List W → Option (W × List W)} {g : Fas} {Q : PQ W} {i : Nat} : mC (some (.lst xs)) h g τ Q E i m = Wp (g τ m) (kMtB h i Q) E := rfl
def kMt (h : List W → List W → Option (W × List W)) (g : Fas) (τ : SS) (Q : PQ W) (E : PX) : PQ W := fun o m => match o with
  | .ref i => mC m[i]? h g τ Q E i m
  | _ => False
theorem kMt_ref {h : List W → List W → Option (W × List W)} {g : Fas} {Q : PQ W} {i : Nat} : kMt h g τ Q E (.ref i) m = mC m[i]? h g τ Q E i m := rfl
theorem Wp.eMt {h : List W → List W → Option (W × List W)} {fo : Fe} {g : Fas} {Q : PQ W} : Wp (eMt h fo g τ m) Q E = Wp (fo τ m) (kMt h g τ Q E) E := by
  unfold Sm.eMt
  rw [Wp.bnd]
  congr 1
  funext o m'
  unfold kMt
  cases o with
  | ref i =>
    dsimp only
    unfold mC
    cases m'[i]? with
    | none => rfl
    | some x =>
      cases x with
      | lst xs =>
        dsimp only
        rw [Wp.bnd]
        congr 1
        funext ws m2
        unfold kMtB mO
        cases m2[i]? with
        | none => rfl
        | some y =>
          cases y with
          | lst ys =>
            dsimp only
            unfold hO
            cases h ys ws with
            | none => rfl
            | some p => rfl
          | _ => rfl
      | _ => rfl
  | _ => rfl
end
section
variable {τ : SS} {m : Sto} {E : PX}
def sxN (o : Option Nat) (xs : List W) (w : W) (τ : SS) (Q : PQ Out) (m : Sto) (j : Nat) : Prop := match o with
  | some q => Q (.nx τ) (m.set j (.lst (xs.set q w)))
  | none => False
theorem sxN_some {q : Nat} {xs : List W} {w : W} {Q : PQ Out} {j : Nat} : sxN (some q) xs w τ Q m j = Q (.nx τ) (m.set j (.lst (xs.set q w))) := rfl
def sxO (o : Option MO) (n : Int) (w : W) (τ : SS) (Q : PQ Out) (m : Sto) (j : Nat) : Prop := match o with
  | some (.lst xs) => sxN (ixN xs.length n) xs w τ Q m j
  | _ => False
theorem sxO_lst {xs : List W} {n : Int} {w : W} {Q : PQ Out} {j : Nat} : sxO (some (.lst xs)) n w τ Q m j = sxN (ixN xs.length n) xs w τ Q m j := rfl
def kSxC (τ : SS) (w b : W) (Q : PQ Out) : PQ W := fun k m => match b, k with
  | .ref j, .int n => sxO m[j]? n w τ Q m j
  | _, _ => False
theorem kSxC_ap {w : W} {j : Nat} {n : Int} {Q : PQ Out} : kSxC τ w (.ref j) Q (.int n) m = sxO m[j]? n w τ Q m j := rfl
def kSxB (fi : Fe) (τ : SS) (w : W) (Q : PQ Out) : PQ W := fun b m => Wp (fi τ m) (kSxC τ w b Q) (kEx τ Q)
theorem kSxB_ap {fi : Fe} {w b : W} {Q : PQ Out} : kSxB fi τ w Q b m = Wp (fi τ m) (kSxC τ w b Q) (kEx τ Q) := rfl
def kSxA (fo fi : Fe) (τ : SS) (Q : PQ Out) : PQ W := fun w m => Wp (fo τ m) (kSxB fi τ w Q) (kEx τ Q)
theorem kSxA_ap {fo fi : Fe} {w : W} {Q : PQ Out} : kSxA fo fi τ Q w m = Wp (fo τ m) (kSxB fi τ w Q) (kEx τ Q) := rfl
theorem Wp.sSetIx {fe fo fi : Fe} {Q : PQ Out} : Wp (sSetIx fe fo fi τ m) Q E = Wp (fe τ m) (kSxA fo fi τ Q) (kEx τ Q) := by
  unfold Sm.sSetIx
  rw [Wp.exS]
  congr 1
  funext w m1
  rw [Wp.exS]
  unfold kSxA
  congr 1
  funext b m2
  rw [Wp.exS]
  unfold kSxB
  congr 1
  funext k m3
  unfold kSxC
  cases b with
  | ref j =>
    cases k with
    | int n =>
      dsimp only
      unfold sxO
      cases m3[j]? with
      | none => rfl
      | some o =>
        cases o with
        | lst xs =>
          dsimp only
          unfold sxN
          cases ixN xs.length n <;> rfl
        | _ => rfl
    | _ => rfl
  | _ => cases k <;> rfl
end
end Sm

/-! S67: sets of keys of any one kind: made of a list, gathered, sorted. -/
namespace Sm
open PySem PySem.Spec PyProof.Rows L2
section
variable {κ : Type} [DecidableEq κ] {P : Program} {w : World} (knd : KeyKind P w κ) (key : Value → κ)
abbrev kE (e : Int × Value) : κ := key e.2
/-- the set at a: its keys, in some order; it can be walked -/
def SetG (h : Heap) (a : Addr) (ks : List κ) : Prop := ∃ (o : Obj) (es : Array (Int × Value)) (ep : Nat) (t : SetTable), h.get? a = some o ∧ o.ExactSet ∧ o.data = .set es ep t ∧ ElemsOf knd es.toList ∧
  (es.toList.map (kE key)).Perm ks ∧ ks.Nodup ∧ es.size < scanBound ∧ t.fits es.size = true ∧ Ris t.place.toList ∧ (w.params.followText "set-order" = true ∨ t.led = true)
end
section
variable {κ : Type} [DecidableEq κ] {P : Program} {w : World} {knd : KeyKind P w κ} {key : Value → κ} {h h' : Heap} {a : Addr} {ks : List κ}
theorem SetG.keep (R : SetG knd key h a ks) (k : ∀ o, h.get? a = some o → h'.get? a = some o) : SetG knd key h' a ks := let ⟨o, es, ep, t, ho, r⟩ := R; ⟨o, es, ep, t, k o ho, r⟩
theorem els_is (hk : ∀ k v, knd.is k v = true → key v = k) {l : List (Int × Value)} (g : ElemsOf knd l) (k : κ) : k ∈ l.map (kE key) ↔ ∃ e ∈ l, knd.is k e.2 = true := by
  rw [List.mem_map]
  constructor
  · rintro ⟨e, he, rfl⟩; obtain ⟨⟨k, h1, _⟩, _⟩ := g e he; exact ⟨e, he, by rw [kE, hk k _ h1]; exact h1⟩
  · rintro ⟨e, he, q⟩; exact ⟨e, he, hk k _ q⟩
variable {A : Around} {E : Value → Shared → Prop} {s : Shared}
theorem rul (n : String) (b : Bool) {s₁ : Shared} {Q' : Unit → Shared → Prop} (q : Q' () s₁) : wpAny (model P w) A (match b with | true => rule n | false => pure ()) Q' E s₁ := by cases b <;> first | exact wpAny_pure q | exact wpAny_rule q
/-- behind the table's new row: the row stands, the table grows or not -/
theorem addG_tail {g : Bool → Sem Unit} (hg : ∀ (b : Bool) (s₁ : Shared) (Q' : Unit → Shared → Prop), Q' () s₁ → wpAny (model P w) A (g b) Q' E s₁) {o : Obj} {es es1 : Array (Int × Value)} {ep : Nat} {t t2 : SetTable} (ho : s.heap.get? a = some o) (hex : o.ExactSet) (hd : o.data = .set es ep t)
    (g1 : ElemsOf knd es1.toList) (p1 : (es1.toList.map (kE key)).Perm ks) (nd : ks.Nodup) (hb1 : es1.size < scanBound) (hf2 : t2.fits es1.size = true) (hr : Ris t2.place.toList) (hl : w.params.followText "set-order" = true ∨ t2.led = true) {wd : Bool} {R : Option Bool → Shared → Prop}
    (hR : ∀ h', Heap.SameBut a s.heap h' → SetG knd key h' a ks → R (some true) { s with heap := h' }) :
    wpAny (model P w) A (do
        storeSet a es1 t2
        if (!wd && t2.tooFull) = true then do
            g (relayAll t2 es1 (SetTable.grown es1.size)).2.2
            storeSet a (relayAll t2 es1 (SetTable.grown es1.size)).1 (relayAll t2 es1 (SetTable.grown es1.size)).2.1
            pure (some true)
          else pure (some true)) R E s := by
  have b1 := store_at (es' := es1) (t' := t2) ho hd; have c1 := Heap.SameBut.update s.heap a (Obj.putSet es1 t2)
  refine wpAny_bind (wpAny_storeSet_of ho hd ?_ (fits_of_scanBound hb1)); split
  · have pm := relayAll_perm t2 es1 (SetTable.grown es1.size); have f3 := relayAll_fits t2 es1 (SetTable.grown es1.size); have r3 := relayAll_ris t2 es1 (SetTable.grown es1.size); have l3 := relayAll_led t2 es1 (SetTable.grown es1.size)
    generalize relayAll t2 es1 (SetTable.grown es1.size) = Z at pm f3 r3 l3 ⊢
    obtain ⟨es2, t3, gv⟩ := Z; dsimp only at pm f3 r3 l3 ⊢
    have z2 : es2.size = es1.size := by rw [← Array.length_toList, pm.length_eq, Array.length_toList]
    have hb2 : es2.size < scanBound := z2 ▸ hb1
    refine wpAny_bind (hg _ _ _ ?_); refine wpAny_bind (wpAny_storeSet_of b1 rfl ?_ (fits_of_scanBound hb2))
    exact wpAny_pure (hR _ (c1.trans (Heap.SameBut.update _ a _)) ⟨_, es2, _, t3, store_at (es' := es2) (t' := t3) b1 rfl, hex, rfl, fun e he => g1 e (pm.mem_iff.mp he), (pm.map _).trans p1, nd, hb2, f3, r3, hl.imp id fun z => l3 ▸ z⟩)
  · exact wpAny_pure (hR _ c1 ⟨_, es1, _, t2, b1, hex, rfl, g1, p1, nd, hb1, hf2, hr, hl⟩)
theorem addG (hk : ∀ k v, knd.is k v = true → key v = k) {k : κ} {x : Value} (hx : knd.is k x = true) (hsc : x.scannable = true) {Q : Bool → Shared → Prop} (R : SetG knd key s.heap a ks) (room : ks.length + 1 < scanBound)
    (hQ : ∀ b h', Heap.SameBut a s.heap h' → SetG knd key h' a (if k ∈ ks then ks else k :: ks) → Q b { s with heap := h' }) : wpAny (model P w) A (setAddHashed a x (knd.hash k)) Q E s := by
  obtain ⟨o, es, ep, t, ho, hex, hd, g, pk, nd, hb, hf, hr, hl⟩ := R
  unfold setAddHashed setAddHashedIn; refine wpAny_holding (wpAny_bind (wpAny_setState_of ho hd hf ?_)); dsimp only; rw [byScan_of hsc hb g]; simp only [↓reduceIte]
  unfold setAddByScan; refine wpAny_bind (wpAny_bind (wpAny_rule (wpAny_bind (wpAny_setScan_of hx ho hd hf g ?_))))
  cases hfi : List.findIdx? (fun e => knd.is k e.2) es.toList with
  | some j =>
    obtain ⟨hj, pj, _⟩ := List.findIdx?_eq_some_iff_getElem.mp hfi
    have hin : k ∈ ks := pk.mem_iff.mp ((els_is hk g k).2 ⟨es.toList[j], List.getElem_mem hj, pj⟩)
    dsimp only; refine wpAny_pure (wpAny_pure (hQ _ s.heap (Heap.SameBut.refl a s.heap) ?_)); rw [if_pos hin]
    exact ⟨o, es, ep, t, ho, hex, hd, g, pk, nd, hb, hf, hr, hl⟩
  | none =>
    have hnk : k ∉ ks := fun z => by obtain ⟨e, he, q⟩ := (els_is hk g k).1 (pk.mem_iff.mpr z); have c := List.findIdx?_eq_none_iff.mp hfi e he; rw [q] at c; cases c
    have pm := layNew_perm t es (knd.hash k) x; have f1 := layNew_fits t es (knd.hash k) x; have r1 := layNew_ris t es (knd.hash k) x hr; have l1 := layNew_led t es (knd.hash k) x
    dsimp only; generalize layNew t es (knd.hash k) x = Z at pm f1 r1 l1 ⊢
    obtain ⟨es1, t1, wd, gv⟩ := Z; dsimp only at pm f1 r1 l1 ⊢; rw [Array.toList_push] at pm
    have pc : es1.toList.Perm ((knd.hash k, x) :: es.toList) := pm.trans (List.perm_append_singleton _ _)
    have p1 : (es1.toList.map (kE key)).Perm (k :: ks) := (pc.map (kE key)).trans (by rw [List.map_cons, show kE key (knd.hash k, x) = k from hk k x hx]; exact List.Perm.cons k pk)
    have g1 : ElemsOf knd es1.toList := fun e he => (List.mem_cons.mp (pc.mem_iff.mp he)).elim (fun z => by rw [z]; exact ⟨⟨k, hx, rfl⟩, hsc⟩) (g e)
    have hz : es1.size = ks.length + 1 := by rw [← Array.length_toList, ← List.length_map (kE key), p1.length_eq, List.length_cons]
    have hb1 : es1.size < scanBound := hz ▸ room
    have nd1 : (k :: ks).Nodup := List.nodup_cons.mpr ⟨hnk, nd⟩
    have led : w.params.followText "set-order" = true ∨ t1.led = true := hl.imp id fun z => l1 ▸ z
    have fin : ∀ h', Heap.SameBut a s.heap h' → SetG knd key h' a (k :: ks) → Q true { s with heap := h' } := fun h' sb r => hQ _ h' sb (by rw [if_neg hnk]; exact r)
    refine wpAny_bind (rul _ _ ?_); split
    · refine wpAny_bind ?_; rw [hashByValue_scannable 8 hsc]; refine wpAny_pure (addG_tail (fun b s₁ Q' q => rul _ b q) ho hex hd g1 p1 nd1 hb1 ?_ ?_ ?_ fun h' sb r => by dsimp only; exact wpAny_pure (fin h' sb r))
      · first | (split <;> first | exact f1 | exact SetTable.fits_plain_off f1) | exact f1
      · first | (split <;> exact r1) | exact r1
      · first | (split <;> exact led) | exact led
    · refine wpAny_bind (wpAny_pure ?_); simp only [↓reduceIte]
      exact addG_tail (fun b s₁ Q' q => rul _ b q) ho hex hd g1 p1 nd1 hb1 f1 r1 led fun h' sb r => by dsimp only; exact wpAny_pure (fin h' sb r)
end
end Sm

/-! S68: set(list) of keys of one kind. -/
namespace Sm
open PySem PySem.Spec PyProof.Rows L2
def addAll {κ : Type} [DecidableEq κ] : List κ → List κ → List κ
  | ks, [] => ks
  | ks, x :: r => addAll (if x ∈ ks then ks else x :: ks) r
theorem addAll_nd {κ : Type} [DecidableEq κ] : ∀ (xs ks : List κ), ks.Nodup → (addAll ks xs).Nodup
  | [], _, h => h
  | x :: r, ks, h => addAll_nd r _ (by split; exact h; exact List.nodup_cons.mpr ⟨by assumption, h⟩)
theorem addAll_mem {κ : Type} [DecidableEq κ] (k : κ) : ∀ (xs ks : List κ), k ∈ addAll ks xs ↔ k ∈ ks ∨ k ∈ xs
  | [], ks => by simp [addAll]
  | x :: r, ks => by
    have ih := addAll_mem k r (if x ∈ ks then ks else x :: ks)
    rw [addAll, ih, List.mem_cons]
    by_cases h : x ∈ ks
    · rw [if_pos h]; constructor
      · exact fun z => z.imp id .inr
      · intro z; rcases z with z | z | z
        · exact .inl z
        · exact .inl (z ▸ h)
        · exact .inr z
    · rw [if_neg h, List.mem_cons]; constructor
      · intro z; rcases z with (z | z) | z
        · exact .inr (.inl z)
        · exact .inl z
        · exact .inr (.inr z)
      · intro z; rcases z with z | z | z
        · exact .inl (.inr z)
        · exact .inl (.inl z)
        · exact .inr z
theorem addAll_len {κ : Type} [DecidableEq κ] : ∀ (xs ks : List κ), (addAll ks xs).length ≤ ks.length + xs.length
  | [], ks => by simp [addAll]
  | x :: r, ks => by
    rw [addAll]; have := addAll_len r (if x ∈ ks then ks else x :: ks)
    have q : (if x ∈ ks then ks else x :: ks).length ≤ ks.length + 1 := by by_cases h : x ∈ ks <;> simp [h]
    rw [List.length_cons]; omega
section
variable {κ : Type} [DecidableEq κ] {P : Program} {w : World} {knd : KeyKind P w κ} {key : Value → κ} {A : Around} {R : Result → Shared → Prop} {I : Addr} {fp wr : List Addr} {G : Array GenState → Array GenState → Prop} {n : Nat} {Pv : Nat → Value → Prop} {St : Nat → Shared → Prop}
theorem loopG (hk : ∀ k v, knd.is k v = true → key v = k) (W : WalksS P w A.in1 I fp wr G n Pv St) (S : Addr) (hSf : S ∉ fp) (xs : List κ) (hsz : xs.length = n) (hval : ∀ i v, Pv i v → ∀ k, xs[i]? = some k → knd.is k v = true ∧ v.scannable = true) :
    ∀ (d i : Nat) (s : Shared) (ks : List κ), n - i = d → i ≤ n → St i s → SetG knd key s.heap S ks → ks.length + d < scanBound → (∀ s', Moved (S :: wr) G s s' → SetG knd key s'.heap S (addAll ks (xs.drop i)) → R (.ok (.ret .none)) s') →
      codeAny (model P w) A (.builtin "set.update.loop" ⟨[.ref S, .ref I], []⟩) R s := by
  have hw : S ∉ wr := fun z => hSf (W.sub _ z)
  have sub : ∀ b ∈ wr, b ∈ S :: wr := fun b => List.mem_cons_of_mem _
  intro d
  induction d with
  | zero =>
    intro i s ks hd hi hst hS hz hR
    obtain rfl : i = n := by omega
    refine codeAny_builtin F.entry_set_update_loop ?_; rw [Around.under_plainId F.plain_set_update_loop _]; show wpAny _ A.in1 (pyNext (.ref I) >>= _) _ _ s
    refine wpAny_bind (W.done s _ _ hst fun s' hm => ?_)
    refine wpAny_pure (hR s' (hm.mono sub) ?_); rw [List.drop_of_length_le (by omega)]; exact hS.keep fun o e => hm.heap S o hw e
  | succ d ih =>
    intro i s ks hd hi hst hS hz hR
    have hlt : i < n := by omega
    obtain ⟨x, hx⟩ : ∃ x, xs[i]? = some x := ⟨xs[i]'(by omega), List.getElem?_eq_getElem _⟩
    have ed : xs.drop i = x :: xs.drop (i + 1) := by rw [List.drop_eq_getElem_cons (by omega)]; congr 1; have q := List.getElem?_eq_getElem (l := xs) (i := i) (by omega); rw [hx] at q; exact (Option.some.inj q).symm
    refine codeAny_builtin F.entry_set_update_loop ?_; rw [Around.under_plainId F.plain_set_update_loop _]; show wpAny _ A.in1 (pyNext (.ref I) >>= _) _ _ s
    refine wpAny_bind (W.item i s _ _ hlt hst fun v s' hP hst' hm => ?_)
    obtain ⟨iv, sc⟩ := hval i v hP x hx
    show wpAny _ A.in1 (holding [v] (setAdd S v) >>= _) _ _ s'
    refine wpAny_bind (wpAny_holding ?_); unfold setAdd; refine wpAny_holding (wpAny_bind (knd.pyHash iv ?_))
    refine addG (s := { s' with toks := s'.toks + 1 }) hk iv sc (hS.keep fun o e => hm.heap S o hw e) (by omega) fun b h' sb r => ?_
    refine wpAny_pure ⟨plainId_quiet F.plain_set_update_loop _, ih (i + 1) _ _ (by omega) hlt (W.frame _ s' _ _ hst' (Nat.le_succ _) fun b hb o e => ?_) r (by have z : (if x ∈ ks then ks else x :: ks).length ≤ ks.length + 1 := (by by_cases h : x ∈ ks <;> simp [h]); omega) fun s2 m2 q2 => ?_⟩
    · rw [sb.2 b fun z : b = S => hSf (z ▸ hb)]; exact e
    · refine hR s2 (Moved.trans W.gtrans ((hm.mono sub).then_heap (Nat.le_succ _) fun b o hb e => ?_) m2) (by rw [ed, addAll]; exact q2)
      rw [sb.2 b fun z : b = S => hb (z ▸ List.mem_cons_self)]; exact e
variable {E : Value → Shared → Prop} {s : Shared}
theorem setG_fresh {h : Heap} : SetG knd key (h.push { cls := .type "set", dict := none, data := .set #[] 0 (.fresh 0 0 (!w.params.followText "set-order")) }) h.objs.size [] :=
  ⟨_, #[], 0, _, Heap.get?_push_size _ rfl, ⟨rfl, rfl, rfl⟩, rfl, fun e he => by simp at he, by simp, List.nodup_nil, by decide, by rfl, List.Pairwise.nil, by cases h : w.params.followText "set-order"; exact .inr (by simp [SetTable.fresh, h]); exact .inl rfl⟩
end
end Sm

/-! S69: the call set(list) for keys of one kind; sorted(set) of texts. -/
namespace Sm
open PySem PySem.Spec PyProof.Rows L2
abbrev newSet (w : World) : Obj := { cls := .type "set", dict := none, data := .set #[] 0 (.fresh 0 0 (!w.params.followText "set-order")) }
section
variable {κ : Type} [DecidableEq κ] {P : Program} {w : World} {knd : KeyKind P w κ} {key : Value → κ} {A : Around} {E : Value → Shared → Prop} {s : Shared}
set_option maxHeartbeats 3200000 in
theorem call_setG (hk : ∀ k v, knd.is k v = true → key v = k) {l : Addr} {its : List Value} (xs : List κ) {Q : Value → Shared → Prop} (hh : A.handled = none) (hl : s.heap.IsList l its.toArray)
    (hsz' : xs.length = its.length) (hv : ∀ (i : Nat) (v : Value), its[i]? = some v → ∀ k, xs[i]? = some k → knd.is k v = true ∧ v.scannable = true) (hz : xs.length < scanBound)
    (h : ∀ (h' : Heap) (tk : Nat), SetG knd key h' s.heap.objs.size (addAll [] xs) → (∀ b o, s.heap.get? b = some o → h'.get? b = some o) → Q (.ref s.heap.objs.size) { s with heap := h', toks := tk }) :
    wpAny (model P w) A (call (.type "set") [.ref l]) Q E s := by
  have hsz : xs.length = its.toArray.size := by rw [List.size_toArray]; exact hsz'
  have hval : ∀ (i : Nat) (v : Value), its.toArray[i]? = some v → ∀ k, xs[i]? = some k → knd.is k v = true ∧ v.scannable = true := fun i v e k e' => by
    rw [List.getElem?_toArray] at e; exact hv i v e k e'
  obtain ⟨c, tl, hmro⟩ := F.called_set.mro; have hmade := F.called_set.made; have hsub := F.called_set.sub
  refine wpAny_call (codeAny_of_tree ?_); show wpAny _ _ (callAny (.type "set") _) _ _ _
  refine wpAny_pure ⟨Code.quiet_builtin _ (by decide +kernel), codeAny_builtin F.entry_type_call ?_⟩; rw [Around.under_plain (weight_type_call_type "set" [.ref l] []) rfl]
  have n1 := F.called_set.notType; have n2 := F.called_set.canCreate; have n3 := F.typeCall_set_1 (.ref l)
  repeat (any_goals (first | assumption | wp_step))
  refine codeAny_mono (code_set_led1 (.ref l) (E := E) (Q₁ := fun obj s₁ => obj = .ref s.heap.objs.size ∧ s₁ = { s with heap := s.heap.push (newSet w) }) ⟨rfl, rfl⟩) fun r s₁ hr => ?_
  rcases r with e | fl
  · exact hr
  rcases fl with _ | obj | _ | _ <;> try exact hr.elim
  obtain ⟨rfl, rfl⟩ := hr
  have gS : (s.heap.push (newSet w)).get? s.heap.objs.size = some (newSet w) := Heap.get?_push_size _ rfl
  have tS : Shared.TypeIs { s with heap := s.heap.push (newSet w) } (.ref s.heap.objs.size) "set" := ⟨_, gS, rfl⟩
  have i1 := F.called_set.init.lookup; have i2 := F.called_set.init.bind (.ref s.heap.objs.size)
  repeat (any_goals (first | assumption | wp_step))
  refine codeAny_mono (codeAny_call_builtin (R := wants (fun r s₂ => r = .none ∧ ∃ h' tk, s₂ = { s with heap := h', toks := tk } ∧ SetG knd key h' s.heap.objs.size (addAll [] xs) ∧ ∀ b o, s.heap.get? b = some o → h'.get? b = some o) E)
    F.called_set.init.plain F.entry_set_init (check_set_init_1 tS ?_)) fun r₂ s₂ hr₂ => ?_
  · obtain ⟨⟨ocls, odict, odata, oslots⟩, hol, hcl, nl, hdl⟩ := hl; simp only at hcl hdl; subst hcl; subst hdl
    have hol' := Heap.get?_push_of_some (newSet w) hol
    have f1 := F.sub_list_set; have f2 := F.sub_list_frozenset; have f3 : (Value.type "list" == Value.type "dict") = false := by decide
    have hl1 : (s.heap.push (newSet w)).IsList l its.toArray := ⟨_, hol', rfl, nl, rfl⟩
    unfold Builtin.«set.__init__» noKeywords Builtin.Frozenset.updateFrom; generalize hPI : pyIter = PI; wp_walk; subst hPI
    refine wpAny_pyIter_list hl1 (wpAny_bind (wpAny_runValue ?_))
    have lS : l < s.heap.objs.size := Heap.lt_size hol
    have z1 : (s.heap.push (newSet w)).objs.size = s.heap.objs.size + 1 := Heap.size_push ..
    refine loopG hk ((Walks.list (by simp [hh]) _ l (by rw [z1]; exact Nat.ne_of_lt (Nat.lt_succ_of_lt lS)) its.toArray).toS) s.heap.objs.size (by rw [z1]; simp only [List.mem_cons, List.not_mem_nil, or_false, not_or]; exact ⟨Nat.ne_of_lt (Nat.lt_succ_self _), Nat.ne_of_gt lS⟩) xs hsz hval (its.toArray.size - 0) 0 _ [] rfl (Nat.zero_le _)
      ⟨⟨_, Heap.get?_push_size _ rfl, rfl, rfl⟩, hl1.push _⟩ (setG_fresh.keep fun o e => Heap.get?_push_of_some _ e) (by simp only [List.length_nil]; omega) ?_
    rintro ⟨h', g2, d', tk', os'⟩ hm hS'
    obtain rfl : g2 = s.gens := hm.gens
    obtain rfl : d' = s.drawn := hm.drawn
    obtain rfl : os' = s.os := hm.os
    refine wpAny_pure ?_
    refine wpAny_pure ⟨rfl, h', tk', rfl, hS', fun b o e => hm.heap b o ?_ (Heap.get?_push_of_some _ (Heap.get?_push_of_some _ e))⟩
    have := Heap.lt_size e
    simp only [List.mem_cons, List.not_mem_nil, or_false, z1, not_or]; exact ⟨Nat.ne_of_lt this, Nat.ne_of_lt (Nat.lt_succ_of_lt this)⟩
  · rcases r₂ with e | fl
    · exact hr₂
    rcases fl with _ | r | _ | _ <;> try exact hr₂.elim
    obtain ⟨rfl, h', tk, rfl, hS', k'⟩ := hr₂
    repeat (any_goals (first | assumption | wp_step))
    exact h _ _ hS' k'
end
end Sm

/-! S70: sorted(set(texts)), sorted(texts). -/
namespace Sm
open PySem PySem.Spec PyProof.Rows L2
def leT (a b : Str) : Bool := !ltCps b.cps.toList a.cps.toList
theorem leT_iff {a b : Str} : leT a b = true ↔ a.cps.toList ≤ b.cps.toList := by
  unfold leT; rw [ltCps_eq]; simp [List.not_lt]
theorem leT_trans (a b c : Str) (h1 : leT a b = true) (h2 : leT b c = true) : leT a c = true := leT_iff.mpr (List.le_trans (leT_iff.mp h1) (leT_iff.mp h2))
theorem leT_total (a b : Str) : (leT a b || leT b a) = true := by
  rw [Bool.or_eq_true, leT_iff, leT_iff]; exact List.le_total _ _
theorem leT_anti (a b : Str) (h1 : leT a b = true) (h2 : leT b a = true) : a = b := by
  have := List.le_antisymm (leT_iff.mp h1) (leT_iff.mp h2)
  cases a; cases b; simp at this; rw [this]
def sortT (xs : List Str) : List Str := xs.mergeSort leT
theorem sortT_perm (xs : List Str) : (sortT xs).Perm xs := List.mergeSort_perm xs leT
theorem sortT_pw (xs : List Str) : (sortT xs).Pairwise fun a b => leT a b = true := List.pairwise_mergeSort leT_trans leT_total xs
theorem pw_of_rising : ∀ (p : Str) (l : List Str), risingS p l = true → (p :: l).Pairwise fun a b => leT a b = true
  | p, [], _ => List.pairwise_singleton _ _
  | p, x :: r, h => by
    have h' : (!ltCps x.cps.toList p.cps.toList && risingS x r) = true := h
    rw [Bool.and_eq_true] at h'
    have ih := pw_of_rising x r h'.2
    refine List.pairwise_cons.mpr ⟨fun y hy => ?_, ih⟩
    rcases List.mem_cons.mp hy with rfl | hy
    · exact h'.1
    · exact leT_trans _ _ _ h'.1 (List.rel_of_pairwise_cons ih hy)
theorem pw_of_sortedS : ∀ (l : List Str), sortedS l = true → l.Pairwise fun a b => leT a b = true
  | [], _ => .nil
  | x :: r, h => pw_of_rising x r h
theorem sortT_uniq {ys xs : List Str} (h : ys.Perm xs) (s : sortedS ys = true) : ys = sortT xs :=
  List.Perm.eq_of_pairwise (fun a b _ _ => leT_anti a b) (pw_of_sortedS ys s) (sortT_pw xs) (h.trans (sortT_perm xs).symm)
theorem sortT_congr {xs ys : List Str} (h : xs.Perm ys) : sortT xs = sortT ys :=
  List.Perm.eq_of_pairwise (fun a b _ _ => leT_anti a b) (sortT_pw xs) (sortT_pw ys) ((sortT_perm xs).trans (h.trans (sortT_perm ys).symm))
theorem sortT_len (xs : List Str) : (sortT xs).length = xs.length := (sortT_perm xs).length_eq
section
variable {P : Program} {w : World} {A : Around} {E : Value → Shared → Prop} {s : Shared} {a : Addr}
theorem str_key (k : Str) (v : Value) (h : (PySem.strKind P w).is k v = true) : PyProof.Rows.strOf v = k := by
  cases v <;> simp [PySem.strKind, Value.isStrOf] at h
  simpa [PyProof.Rows.strOf] using h
theorem str_is {k : Str} {v : Value} (h : (PySem.strKind P w).is k v = true) : ∃ t, v = .str k t := by
  cases v <;> simp [PySem.strKind, Value.isStrOf] at h
  subst h; exact ⟨_, rfl⟩
theorem sorted_setS {ks : List Str} {Q : Value → Shared → Prop} (R : SetG (PySem.strKind P w) PyProof.Rows.strOf s.heap a ks) (hh : A.handled = none)
    (hQ : ∀ s' p (out : Array Value) (c : Nat), (∀ b o, s.heap.get? b = some o → s'.heap.get? b = some o) → s'.gens = s.gens → s'.os = s.os → s.heap.objs.size ≤ p → s'.heap.get? p = some (seqObj "list" out c) → StrsAre out.toList (sortT ks) → Q (.ref p) s') :
    wpAny (model P w) A (call (.builtin "sorted") [.ref a]) Q E s := by
  obtain ⟨o, es, ep, t, ho, hex, hd, g, pm0, nd, hb, hf, hr, hl⟩ := R
  refine Calls.call_function_entry kind_sorted plain_sorted entry_sorted (args_sorted1 _) ?_
  unfold Builtin.«sorted»; refine wpAny_bind (m := checkCount "sorted" 1 1 _) (wpAny_pure ?_)
  refine wpAny_bind (collect_set (A := A.in1) hh ⟨o, ho, hex.1, hd⟩ hf hb hr hl fun s1 vs k1 hz g1 o1 pm => ?_)
  have hvl : vs.length = es.size := by rw [pm.length_eq, List.length_map, Array.length_toList]
  have hS : StrsAre vs (vs.map PyProof.Rows.strOf) := strsAre_map vs fun v hv => by
    obtain ⟨e, he, q⟩ := List.mem_map.mp (pm.mem_iff.mp hv)
    obtain ⟨⟨k, h1, _⟩, _⟩ := g e he
    obtain ⟨t, e1⟩ := str_is h1
    exact ⟨k, t, by rw [← q, e1]⟩
  have pk : (vs.map PyProof.Rows.strOf).Perm ks := by
    have q := pm.map PyProof.Rows.strOf; rw [List.map_map] at q; exact q.trans pm0
  have hL : vs.length ≤ sizeLine := by rw [hvl]; exact fits_of_scanBound hb
  refine wpAny_bind (wpAny_newList ?_ hL)
  have hoL : (s1.heap.push (seqObj "list" vs.toArray 0)).get? s1.heap.objs.size = some (seqObj "list" vs.toArray 0) := Heap.get?_push_size _ rfl
  refine wpAny_bind (wpAny_holding (wpAny_call_entry slot_list_sort ⟨_, hoL, rfl⟩ entry_list_sort (list_sort_treeKAny strKind_oneLt hoL hS.keysOf (fun v₁ v₂ rest e => keyKind_strs (by rw [← e]; exact hS)) hL fun st' hp hs => ⟨_, rfl, ?_⟩) (args_list_sort _)))
  obtain ⟨ss', b1, b2, b3⟩ := sorted_out_str hS hp hs
  obtain ⟨c, hc⟩ := sortedHeap_at (vs := vs) (out := (arrOf st').map (·.2)) hoL
  have e0 : ss' = sortT ks := sortT_uniq (b2.trans pk) b3
  refine wpAny_pure ⟨_, rfl, hQ _ s1.heap.objs.size _ c (fun b u e => ?_) g1 o1 hz hc (by rw [← e0]; exact b1)⟩
  have q := k1 b u e; have hlt := Heap.lt_size q
  show (sortedHeap (s1.heap.push (seqObj "list" vs.toArray 0)) s1.heap.objs.size vs _).get? b = some u
  rw [sortedHeap_old (Nat.ne_of_lt hlt) (by rw [size_push']; exact Nat.lt_succ_of_lt hlt)]; exact Heap.get?_push_of_some _ q
end
end Sm

/-! S71: the rules for sorted(set(e)), sorted(e), len(set(e)) of texts. -/
namespace Sm
open PySem PySem.Spec PyProof.Rows L2
/-- the set of texts at a -/
def SetT (P : Program) (w : World) (a : Addr) (ks : List Str) : HO := .ext fun h => SetG (PySem.strKind P w) PyProof.Rows.strOf h a ks
def txsW : W → Sto → Option (List Str)
  | .lst xs, _ => strsOf xs
  | .ref i, m => match m[i]? with
    | some (.lst xs) => strsOf xs
    | _ => none
  | _, _ => none
theorem txsW_ok {c : Cn} {F : Hp} {ρ : List Addr} {m : Sto} {H : Hp} {w : W} {v : V} {xs : List Str} {K : PySem.W.Frag} (r : R c F ρ m H) (q : RB c F ρ H w v) (e : txsW w m = some xs) : ∃ a, v = .ref a ∧ SqL K H a (xs.map V.str) := by
  unfold txsW at e
  split at e
  · obtain ⟨a, vs, rfl, h1, t⟩ := q.lst r
    rw [strsOf_ok t e] at h1
    exact ⟨a, rfl, .inl h1⟩
  · rename_i i
    split at e
    · rename_i ys em
      obtain ⟨a, rfl, h1⟩ := q.ref
      obtain ⟨vs, h2, t⟩ := r.lst h1 em
      rw [strsOf_ok t e] at h2
      exact ⟨a, rfl, SqL.of h2⟩
    · cases e
  · cases e
section
variable {X : Cx}
theorem setT_new {w : World} {P : Program} {H : Hp} {h : Heap} {a : Addr} {ks : List Str} (R : SetG (PySem.strKind P w) PyProof.Rows.strOf h a ks) : ObjOk P w H h a (SetT P w a ks) := by
  have ⟨o, _, _, _, ho, _⟩ := R
  exact ⟨R, ⟨o, ho⟩, fun h1 h2 p k => SetG.keep p fun o e => k _ e⟩
theorem setT_get {pins : List (Addr × Obj)} {σ : L2.St} {H : Hp} {s : Shared} {a : Addr} {ks : List Str} (I : Inv X pins σ H s) (ha : H a = some (SetT X.prog X.w a ks)) : SetG (PySem.strKind X.prog X.w) PyProof.Rows.strOf s.heap a ks := (I.hok a _ ha).1
def rSetS (X : Cx) : List V → Hp → VK → Prop := fun vs H Q => ∃ (a : Addr) (xs : List Str), vs = [V.ref a] ∧ SqL X.K H a (xs.map V.str) ∧ xs.length < scanBound ∧ ∀ p, H p = none → Q (.ref p) (upd H p (SetT X.prog X.w p (addAll [] xs)))
theorem cr_setS (hc : X.calm = true) : CallR X (.type "set") (rSetS X) := by
  intro pins s σ H vs us Q I r h
  obtain ⟨a, xs, rfl, hs, hb, q⟩ := h
  obtain ⟨its, rv, hl, _⟩ := I.list hs
  rw [Vals.ref1 r]
  have hlen : xs.length = its.length := by have := rv.length; rw [List.length_map] at this; exact this
  refine call_setG (knd := PySem.strKind X.prog X.w) (key := PyProof.Rows.strOf) str_key xs (I.ok.hd hc) hl.isList hlen (fun i v e k e' => ?_) hb fun h' tk hS k => ?_
  · obtain ⟨t, rfl⟩ := SS.strs_at rv.strs i v e
    have : xs.getD i Str.empty = k := by rw [List.getD_eq_getElem?_getD, e']; rfl
    rw [this]
    exact ⟨strKind_is _ _ _ _, rfl⟩
  · exact ⟨.ref _, upd H s.heap.objs.size (SetT X.prog X.w s.heap.objs.size (addAll [] xs)), I.laid k (Nat.le_refl _) (setT_new hS), rfl, q _ (I.hok.fresh (Nat.le_refl _))⟩
def rSortSetS (X : Cx) : List V → Hp → VK → Prop := fun vs H Q => ∃ (a : Addr) (ks : List Str), vs = [V.ref a] ∧ H a = some (SetT X.prog X.w a ks) ∧ ks.length ≤ sizeLine ∧ ∀ p, H p = none → Q (.ref p) (upd H p (.lst ((sortT ks).map V.str)))
theorem cr_sortSetS (hc : X.calm = true) : CallR X (.builtin "sorted") (rSortSetS X) := by
  intro pins s σ H vs us Q I r h
  obtain ⟨a, ks, rfl, ha, hz, q⟩ := h
  rw [Vals.ref1 r]
  refine sorted_setS (setT_get I ha) (I.ok.hd hc) fun s' p out c k g o hp hg hi => ?_
  have hlen : ((sortT ks).map V.str).length ≤ sizeLine := by rw [List.length_map, sortT_len]; exact hz
  have hn : H p = none := I.hok.fresh hp
  have J : Inv X pins σ (upd H p (.lst ((sortT ks).map V.str))) s' := I.call' (ch := []) o (Un.laid k hp hn) (I.hok.laid k hp ⟨hlen, out.toList, c, vals_of_strs hi, hg⟩) (by rw [g]; exact I.bare) (fun _ z => nomatch z)
  exact ⟨.ref p, _, J, rfl, q p hn⟩
def rSortS (X : Cx) : List V → Hp → VK → Prop := fun vs H Q => ∃ (a : Addr) (xs : List Str), vs = [V.ref a] ∧ SqL X.K H a (xs.map V.str) ∧ ∀ p, H p = none → Q (.ref p) (upd H p (.lst ((sortT xs).map V.str)))
theorem cr_sortS : CallR X (.builtin "sorted") (rSortS X) := by
  intro pins s σ H vs us Q I r h
  obtain ⟨a, xs, rfl, hs, q⟩ := h
  obtain ⟨its, rv, hl, hz⟩ := I.list hs
  rw [Vals.ref1 r]
  have hlen : xs.length = its.length := by have := rv.length; rw [List.length_map] at this; exact this
  have hL : its.length ≤ sizeLine := by rw [← hlen]; simpa using hz
  refine PyProof.Rows.sorted_strsAny hl.isList rv.strs hL fun out ys h1 h2 h3 => ?_
  rw [sortT_uniq h2 h3] at h1
  obtain ⟨ep, he'⟩ := PyProof.Rows.sortedAll_at s.heap its out
  have hl2 : ((sortT xs).map V.str).length ≤ sizeLine := by rw [List.length_map, sortT_len, hlen]; exact hL
  exact ⟨.ref _, upd H (s.heap.objs.size + 1) (.lst ((sortT xs).map V.str)), I.laid (t' := s.toks) (fun _ _ => PyProof.Rows.sortedAll_old) (Nat.le_succ _) ⟨hl2, out.toList, ep, vals_of_strs h1, he'⟩, rfl, q _ (I.hok.fresh (Nat.le_succ _))⟩
end
/-- sorted(set(e)) -/
def nSortSet (f : Fe) : Fas := fun τ => bnd (f τ) fun w m => match txsW w m with
  | some xs => if xs.length < scanBound then .ok ((sortT (addAll [] xs)).map .str) m else .bad
  | none => .bad
/-- sorted(e) -/
def nSortL (f : Fe) : Fas := fun τ => bnd (f τ) fun w m => match txsW w m with
  | some xs => .ok ((sortT xs).map .str) m
  | none => .bad
section
variable {cl : Str → Addr} {X : Cx} {Wx : WX} {k : Nat} {e : Expr} {f : Fe} {p p' pos pos' : Pos}
theorem addAll_fits {xs : List Str} (h : xs.length < scanBound) : (addAll [] xs).length ≤ sizeLine := fits_of_scanBound (Nat.lt_of_le_of_lt (by have := addAll_len xs ([] : List Str); simpa using this) h)
theorem n_sortset (x : X.calm = true) (he : SR ⟨X.K, cl⟩ X Wx e f) (hm : X.mg "set" = none) (hm' : X.mg "sorted" = none) (hg : Gl X "set" := by rfl) (hg' : Gl X "sorted" := by rfl)
    (hst : starEach [e] X.env = (false, eval e X.env) :: starEach [] X.env := by rfl) (hst' : starEach [.Call (.Name "set" p) [e] [] pos] X.env = (false, eval (.Call (.Name "set" p) [e] [] pos) X.env) :: starEach [] X.env := by rfl)
    (hpl : (backTo pos (starEach [] X.env)).any (·.1) = false := by rfl) (hpl' : (backTo pos' (starEach [] X.env)).any (·.1) = false := by rfl) :
    SN ⟨X.K, cl⟩ X Wx (.Call (.Name "sorted" p') [.Call (.Name "set" p) [e] [] pos] [] pos') (nSortSet f) :=
  PE.weak (pe_callB (id := "sorted") (cr_sortSetS x) hg' hm' (by kernel_rfl) (pa_cons (pe_callTy (T := "set") (cr_setS x) hg hm (by kernel_rfl) (pa_cons he pa_nil hst) (by decide) (by decide) hst hpl) pa_nil hst') (by decide) (by decide) hst' hpl') fun σ H Q ⟨F, ρ, m, τ, r, s, q⟩ => by
    refine ⟨F, ρ, m, τ, r, s, ?_⟩
    unfold nSortSet bnd at q
    cases e1 : f τ m with
    | bad => rw [e1] at q; exact q
    | exc y m' => rw [e1] at q; exact q
    | ok w m1 =>
      rw [e1] at q
      dsimp only at q
      intro v F1 ρ1 H1 r1 g1 q1
      cases e2 : txsW w m1 with
      | none => rw [e2] at q; exact q.elim
      | some xs =>
        rw [e2] at q; dsimp only at q
        by_cases hz : xs.length < scanBound
        · rw [if_pos hz] at q
          obtain ⟨a, rfl, hs⟩ := txsW_ok (K := X.K) r1 q1 e2
          refine ⟨a, xs, rfl, hs, hz, fun b n => ?_⟩
          obtain ⟨r2, g2⟩ := r1.newH n (SetT X.prog X.w b (addAll [] xs))
          refine ⟨b, _, rfl, upd_same, addAll_fits hz, fun b2 n2 => ?_⟩
          exact OkN.fresh q r2 (g1.trans g2) (strs_RWs _) b2 n2
        · rw [if_neg hz] at q; exact q.elim
theorem n_sortL (he : SR ⟨X.K, cl⟩ X Wx e f) (hm' : X.mg "sorted" = none) (hg' : Gl X "sorted" := by rfl)
    (hst : starEach [e] X.env = (false, eval e X.env) :: starEach [] X.env := by rfl) (hpl' : (backTo pos' (starEach [] X.env)).any (·.1) = false := by rfl) :
    SN ⟨X.K, cl⟩ X Wx (.Call (.Name "sorted" p') [e] [] pos') (nSortL f) :=
  PE.weak (pe_callB (id := "sorted") cr_sortS hg' hm' (by kernel_rfl) (pa_cons he pa_nil hst) (by decide) (by decide) hst hpl') fun σ H Q ⟨F, ρ, m, τ, r, s, q⟩ => by
    refine ⟨F, ρ, m, τ, r, s, ?_⟩
    unfold nSortL bnd at q
    cases e1 : f τ m with
    | bad => rw [e1] at q; exact q
    | exc y m' => rw [e1] at q; exact q
    | ok w m1 =>
      rw [e1] at q
      dsimp only at q
      intro v F1 ρ1 H1 r1 g1 q1
      cases e2 : txsW w m1 with
      | none => rw [e2] at q; exact q.elim
      | some xs =>
        rw [e2] at q; dsimp only at q
        obtain ⟨a, rfl, hs⟩ := txsW_ok (K := X.K) r1 q1 e2
        exact ⟨a, xs, rfl, hs, fun b2 n2 => OkN.fresh q r1 g1 (strs_RWs _) b2 n2⟩
end
end Sm

/-! S72: o.p, p a property of an own class (its getter lets nothing out). -/
namespace Sm
open PySem PySem.Spec PyProof.Rows L2
/-- a result that lets nothing out -/
def calmR {α : Type} : Res α → Res α
  | .exc _ _ => .bad
  | r => r
def eProp (T : List Str) (Γ : Str → List W → M W) (fo : Fe) : Fe := fun τ => bnd (fo τ) fun x m => match clsW x with
  | some C => if T.contains C then calmR (Γ C [x] m) else .bad
  | none => .bad
section
variable {cl : Str → Addr} {X : Cx} {Wx : WX} {o : Expr} {fo : Fe} {pos : Pos} {k : Nat} {T : List Str} {Γ : Str → List W → M W} {f : Str}
theorem w_prop {c : Cn} {σ : L2.St} {H : Hp} {Q : VK} (h : sE c Wx (eProp T Γ fo) σ H Q) : sE c Wx fo σ H fun x H1 => ∃ a dx gs C, x = .ref a ∧ H1 a = some (.ins (c.cl C) dx gs) ∧ C ∈ T ∧ spF c 1 (Γ C) [.ref a] H1 Q fun _ _ _ => False := by
  obtain ⟨F, ρ, m, τ, r, s, p⟩ := h
  refine ⟨F, ρ, m, τ, r, s, ?_⟩
  unfold eProp bnd at p
  cases e : fo τ m with
  | bad => rw [e] at p; exact p
  | exc x m' => rw [e] at p; exact p
  | ok w1 m1 =>
    rw [e] at p
    dsimp only at p
    intro v F1 ρ1 H1 r1 g1 q1
    cases ec : clsW w1 with
    | none => rw [ec] at p; exact p.elim
    | some C =>
      rw [ec] at p; dsimp only at p
      by_cases hT : T.contains C = true
      · rw [if_pos hT] at p
        obtain ⟨a, dx, gs, rfl, h1, _⟩ := ins_of q1 ec
        refine ⟨a, dx, gs, C, rfl, r1.sub _ _ h1, List.contains_iff_mem.mp hT, rfl, F1, ρ1, m1, [w1], r1, .cons q1 .nil, ?_⟩
        cases e3 : Γ C [w1] m1 with
        | bad => rw [e3] at p; exact p.elim
        | exc x m' => rw [e3] at p; exact p.elim
        | ok w m3 => rw [e3] at p; exact OkE.back g1 p
      · rw [if_neg hT] at p; exact p.elim
theorem no_out : Passes (CX X.prog X.w) X.nox fun _ _ _ => False := fun pins σ H s e s' I h => by
  obtain ⟨a, B, H', cls, d, _, _, _, _, _, _, _, z⟩ := h
  exact z.elim
theorem s_prop (hΓ : ∀ C ∈ T, CalP X.prog X.w X.K X.mg X.base cl k C f (Γ C)) (hr : Room (k + 1) X.A) (ho : SE ⟨X.K, cl⟩ X Wx o fo) (hab : attributeBase o f X.env (eval o X.env) = eval o X.env := by rfl) :
    SE ⟨X.K, cl⟩ X Wx (.Attribute o f pos) (eProp T Γ fo) := by
  refine ⟨fun pins s σ H Q I h => attr_of hab (thn (ho.run pins s σ H _ I (w_prop h)) fun u s1 ⟨x, H1, I1, rx, a, dx, gs, C, ex, ea, hC, q⟩ => ?_)⟩
  subst ex
  obtain rfl : u = Value.ref a := rx
  obtain ⟨p, g, fd, ps, hp, Fn, hb, hc⟩ := (hΓ C hC).ex
  obtain ⟨mA, O, _, _, _, _⟩ := ins_get I1.hok ea
  obtain ⟨od, J, _⟩ := O.look
  obtain ⟨rest, hrec⟩ := hp.rec_
  have I2 := I1.tok (s1.toks + 1)
  have hcc : (PySem.W.clsIn X.K (cl C)).isSome = true := (PySem.W.any_some hc.hd).elim fun cd z => by rw [z.1]; rfl
  have pl := PySem.W.plainGet_of (hc.get f)
  refine PySem.W.get_bind I1.kIn J pl.1 (PySem.W.findObj_data hcc hp.at_ hp.get hp.tak) pl.2 (wpAny_call (PySem.W.prop_get (s := { s1 with toks := s1.toks + 1 }) I1.kIn hrec
    (codeAny_mono (Fn.run X.A.in1 X.stack { s1 with toks := s1.toks + 1 } H1 ⟨[.ref a], []⟩ [.ref a] [.ref a] Q _ hr.in1 I2.env0.in1 (hb _ [.ref a] I2.kIn (Fn.len _ _ _ _ q)) (.cons rfl .nil) q) fun r s' hq => ?_)))
  rcases r with er | fl
  · exact (no_out pins σ H1 { s1 with toks := s1.toks + 1 } er s' (I2.wish _) hq).elim
  cases fl with
  | ret u =>
    obtain ⟨v, H', I3, rv, q3⟩ := I2.after hq
    show wpAny _ _ (handedOut u) _ _ _
    rw [PySem.W.handedOut_of (handed_of rv)]
    exact wpAny_pure ⟨v, H', I3, rv, q3⟩
  | next => exact False.elim hq
  | brk => exact False.elim hq
  | cont => exact False.elim hq
end
def propB (K : PySem.W.Frag) (C f own : Str) : Bool := (He.Fa.cls C).ok K && (match PySem.W.findIn K (.ref (He.ga K C)) f with
  | some (some (.ref p)) => He.eqO (PySem.W.specialIn K (.ref p) "__get__") (some (some (.builtin "property.__get__"))) && (eqB1 (PySem.W.takesIn K (.ref p)) (some true) && (match PySem.W.recIn K p "property" with
    | some (.ref g :: _) => decide (g = gAd K (own, some f))
    | _ => false))
  | _ => false)
theorem prop_of {K : PySem.W.Frag} {C f own : Str} (b : propB K C f own = true) : Cls K (He.ga K C) ∧ ∃ p, PropOf K (He.ga K C) f p (gAd K (own, some f)) := by
  unfold propB at b
  obtain ⟨b1, b⟩ := He.ba b
  refine ⟨He.cls_ok b1, ?_⟩
  split at b
  · rename_i p e
    obtain ⟨b2, b⟩ := He.ba b
    obtain ⟨b3, b⟩ := He.ba b
    split at b
    · rename_i g rest e2
      have := of_decide_eq_true b
      subst this
      exact ⟨p, e, He.eqO_ok b2, of_decide_eq_true b3, rest, e2⟩
    · cases b
  · cases b
theorem calP_mk {P : Program} {w : World} {K : PySem.W.Frag} {mg : Str → Option Value} {base : Heap} {k : Nat} {C f own : Str} {fd : FuncData} {ps : List Str} {γ : List W → M W} (b : propB K C f own = true) (F : FnOk P w K mg base (CX P w) k (gAd K (own, some f)) fd ps (spF ⟨K, He.ga K⟩ 1 γ)) (hb : Binds K fd ps []) : CalP P w K mg base (He.ga K) k C f γ := by
  obtain ⟨c, p, hp⟩ := prop_of b
  exact ⟨p, _, fd, ps, hp, F, hb, c⟩
end Sm

/-! S73: walking: properties, sorted(set(e)), sorted(e). -/
namespace Sm
open PySem PySem.Spec PyProof.Rows L2
section
variable {τ : SS} {m : Sto} {E : PX}
def cO (o : Option Str) (T : List Str) (Γ : Str → List W → M W) (x : W) (Q : PQ W) (m : Sto) : Prop := match o with
  | some C => if T.contains C then Wp (Γ C [x] m) Q (fun _ _ => False) else False
  | none => False
theorem cO_some {C : Str} {T : List Str} {Γ : Str → List W → M W} {x : W} {Q : PQ W} (h : T.contains C = true) : cO (some C) T Γ x Q m = Wp (Γ C [x] m) Q (fun _ _ => False) := by
  show (if T.contains C then _ else _) = _; rw [if_pos h]
def kPr (T : List Str) (Γ : Str → List W → M W) (Q : PQ W) : PQ W := fun x m => cO (clsW x) T Γ x Q m
theorem kPr_ap {T : List Str} {Γ : Str → List W → M W} {Q : PQ W} {x : W} : kPr T Γ Q x m = cO (clsW x) T Γ x Q m := rfl
theorem Wp.calmR {α : Type} {r : Res α} {Q : PQ α} : Wp (calmR r) Q E = Wp r Q fun _ _ => False := by cases r <;> rfl
theorem Wp.eProp {T : List Str} {Γ : Str → List W → M W} {fo : Fe} {Q : PQ W} : Wp (eProp T Γ fo τ m) Q E = Wp (fo τ m) (kPr T Γ Q) E := by
  unfold Sm.eProp
  rw [Wp.bnd]
  congr 1
  funext x m'
  unfold kPr cO
  cases clsW x with
  | none => rfl
  | some C =>
    dsimp only
    by_cases h : T.contains C = true
    · rw [if_pos h, if_pos h, Wp.calmR]
    · rw [if_neg h, if_neg h]; rfl
def ttO (o : Option (List Str)) (g : List Str → List Str) (Q : PQ (List W)) (m : Sto) : Prop := match o with
  | some xs => xs.length < scanBound ∧ Q ((g xs).map .str) m
  | none => False
theorem ttO_some {xs : List Str} {g : List Str → List Str} {Q : PQ (List W)} : ttO (some xs) g Q m = (xs.length < scanBound ∧ Q ((g xs).map .str) m) := rfl
def kSS (Q : PQ (List W)) : PQ W := fun w m => ttO (txsW w m) (fun xs => sortT (addAll [] xs)) Q m
theorem kSS_ap {Q : PQ (List W)} {w : W} : kSS Q w m = ttO (txsW w m) (fun xs => sortT (addAll [] xs)) Q m := rfl
theorem Wp.nSortSet {f : Fe} {Q : PQ (List W)} : Wp (nSortSet f τ m) Q E = Wp (f τ m) (kSS Q) E := by
  unfold Sm.nSortSet
  rw [Wp.bnd]
  congr 1
  funext w m'
  unfold kSS ttO
  cases txsW w m' with
  | none => rfl
  | some xs =>
    dsimp only
    by_cases h : xs.length < scanBound
    · rw [if_pos h]; exact (propext ⟨fun q => ⟨h, q⟩, fun q => q.2⟩)
    · rw [if_neg h]; exact (propext ⟨fun q => q.elim, fun q => (h q.1).elim⟩)
def stO (o : Option (List Str)) (Q : PQ (List W)) (m : Sto) : Prop := match o with
  | some xs => Q ((sortT xs).map .str) m
  | none => False
theorem stO_some {xs : List Str} {Q : PQ (List W)} : stO (some xs) Q m = Q ((sortT xs).map .str) m := rfl
def kSL (Q : PQ (List W)) : PQ W := fun w m => stO (txsW w m) Q m
theorem kSL_ap {Q : PQ (List W)} {w : W} : kSL Q w m = stO (txsW w m) Q m := rfl
theorem Wp.nSortL {f : Fe} {Q : PQ (List W)} : Wp (nSortL f τ m) Q E = Wp (f τ m) (kSL Q) E := by
  unfold Sm.nSortL
  rw [Wp.bnd]
  congr 1
  funext w m'
  unfold kSL stO
  cases txsW w m' <;> rfl
end
theorem strsOf_map : ∀ xs : List Str, strsOf (xs.map .str) = some xs
  | [] => rfl
  | x :: r => by show (strsOf (r.map .str)).map (x :: ·) = _; rw [strsOf_map r]; rfl
theorem txsW_lst {xs : List Str} {m : Sto} : txsW (.lst (xs.map .str)) m = some xs := strsOf_map xs
end Sm

/-! S74: a + b of lists as a new list. -/
namespace Sm
open PySem PySem.Spec PyProof.Rows L2
def catW : W → W → Option (List W)
  | .lst a, .lst b => if a.length + b.length ≤ sizeLine then some (a ++ b) else none
  | _, _ => none
def nCat (fa fb : Fe) : Fas := fun τ => bnd (fa τ) fun x => bnd (fb τ) fun y m => match catW x y with
  | some ws => .ok ws m
  | none => .bad
section
variable {cl : Str → Addr} {X : Cx} {Wx : WX} {a b : Expr} {fa fb : Fe} {pos : Pos}
def rCat (c : Cn) : V → V → Hp → VK → Prop := fun x y H Q => ∃ F ρ m w1 w2 ws, R c F ρ m H ∧ RB c F ρ H w1 x ∧ RB c F ρ H w2 y ∧ catW w1 w2 = some ws ∧ OkN c F ρ H Q ws m
theorem or_cat : OpR X (binaryOp .Add) (rCat ⟨X.K, cl⟩) := by
  intro pins s σ H x y v u Q I rx ry hr
  obtain ⟨F, ρ, m, w1, w2, ws, r, q1, q2, e, k⟩ := hr
  unfold catW at e
  split at e
  · split at e
    · rename_i a b hz
      cases e
      obtain ⟨a1, vs1, rfl, s1, t1⟩ := q1.lst r
      obtain ⟨a2, vs2, rfl, s2, t2⟩ := q2.lst r
      have l1 := t1.length
      have l2 := t2.length
      cases rx
      cases ry
      exact cat_lists I s1 s2 (by omega) fun p n => OkN.fresh k r .refl (t1.append t2) p n
    · cases e
  · cases e
theorem n_cat (ha : SR ⟨X.K, cl⟩ X Wx a fa) (hb : SR ⟨X.K, cl⟩ X Wx b fb) : SN ⟨X.K, cl⟩ X Wx (.BinOp a .Add b pos) (nCat fa fb) := PE.weak (pe_op or_cat ha hb) fun σ H Q ⟨F, ρ, m, τ, r, s, p⟩ => by
  refine ⟨F, ρ, m, τ, r, s, ?_⟩
  unfold nCat bnd at p
  cases e : fa τ m with
  | bad => rw [e] at p; exact p
  | exc x m' => rw [e] at p; exact p
  | ok w1 m1 =>
    rw [e] at p
    intro v1 F1 ρ1 H1 r1 g1 q1
    refine ⟨F1, ρ1, m1, τ, r1, s.go g1, ?_⟩
    dsimp only at p
    cases e2 : fb τ m1 with
    | bad => rw [e2] at p; exact p
    | exc x m' => rw [e2] at p; exact OkX.back r1 g1 p
    | ok w2 m2 =>
      rw [e2] at p
      intro v2 F2 ρ2 H2 r2 g2 q2
      dsimp only at p
      cases e3 : catW w1 w2 with
      | none => rw [e3] at p; exact p.elim
      | some ws =>
        rw [e3] at p
        exact ⟨F2, ρ2, m2, w1, w2, ws, r2, q1.go g2, q2, e3, fun a vs F' ρ' H' r' g' h0 hf hn ha q => p a vs F' ρ' H' r' ((g1.trans g2).trans g') ((g1.trans g2).back_none r2 h0) hf hn ha q⟩
end
section
variable {τ : SS} {m : Sto} {E : PX}
def ctO (o : Option (List W)) (Q : PQ (List W)) (m : Sto) : Prop := match o with
  | some ws => Q ws m
  | none => False
theorem ctO_some {ws : List W} {Q : PQ (List W)} : ctO (some ws) Q m = Q ws m := rfl
def kCt2 (x : W) (Q : PQ (List W)) : PQ W := fun y m => ctO (catW x y) Q m
theorem kCt2_ap {x y : W} {Q : PQ (List W)} : kCt2 x Q y m = ctO (catW x y) Q m := rfl
def kCt1 (fb : Fe) (τ : SS) (Q : PQ (List W)) (E : PX) : PQ W := fun x m => Wp (fb τ m) (kCt2 x Q) E
theorem kCt1_ap {fb : Fe} {x : W} {Q : PQ (List W)} : kCt1 fb τ Q E x m = Wp (fb τ m) (kCt2 x Q) E := rfl
theorem Wp.nCat {fa fb : Fe} {Q : PQ (List W)} : Wp (nCat fa fb τ m) Q E = Wp (fa τ m) (kCt1 fb τ Q E) E := by
  unfold Sm.nCat
  rw [Wp.bnd]
  congr 1
  funext x m'
  rw [Wp.bnd]
  unfold kCt1
  congr 1
  funext y m2
  unfold kCt2 ctO
  cases catW x y <;> rfl
end
theorem catW_ok {a b : List W} (h : a.length + b.length ≤ 16777216) : catW (.lst a) (.lst b) = some (a ++ b) := by
  show (if a.length + b.length ≤ sizeLine then _ else _) = _
  rw [if_pos (by rw [sizeLine_eq]; omega)]
end Sm

/-! S75: own ==, != with a text or a tuple at the right. -/
namespace Sm
open PySem PySem.Spec PyProof.Rows L2
def datT : W → Option String
  | .str _ => some "str"
  | .tup _ => some "tuple"
  | _ => none
structure EqD (K : PySem.W.Frag) (cl : Str → Addr) (T : List Str) : Prop where
  nf : ∀ C ∈ T, ∀ n ∈ ["str", "tuple"], PySem.W.notFirst K (cl C) (.type n) = true
  ob : ∀ C ∈ T, PySem.W.mroIn K (cl C) (.type "object") = some true
  ne : ∀ C ∈ T, PySem.W.findIn K (.ref (cl C)) "__ne__" = some (some (.builtin "object.__ne__"))
/-- x == y, x of the classes T, y a text or a tuple -/
def opMD (T : List Str) (Γ : Str → List W → M W) (x y : W) : M W := fun m => match clsW x, datT y with
  | some C, some _ => if T.contains C then Γ C [x, y] m else .bad
  | _, _ => .bad
def notMD (T : List Str) (Γ : Str → List W → M W) (x y : W) : M W := bnd (opMD T Γ x y) fun w m => match w with
  | .bl b => .ok (.bl (!b)) m
  | _ => .bad
section
variable {cl : Str → Addr} {X : Cx} {Wx : WX} {k : Nat} {T : List Str} {Γ : Str → List W → M W} {pins : List (Addr × Obj)} {σ : L2.St} {H : Hp} {s : Shared} {F : Hp} {ρ : List Addr} {m : Sto}
theorem dat_ty {w : W} {v : V} {u : Value} {n : String} (I : Inv X pins σ H s) (r : R ⟨X.K, cl⟩ F ρ m H) (q : RW ⟨X.K, cl⟩ F ρ w v) (ru : RelV v u) (e : datT w = some n) : n ∈ ["str", "tuple"] ∧ PySem.W.Looks (model X.prog X.w) s.heap (typeOf u) (.type n) := by
  cases w with
  | str z =>
    cases e
    have e1 : v = .str z := q
    subst e1
    obtain ⟨tk, rfl⟩ := ru
    exact ⟨by simp, fun A Q E s' _ h => wpAny_pure h⟩
  | tup ws =>
    cases e
    have qb : RB ⟨X.K, cl⟩ F ρ H (.tup ws) v := .inl q
    obtain ⟨a, vs, rfl, hq, _⟩ := qb.tup r
    cases ru
    obtain ⟨its, _, pl, _⟩ := I.tuple hq
    obtain ⟨o, ho, hc, _⟩ := pl
    refine ⟨by simp, fun A Q E s' k h => wpAny_typeOf (T := "tuple") ⟨o, k _ _ ho, hc⟩ h⟩
  | _ => cases e
theorem m_eqD (hT : EqD X.K cl T) (hΓ : ∀ C ∈ T, CalM X.prog X.w X.K X.mg X.base cl k C "__eq__" 2 [] (Γ C)) (hr : Room k X.A) (tk : Takes X Wx) : CmpM ⟨X.K, cl⟩ X Wx .Eq (opMD T Γ) := by
  intro pins s2 σ H2 x y v u Q I2 rx ry q
  obtain ⟨F, ρ, m, wx, wy, r, q1, q2, p⟩ := q
  unfold opMD at p
  split at p
  · rename_i C n e1 e2
    split at p
    · rename_i hc
      have c1 := List.contains_iff_mem.mp hc
      obtain ⟨ax, ox, od, rfl, J1⟩ := inst_of I2 r q1 e1
      cases rx
      obtain ⟨hn2, L2⟩ := dat_ty I2 r q2 ry e2
      obtain ⟨f, fd, ps, ds, dvs, Fn, hn, hbd, hd, hw, hs, hf, _⟩ := (hΓ C c1).ex
      obtain ⟨fm, fr⟩ := I2.fr
      exact PySem.W.cmp_ofEq (PySem.W.cmp_K (op := .Eq) hr.units0 fr I2.mod.kin J1 L2 (hT.nf C c1 _ hn2) hs hf
        (thn (run_M (us := [.ref ax, u]) (vs := [.ref ax, y]) Fn hr hbd hd hw tk I2 (.cons rfl (.cons ry .nil)) r (.cons q1 (.cons q2 .nil)) (by rw [hn]; rfl) p) fun u s' z => cmpBack z))
    · exact p.elim
  · exact p.elim
theorem m_neD (hT : EqD X.K cl T) (hΓ : ∀ C ∈ T, CalM X.prog X.w X.K X.mg X.base cl k C "__eq__" 2 [] (Γ C)) (hr : Room (k + 1) X.A) (tk : Takes X Wx) : CmpM ⟨X.K, cl⟩ X Wx .NotEq (notMD T Γ) := by
  intro pins s2 σ H2 x y v u Q I2 rx ry q
  obtain ⟨F, ρ, m, wx, wy, r, q1, q2, p⟩ := q
  unfold notMD opMD bnd at p
  dsimp only at p
  cases e1 : clsW wx with
  | none => rw [e1] at p; exact p.elim
  | some C =>
    cases e2 : datT wy with
    | none => rw [e1, e2] at p; exact p.elim
    | some n =>
      rw [e1, e2] at p
      dsimp only at p
      by_cases hc : T.contains C = true
      · rw [if_pos hc] at p
        have c1 := List.contains_iff_mem.mp hc
        obtain ⟨ax, ox, od, rfl, J1⟩ := inst_of I2 r q1 e1
        cases rx
        obtain ⟨hn2, L2⟩ := dat_ty I2 r q2 ry e2
        obtain ⟨f, fd, ps, ds, dvs, Fn, hn, hbd, hd, hw, hs, hf, _⟩ := (hΓ C c1).ex
        have p' : Post (OkE ⟨X.K, cl⟩ F ρ H2 (fun v H' => ∃ b, v = .bl b ∧ Q (.bl (!b)) H')) (OkX ⟨X.K, cl⟩ F ρ H2 fun k d H' => Wx k d σ H') (Γ C ([wx, wy] ++ []) m) := by
          show Post _ _ (Γ C [wx, wy] m)
          cases e3 : Γ C [wx, wy] m with
          | bad => rw [e3] at p; exact p
          | exc z m' => rw [e3] at p; exact p
          | ok w m' =>
            rw [e3] at p
            cases w with
            | bl b =>
              intro v F' ρ' H' r' g' q'
              exact ⟨b, q', p _ F' ρ' H' r' g' rfl⟩
            | _ => exact p.elim
        refine PySem.W.cmp_ofNotEq (ne_K hr.units0 hr.in1.units0 I2.kIn J1 L2 (hT.nf C c1 _ hn2) (hT.ob C c1) (hT.ne C c1) hs hf
          (thn (run_MA (A := X.A.in1) (us := [.ref ax, u]) (vs := [.ref ax, y]) Fn hr.in1 rfl hbd hd hw tk I2 (.cons rfl (.cons ry .nil)) r (.cons q1 (.cons q2 .nil)) (by rw [hn]; rfl) p') fun u s' z => ?_))
        obtain ⟨v, H', I', rv, b, rfl, q⟩ := z
        cases rv
        exact ⟨b, rfl, .bl (!b), H', I', rfl, q⟩
      · rw [if_neg hc] at p; exact p.elim
end
def eqdB (K : PySem.W.Frag) (T : List Str) : Bool := (T.all fun C => ["str", "tuple"].all fun n => PySem.W.notFirst K (He.ga K C) (.type n)) && ((T.all fun C => eqB1 (PySem.W.mroIn K (He.ga K C) (.type "object")) (some true)) && T.all fun C => He.eqO (PySem.W.findIn K (.ref (He.ga K C)) "__ne__") (some (some (.builtin "object.__ne__"))))
theorem eqd_of {K : PySem.W.Frag} {T : List Str} (b : eqdB K T = true) : EqD K (He.ga K) T := by
  unfold eqdB at b
  obtain ⟨b1, b⟩ := He.ba b
  obtain ⟨b2, b3⟩ := He.ba b
  exact ⟨fun C hC n hn => List.all_eq_true.mp (List.all_eq_true.mp b1 C hC) n hn, fun C hC => of_decide_eq_true (List.all_eq_true.mp b2 C hC), fun C hC => He.eqO_ok (List.all_eq_true.mp b3 C hC)⟩
end Sm

/-! S76: == [] and != [] of lists of anything. -/
namespace Sm
section
open PySem PySem.SeqAt GQ
open AutoSeq1 (wpAny_loadPart')
open MeetsSeq MeetsSeq2 MeetsSeq3 SeqRoads2
variable {prog : Program} {w : World} {A : Around} {R : Result → Shared → Prop} {E : Value → Shared → Prop} {s : Shared}
theorem list_eqU {l b : Addr} {it it2 : Array Value} {n n2 : Nat} (h1 : s.heap.get? l = some { cls := .type "list", data := .seq it n }) (h2 : s.heap.get? b = some { cls := .type "list", data := .seq it2 n2 }) (hn : it.size ≠ it2.size) (fin : R (.ok (.ret (.bool false))) s) :
    wpAny (model prog w) A.in1 (Builtin.«list.__eq__» ⟨[.ref l, .ref b], []⟩) (FinOf prog w A R) (fun e s' => R (.error e) s') s := by
  obtain ⟨hp, g, d, tk, os⟩ := s
  have f3 := AutoSeq1.sub_list_list
  have hne : (it.size != it2.size) = true := by simpa using hn
  wp_walk using wpAny_loadPart' h1, wpAny_loadPart' h2
  all_goals first | exact fin | simpa using fin
theorem list_neU {l b : Addr} {it it2 : Array Value} {n n2 : Nat} (h1 : s.heap.get? l = some { cls := .type "list", data := .seq it n }) (h2 : s.heap.get? b = some { cls := .type "list", data := .seq it2 n2 }) (hn : it.size ≠ it2.size) (fin : R (.ok (.ret (.bool true))) s) :
    wpAny (model prog w) A.in1 (Builtin.«list.__ne__» ⟨[.ref l, .ref b], []⟩) (FinOf prog w A R) (fun e s' => R (.error e) s') s := by
  obtain ⟨hp, g, d, tk, os⟩ := s
  have f3 := AutoSeq1.sub_list_list
  have hne : (it.size != it2.size) = true := by simpa using hn
  wp_walk using wpAny_loadPart' h1, wpAny_loadPart' h2
  all_goals first | exact fin | simpa using fin
theorem rc_eqU {l b : Addr} {it it2 : Array Value} {n n2 : Nat} {Q : Value → Shared → Prop} (hu : A.units < cLine) (h1 : s.heap.get? l = some { cls := .type "list", data := .seq it n }) (h2 : s.heap.get? b = some { cls := .type "list", data := .seq it2 n2 }) (hn : it.size ≠ it2.size) (fin : Q (.bool false) s) :
    wpAny (model prog w) A (richCompare .Eq (.ref l) (.ref b)) Q E s := by
  refine wpAny_richCompare_same_room (op := .Eq) ⟨_, h1, rfl⟩ ⟨_, h2, rfl⟩ F.slot_list_eq (call_here F.slot_list_eq ⟨_, h1, rfl⟩ F.entry_list_eq (F.args_list_eq_2 _ _) ?_) hu
  exact list_eqU (R := wants (fun v s' => v ≠ .notImplemented ∧ Q v s') E) h1 h2 hn ⟨(fun x => nomatch x), fin⟩
theorem rc_neU {l b : Addr} {it it2 : Array Value} {n n2 : Nat} {Q : Value → Shared → Prop} (hu : A.units < cLine) (h1 : s.heap.get? l = some { cls := .type "list", data := .seq it n }) (h2 : s.heap.get? b = some { cls := .type "list", data := .seq it2 n2 }) (hn : it.size ≠ it2.size) (fin : Q (.bool true) s) :
    wpAny (model prog w) A (richCompare .NotEq (.ref l) (.ref b)) Q E s := by
  refine wpAny_richCompare_same_room (op := .NotEq) ⟨_, h1, rfl⟩ ⟨_, h2, rfl⟩ F.slot_list_ne (call_here F.slot_list_ne ⟨_, h1, rfl⟩ F.entry_list_ne (F.args_list_ne_2 _ _) ?_) hu
  exact list_neU (R := wants (fun v s' => v ≠ .notImplemented ∧ Q v s') E) h1 h2 hn ⟨(fun x => nomatch x), fin⟩
end
open PySem PySem.Spec PyProof.Rows L2
section
variable {cl : Str → Addr} {X : Cx}
theorem deref_rd {c : Cn} {F : Hp} {ρ : List Addr} {H : Hp} {m : Sto} {w : W} {v : V} {xs : List W} (r : R c F ρ m H) (q : RB c F ρ H w v) (e : deref w m = .lst xs) : ∃ a vs, v = .ref a ∧ Rd H a (.lst vs) ∧ RWs c F ρ xs vs := by
  cases w with
  | ref i =>
    obtain ⟨a, rfl, h1⟩ := q.ref
    unfold deref at e
    dsimp only at e
    cases e2 : m[i]? with
    | none =>
      rw [e2] at e
      cases e
    | some o =>
      rw [e2] at e
      cases o with
      | lst ys =>
        obtain ⟨vs, h2, t⟩ := r.lst h1 e2
        cases (show W.lst ys = .lst xs from e)
        exact ⟨a, vs, rfl, .inl h2, t⟩
      | _ => cases e
  | lst ys =>
    obtain ⟨a, vs, rfl, h1, t⟩ := q.lst r
    cases (show W.lst ys = .lst xs from e)
    exact ⟨a, vs, rfl, h1, t⟩
  | _ => cases e
def nilB (w1 w2 : W) (m : Sto) : Option Bool := match deref w1 m, deref w2 m with
  | .lst xs, .lst [] => some xs.isEmpty
  | _, _ => none
def eqNil (w1 w2 : W) (m : Sto) : Option W := (nilB w1 w2 m).map .bl
def neNil (w1 w2 : W) (m : Sto) : Option W := (nilB w1 w2 m).map fun b => .bl (!b)
theorem nil_go {F : Hp} {ρ : List Addr} {H : Hp} {m : Sto} {w1 w2 : W} {x y : V} {b : Bool} (r : R ⟨X.K, cl⟩ F ρ m H) (q1 : RB ⟨X.K, cl⟩ F ρ H w1 x) (q2 : RB ⟨X.K, cl⟩ F ρ H w2 y) (e : nilB w1 w2 m = some b) :
    (b = true ∧ Dp X.K H x (.list []) ∧ Dp X.K H y (.list [])) ∨ (b = false ∧ ∃ a a2 vs vs2, x = .ref a ∧ y = .ref a2 ∧ Rd H a (.lst vs) ∧ Rd H a2 (.lst vs2) ∧ vs.length ≠ vs2.length) := by
  unfold nilB at e
  split at e
  · rename_i xs e1 e2
    cases e
    obtain ⟨a, vs, rfl, h1, t1⟩ := deref_rd r q1 e1
    obtain ⟨a2, vs2, rfl, h2, t2⟩ := deref_rd r q2 e2
    cases xs with
    | nil =>
      left
      have z1 : vs = [] := t1
      have z2 : vs2 = [] := t2
      subst z1 z2
      exact ⟨rfl, .lst (.inl h1) .nil, .lst (.inl h2) .nil⟩
    | cons p ps =>
      right
      have z2 : vs2 = [] := t2
      subst z2
      refine ⟨rfl, a, a2, vs, [], rfl, rfl, h1, h2, ?_⟩
      have := t1.length
      simp at this ⊢
      intro z
      rw [z] at this
      simp at this
  · cases e
theorem o_eqNil {k : Nat} (hr : Room k X.A) : OpR X (compareOp .Eq) (rS ⟨X.K, cl⟩ eqNil) := by
  intro pins s σ H x y v u Q I rx ry h
  obtain ⟨F, ρ, m, w1, w2, w, r, q1, q2, e, kk⟩ := h
  obtain ⟨b, e1, rfl⟩ := Option.map_eq_some_iff.mp e
  rcases nil_go r q1 q2 e1 with ⟨rfl, p1, p2⟩ | ⟨rfl, a, a2, vs, vs2, rfl, rfl, h1, h2, hn⟩
  · exact op_eqD hr.units pins s σ H x y v u Q I rx ry ⟨_, _, p1, p2, by decide +kernel, by decide +kernel, kk _ F ρ H r .refl rfl⟩
  · obtain ⟨_, its, n, rv, g1⟩ := h1.ok I.hok
    obtain ⟨_, its2, n2, rv2, g2⟩ := h2.ok I.hok
    cases rx
    cases ry
    refine PySem.W.cmp_ofEq (rc_eqU hr.units0 g1 g2 (by have := rv.length; have := rv2.length; rw [List.size_toArray, List.size_toArray]; omega) ⟨.bl false, H, I, rfl, kk _ F ρ H r .refl rfl⟩)
theorem o_neNil {k : Nat} (hr : Room k X.A) : OpR X (compareOp .NotEq) (rS ⟨X.K, cl⟩ neNil) := by
  intro pins s σ H x y v u Q I rx ry h
  obtain ⟨F, ρ, m, w1, w2, w, r, q1, q2, e, kk⟩ := h
  obtain ⟨b, e1, rfl⟩ := Option.map_eq_some_iff.mp e
  rcases nil_go r q1 q2 e1 with ⟨rfl, p1, p2⟩ | ⟨rfl, a, a2, vs, vs2, rfl, rfl, h1, h2, hn⟩
  · exact op_neD hr.units pins s σ H x y v u Q I rx ry ⟨_, _, p1, p2, by decide +kernel, by decide +kernel, kk _ F ρ H r .refl rfl⟩
  · obtain ⟨_, its, n, rv, g1⟩ := h1.ok I.hok
    obtain ⟨_, its2, n2, rv2, g2⟩ := h2.ok I.hok
    cases rx
    cases ry
    refine PySem.W.cmp_ofNotEq (rc_neU hr.units0 g1 g2 (by have := rv.length; have := rv2.length; rw [List.size_toArray, List.size_toArray]; omega) ⟨.bl true, H, I, rfl, kk _ F ρ H r .refl rfl⟩)
end
end Sm

/-! S77: repr(e) of data. -/
namespace Sm
open PySem PySem.Spec PyProof.Rows L2
def shwB (d : PyData) : Bool := d.showable && (!d.hasDict && (decide (d.depth ≤ 60) && decide (d.shown.length ≤ sizeLine)))
def reprW : List W → Sto → Option W
  | [w], m => match toD (deref w m) with
    | some d => if shwB d = true then some (.str d.shown) else none
    | none => none
  | _, _ => none
section
variable {cl : Str → Addr} {X : Cx} {Wx : WX} {e : Expr} {f : Fe} {p pos : Pos}
theorem c_repr {k : Nat} (hr : Room k X.A) : CallR X (.builtin "repr") (rC ⟨X.K, cl⟩ reprW) := by
  intro pins s σ H xs us Q I rv h
  obtain ⟨F, ρ, m, ws, w, r, q, e, k⟩ := h
  unfold reprW at e
  split at e
  · obtain ⟨v, rfl, q1⟩ := q.one
    obtain ⟨u, rfl, ru⟩ := vals1 rv
    split at e
    · rename_i d ed
      split at e
      · rename_i hs
        cases e
        unfold shwB at hs
        simp only [Bool.and_eq_true, Bool.not_eq_true', decide_eq_true_eq] at hs
        obtain ⟨h1, h2, h3, h4⟩ := hs
        have hd := deref_dp r q1 ed
        have kk := k (.str d.shown) F ρ H r .refl rfl
        obtain ⟨as, rd⟩ := Dp.reads I d v u hd ru
        cases hd with
        | non =>
          cases (show u = Value.none from ru)
          exact PySem.P.repr_of_none ⟨.str _, H, I.tok _, ⟨_, rfl⟩, kk⟩
        | bl b =>
          cases (show u = Value.bool b from ru)
          exact PySem.P.repr_of_bool ⟨.str _, H, I.tok _, ⟨_, rfl⟩, kk⟩
        | int i =>
          obtain ⟨t, rfl⟩ := ru
          exact PySem.P.repr_of_int (of_decide_eq_true h1) ⟨.str _, H, I.tok _, ⟨_, rfl⟩, kk⟩
        | str x =>
          obtain ⟨t, rfl⟩ := ru
          exact PySem.P.repr_of_str ⟨.str _, H, I.tok _, ⟨_, rfl⟩, kk⟩ h4
        | lst a t =>
          cases ru
          exact repr_of_reads' rd h1 (PyData.noDict_hsm h2) hr.gd (by have := hr.un; omega) (fun _ _ z => z) (fun h' u tk hk => ⟨.str _, H, I.kept hk, ⟨_, rfl⟩, kk⟩) h4
        | tup a t =>
          cases ru
          exact repr_of_reads' rd h1 (PyData.noDict_hsm h2) hr.gd (by have := hr.un; omega) (fun _ _ z => z) (fun h' u tk hk => ⟨.str _, H, I.kept hk, ⟨_, rfl⟩, kk⟩) h4
      · cases e
    · cases e
  · cases e
theorem s_repr {t : Tb} {k : Nat} (h : Fx X.K X.mg cl t) (hr : Room k X.A) (i : Nat) (ha : SR ⟨X.K, cl⟩ X Wx e f) (eb : t.bl[i]? = some ("repr" : Str) := by rfl) (hg : Gl X "repr" := by rfl) (h1 : starEach [e] X.env = (false, eval e X.env) :: starEach [] X.env := by rfl) (hpl : (backTo pos (starEach [] X.env)).any (·.1) = false := by rfl) :
    SE ⟨X.K, cl⟩ X Wx (.Call (.Name "repr" p) [e] [] pos) (eBlt reprW (aCons f aNil)) := s_blt (c_repr hr) (ar_cons ha ar_nil h1) (h.nog.at i eb) (by kernel_rfl) hg (by decide) (by decide) h1 hpl
end
end Sm

/-! S78: how calls with keywords bind. -/
namespace Sm
open PySem PySem.Spec PyProof.Rows L2
section
variable {P : Program} {K : PySem.W.Frag} {x qual : Str} {params : Arguments} {body : List Stmt} {scope : Scope} {dvs : List V} {kws : List (Str × V)} {f cc D cda : Addr} {fd : FuncData} {ps : List Str} {n : Nat} {ks : List Str} {ix : List Nat}
theorem kb0D (F : FunD K x qual params body scope [] kws f fd) (h : ∀ (kV doc pm : Value) (an : Option Addr) (cdv ct : Value) (us : List Value), us.length = n + ks.length → bindArgs (PySem.W.fnOf x qual params body scope .none kV doc pm an cdv ct) ⟨us.take n, ks.zip (us.drop n)⟩ = pure (ps.zip (pk ix us))) : KB K fd ps n ks ix [] := by
  obtain ⟨oc, od, dV, kV, doc, pm, an, cdv, ct, osl, rfl, lk, hcd, hD, hK⟩ := F.ex
  rcases hD with ⟨_, rfl⟩ | ⟨e, _⟩
  · exact kb_n (h kV doc pm an cdv ct)
  · exact absurd rfl e
theorem kb1D (F : FunD K x qual params body scope dvs kws f fd) (hd : dvs ≠ []) (h : ∀ (T : Addr) (kV doc pm : Value) (an : Option Addr) (cdv ct : Value) (us its : List Value), us.length = n + ks.length → its.length = dvs.length → ∃ k, bindArgs (PySem.W.fnOf x qual params body scope (.ref T) kV doc pm an cdv ct) ⟨us.take n, ks.zip (us.drop n)⟩ = seqItems? (.ref T) >>= k ∧ k (some its.toArray) = pure (ps.zip (pk ix (us ++ its)))) : KB K fd ps n ks ix dvs := by
  obtain ⟨oc, od, dV, kV, doc, pm, an, cdv, ct, osl, rfl, lk, hcd, hD, hK⟩ := F.ex
  refine kb_d hD hd fun T us its e h1 h2 => ?_
  have e2 : dV = .ref T := e
  subst e2
  exact h T kV doc pm an cdv ct us its h1 h2
theorem kb0S (Fs : FunS P K x qual params body scope f fd cc D cda) (hD : DflV K fd.defaults []) (h : ∀ (kV doc pm : Value) (an : Option Addr) (ct : Value) (us : List Value), us.length = n + ks.length → bindArgs (PySem.W.ksFn x qual params body scope .none kV doc pm an (.ref cda) ct cc) ⟨us.take n, ks.zip (us.drop n)⟩ = pure (ps.zip (pk ix us))) : KB K fd ps n ks ix [] := by
  obtain ⟨oc, od, dV, kV, doc, pm, an, ct, osl, rfl, lk⟩ := Fs.ex
  rcases hD with ⟨_, e⟩ | ⟨e, _⟩
  · have e2 : dV = .none := e
    subst e2
    exact kb_n (h kV doc pm an ct)
  · exact absurd rfl e
theorem kb1S (Fs : FunS P K x qual params body scope f fd cc D cda) (hD : DflV K fd.defaults dvs) (hd : dvs ≠ []) (h : ∀ (T : Addr) (kV doc pm : Value) (an : Option Addr) (ct : Value) (us its : List Value), us.length = n + ks.length → its.length = dvs.length → ∃ k, bindArgs (PySem.W.ksFn x qual params body scope (.ref T) kV doc pm an (.ref cda) ct cc) ⟨us.take n, ks.zip (us.drop n)⟩ = seqItems? (.ref T) >>= k ∧ k (some its.toArray) = pure (ps.zip (pk ix (us ++ its)))) : KB K fd ps n ks ix dvs := by
  obtain ⟨oc, od, dV, kV, doc, pm, an, ct, osl, rfl, lk⟩ := Fs.ex
  refine kb_d hD hd fun T us its e h1 h2 => ?_
  have e2 : dV = .ref T := e
  subst e2
  exact h T kV doc pm an ct us its h1 h2
end
end Sm

/-! S79: dicts by texts and ints: d[k], k in d, d.get, for k in d, d.items(). -/
namespace Sm
open PySem PySem.Spec PyProof.Rows L2
/-! ### lookups -/
def dget (ks vs : List W) (k : Key) : Option W := match ks, vs with
  | a :: ks, v :: vs => if keyOf a = some k then some v else dget ks vs k
  | _, _ => none
def dputV (ks vs : List W) (k : Key) (x : W) : List W := match ks, vs with
  | a :: ks, v :: vs => (if keyOf a = some k then x else v) :: dputV ks vs k x
  | _, _ => []
/-- d[w] = x -/
def dput (ks vs : List W) (w : W) (k : Key) (x : W) : List W × List W := if (ks.any fun a => decide (keyOf a = some k)) = true then (ks, dputV ks vs k x) else (ks ++ [w], vs ++ [x])
section
variable {c : Cn} {F : Hp} {ρ : List Addr}
/-- keys and values stand for a dict's -/
def KR (c : Cn) (F : Hp) (ρ : List Addr) (ks vs : List W) (kvs : List (Key × V)) : Prop := ks.map keyOf = kvs.map (fun p => some p.1) ∧ RWs c F ρ vs (kvs.map (·.2))
theorem KR.mono {F' : Hp} {ρ' : List Addr} {ks vs : List W} {kvs : List (Key × V)} (h : KR c F ρ ks vs kvs) (s : Same F F') (p : Pre ρ ρ') : KR c F' ρ' ks vs kvs := ⟨h.1, h.2.mono s p⟩
theorem KR.cons {a v : W} {ks vs : List W} {p : Key × V} {kvs : List (Key × V)} (h : KR c F ρ (a :: ks) (v :: vs) (p :: kvs)) : keyOf a = some p.1 ∧ RW c F ρ v p.2 ∧ KR c F ρ ks vs kvs := by
  obtain ⟨h1, h2⟩ := h
  simp only [List.map_cons, List.cons.injEq] at h1
  obtain ⟨x, r, e, q, t⟩ := h2.inv
  simp only [List.map_cons, List.cons.injEq] at e
  obtain ⟨rfl, rfl⟩ := e
  exact ⟨h1.1, q, h1.2, t⟩
theorem KR.lens {ks vs : List W} {kvs : List (Key × V)} (h : KR c F ρ ks vs kvs) : ks.length = kvs.length ∧ vs.length = kvs.length := by
  have l1 := congrArg List.length h.1
  have l2 := h.2.length
  simp only [List.length_map] at l1 l2
  exact ⟨l1, l2.symm⟩
theorem KR.nil : KR c F ρ [] [] [] := ⟨rfl, .nil⟩
theorem KR.mk {a v : W} {ks vs : List W} {p : Key × V} {kvs : List (Key × V)} (h1 : keyOf a = some p.1) (h2 : RW c F ρ v p.2) (h3 : KR c F ρ ks vs kvs) : KR c F ρ (a :: ks) (v :: vs) (p :: kvs) :=
  ⟨by rw [List.map_cons, List.map_cons, h1, h3.1], .cons h2 h3.2⟩
theorem KR.get (k : Key) : ∀ {ks vs : List W} {kvs : List (Key × V)}, KR c F ρ ks vs kvs → match dget ks vs k with
    | some w => ∃ v, valV kvs k = some v ∧ RW c F ρ w v
    | none => valV kvs k = none
  | [], vs, kvs, h => by
    have e : kvs = [] := List.length_eq_zero_iff.mp h.lens.1.symm
    subst e
    exact valV_nil
  | a :: ks, [], kvs, h => by
    have := h.lens
    simp at this
    omega
  | a :: ks, v :: vs, [], h => by
    have := h.lens
    simp at this
  | a :: ks, v :: vs, p :: kvs, h => by
    obtain ⟨h1, h2, h3⟩ := h.cons
    have ih := KR.get k h3
    unfold dget
    by_cases e : keyOf a = some k
    · rw [if_pos e]
      rw [h1] at e
      exact ⟨p.2, valV_pos (Option.some.inj e), h2⟩
    · rw [if_neg e]
      rw [h1] at e
      rw [valV_neg (fun z => e (by rw [z]))]
      exact ih
theorem KR.any (k : Key) : ∀ {ks vs : List W} {kvs : List (Key × V)}, KR c F ρ ks vs kvs → (ks.any fun a => decide (keyOf a = some k)) = kvs.any fun kv => decide (kv.1 = k)
  | [], vs, kvs, h => by
    have e : kvs = [] := List.length_eq_zero_iff.mp h.lens.1.symm
    subst e
    rfl
  | a :: ks, [], kvs, h => by
    have := h.lens
    simp at this
    omega
  | a :: ks, v :: vs, [], h => by
    have := h.lens
    simp at this
  | a :: ks, v :: vs, p :: kvs, h => by
    obtain ⟨h1, h2, h3⟩ := h.cons
    rw [List.any_cons, List.any_cons, KR.any k h3, h1]
    congr 1
    rw [decide_eq_decide]
    exact ⟨fun z => Option.some.inj z, fun z => by rw [z]⟩
theorem KR.putV (k : Key) {x : W} {y : V} (hx : RW c F ρ x y) : ∀ {ks vs : List W} {kvs : List (Key × V)}, KR c F ρ ks vs kvs → KR c F ρ ks (dputV ks vs k x) (kvs.map fun kv => if kv.1 = k then (kv.1, y) else kv)
  | [], vs, kvs, h => by
    have e : kvs = [] := List.length_eq_zero_iff.mp h.lens.1.symm
    subst e
    exact .nil
  | a :: ks, [], kvs, h => by
    have := h.lens
    simp at this
    omega
  | a :: ks, v :: vs, [], h => by
    have := h.lens
    simp at this
  | a :: ks, v :: vs, p :: kvs, h => by
    obtain ⟨h1, h2, h3⟩ := h.cons
    have ih := KR.putV k hx h3
    unfold dputV
    by_cases e : p.1 = k
    · rw [List.map_cons, if_pos e, if_pos (by rw [h1, e])]
      exact .mk h1 hx ih
    · rw [List.map_cons, if_neg e, if_neg (fun z => by rw [h1] at z; exact e (Option.some.inj z))]
      exact .mk h1 h2 ih
theorem KR.snoc {a x : W} {k : Key} {y : V} {ks vs : List W} {kvs : List (Key × V)} (h : KR c F ρ ks vs kvs) (ha : keyOf a = some k) (hx : RW c F ρ x y) : KR c F ρ (ks ++ [a]) (vs ++ [x]) (kvs ++ [(k, y)]) :=
  ⟨by rw [List.map_append, List.map_append, h.1]; simp [ha], by rw [List.map_append]; exact h.2.append (.cons hx .nil)⟩
theorem KR.put {a x : W} {k : Key} {y : V} {ks vs : List W} {kvs : List (Key × V)} (h : KR c F ρ ks vs kvs) (ha : keyOf a = some k) (hx : RW c F ρ x y) : KR c F ρ (dput ks vs a k x).1 (dput ks vs a k x).2 (putK kvs k y) := by
  unfold dput putK
  rw [h.any k]
  split
  · exact h.putV k hx
  · exact h.snoc ha hx
theorem key_rw {w : W} {k : Key} (h : keyOf w = some k) : RW c F ρ w (kV k) := by
  cases w with
  | int i => cases h; rfl
  | str x => cases h; rfl
  | _ => cases h
theorem key_rb {H : Hp} {w : W} {v : V} {k : Key} (q : RB c F ρ H w v) (h : keyOf w = some k) : v = kV k := by
  cases w with
  | int i => cases h; exact q.int
  | str x => cases h; exact q.str
  | _ => cases h
/-- a dict that is read -/
theorem deref_dk {H : Hp} {m : Sto} {w : W} {v : V} {ks vs : List W} (r : R c F ρ m H) (q : RB c F ρ H w v) (e : deref w m = .dct ks vs) : ∃ a kvs, v = .ref a ∧ Rd H a (.dK kvs) ∧ KR c F ρ ks vs kvs := by
  have fin : ∀ {a : Addr} {o : MO} {h : HO}, toW o = .dct ks vs → OR c F ρ a o h → ∃ kvs, h = .dK kvs ∧ KR c F ρ ks vs kvs := fun {a o h} e q => by
    cases o with
    | dK ks' vs' =>
      cases e
      obtain ⟨kvs, rfl, k1, k2⟩ := q
      exact ⟨kvs, rfl, k1, k2⟩
    | dT ks' vs' => exact q.elim
    | _ => cases e
  cases w with
  | ref i =>
    obtain ⟨a, rfl, h1⟩ := q.ref
    unfold deref at e
    dsimp only at e
    cases e2 : m[i]? with
    | none =>
      rw [e2] at e
      cases e
    | some o =>
      rw [e2] at e
      obtain ⟨h, h2, h3⟩ := r.at_ i a o h1 e2
      obtain ⟨kvs, rfl, kr⟩ := fin e h3
      exact ⟨a, kvs, rfl, .inl h2, kr⟩
  | dct ks' vs' =>
    cases (show W.dct ks' vs' = .dct ks vs from e)
    rcases q with q | ⟨a, h, o, rfl, e2, h1, _, _, h2⟩
    · unfold RW at q
      obtain ⟨a, o, kvs, rfl, h1, h2, h3⟩ := q
      exact ⟨a, kvs, rfl, .inr ⟨o, r.sub _ _ h1⟩, h2, h3⟩
    · obtain ⟨kvs, rfl, kr⟩ := fin e2.symm h2
      exact ⟨a, kvs, rfl, .inl h1, kr⟩
  | _ => cases e
end
end Sm

/-! S80: rules for dicts that are read. -/
namespace Sm
open PySem PySem.Spec PyProof.Rows L2
section
variable {c : Cn} {Wx : WX} {σ : L2.St} {H : Hp} {Q Q2 : VK} {f : Fe}
theorem sW.imp (h : sW c Wx f σ H Q) (hi : ∀ v H1, Q v H1 → Q2 v H1) : sW c Wx f σ H Q2 := by
  obtain ⟨F, ρ, m, τ, r, s, p⟩ := h
  refine ⟨F, ρ, m, τ, r, s, ?_⟩
  cases e : f τ m with
  | bad =>
    rw [e] at p
    exact p
  | exc x m' =>
    rw [e] at p
    exact p
  | ok w m1 =>
    rw [e] at p
    exact fun v F1 ρ1 H1 r1 g1 q1 => hi _ _ (p v F1 ρ1 H1 r1 g1 q1)
end
def dixW (w1 w2 : W) (m : Sto) : Option W := match deref w1 m, keyOf w2 with
  | .dct ks vs, some k => dget ks vs k
  | _, _ => none
def dinB (w1 w2 : W) (m : Sto) : Option Bool := match keyOf w1, deref w2 m with
  | some k, .dct ks vs => some (dget ks vs k).isSome
  | _, _ => none
def dinW (w1 w2 : W) (m : Sto) : Option W := (dinB w1 w2 m).map .bl
def dninW (w1 w2 : W) (m : Sto) : Option W := (dinB w1 w2 m).map fun b => .bl (!b)
def dlenW : List W → Sto → Option W
  | [w], m => match deref w m with
    | .dct ks _ => some (.int ks.length)
    | _ => none
  | _, _ => none
section
variable {cl : Str → Addr} {X : Cx} {Wx : WX} {o i e e2 : Expr} {fo fi fe ff : Fe} {pos apos cpos p : Pos} {k : Nat}
theorem s_dix (hr : Room k X.A) (ho : SR ⟨X.K, cl⟩ X Wx o fo) (hi : SR ⟨X.K, cl⟩ X Wx i fi) (hs : NoSl i := by exact fun _ _ => rfl) : SE ⟨X.K, cl⟩ X Wx (.Subscript o i pos) (op2 dixW fo fi) :=
  PE.weak (pe_dget (by have := hr.un; omega) ho hi hs) fun σ H Q h => sW.imp (w_op2 h) fun x H1 q => sW.imp q fun y H2 ⟨F, ρ, m, w1, w2, w, r, q1, q2, e, kk⟩ => by
    unfold dixW at e
    split at e
    · rename_i ks vs k e1 e2
      obtain ⟨a, kvs, rfl, rd, kr⟩ := deref_dk r q1 e1
      have g := kr.get k
      rw [e] at g
      obtain ⟨v, g1, g2⟩ := g
      exact ⟨a, v, rfl, .inl ⟨kvs, k, rd, key_rb q2 e2, g1.symm⟩, kk v F ρ H2 r .refl g2⟩
    · cases e
theorem din_go {F : Hp} {ρ : List Addr} {H : Hp} {m : Sto} {w1 w2 : W} {x y : V} {b : Bool} (r : R ⟨X.K, cl⟩ F ρ m H) (q1 : RB ⟨X.K, cl⟩ F ρ H w1 x) (q2 : RB ⟨X.K, cl⟩ F ρ H w2 y) (e : dinB w1 w2 m = some b) : ∃ a o, y = .ref a ∧ DGet H a x o ∧ o.isSome = b := by
  unfold dinB at e
  split at e
  · rename_i k ks vs e1 e2
    obtain ⟨a, kvs, rfl, rd, kr⟩ := deref_dk r q2 e2
    have g := kr.get k
    refine ⟨a, valV kvs k, rfl, .inl ⟨kvs, k, rd, key_rb q1 e1, rfl⟩, ?_⟩
    cases ed : dget ks vs k with
    | none =>
      rw [ed] at g e
      rw [g]
      exact Option.some.inj e
    | some w =>
      rw [ed] at g e
      obtain ⟨v, g1, _⟩ := g
      rw [g1]
      exact Option.some.inj e
  · cases e
theorem o_din (hr : Room k X.A) : OpR X (compareOp .In) (rS ⟨X.K, cl⟩ dinW) := by
  intro pins s σ H x y v u Q I rx ry h
  obtain ⟨F, ρ, m, w1, w2, w, r, q1, q2, e, kk⟩ := h
  obtain ⟨b, e1, rfl⟩ := Option.map_eq_some_iff.mp e
  obtain ⟨a, o, rfl, g, rfl⟩ := din_go r q1 q2 e1
  cases ry
  exact d_in (by have := hr.un; omega) I g rx fun s' I' => ⟨.bl _, H, I', rfl, kk _ F ρ H r .refl rfl⟩
theorem o_dnin (hr : Room k X.A) : OpR X (compareOp .NotIn) (rS ⟨X.K, cl⟩ dninW) := by
  intro pins s σ H x y v u Q I rx ry h
  obtain ⟨F, ρ, m, w1, w2, w, r, q1, q2, e, kk⟩ := h
  obtain ⟨b, e1, rfl⟩ := Option.map_eq_some_iff.mp e
  obtain ⟨a, o, rfl, g, rfl⟩ := din_go r q1 q2 e1
  cases ry
  exact d_notIn (by have := hr.un; omega) I g rx fun s' I' => ⟨.bl _, H, I', rfl, kk _ F ρ H r .refl rfl⟩
theorem c_dlen : CallR X (.builtin "len") (rC ⟨X.K, cl⟩ dlenW) := by
  intro pins s σ H xs us Q I rv h
  obtain ⟨F, ρ, m, ws, w, r, q, e, kk⟩ := h
  unfold dlenW at e
  split at e
  · obtain ⟨v, rfl, q1⟩ := q.one
    obtain ⟨u, rfl, ru⟩ := vals1 rv
    split at e
    · rename_i ks vs e1
      cases e
      obtain ⟨a, kvs, rfl, rd, kr⟩ := deref_dk r q1 e1
      cases ru
      exact d_len I rd fun t s' I' => ⟨.int kvs.length, H, I', ⟨t, rfl⟩, kk _ F ρ H r .refl (by rw [← kr.lens.1]; rfl)⟩
    · cases e
  · cases e
theorem s_dlen (ha : SR ⟨X.K, cl⟩ X Wx e fe) (hm : X.mg "len" = none) (hg : Gl X "len" := by rfl) (h1 : starEach [e] X.env = (false, eval e X.env) :: starEach [] X.env := by rfl) (hpl : (backTo pos (starEach [] X.env)).any (·.1) = false := by rfl) :
    SE ⟨X.K, cl⟩ X Wx (.Call (.Name "len" p) [e] [] pos) (eBlt dlenW (aCons fe aNil)) := s_blt c_dlen (ar_cons ha ar_nil h1) hm (by kernel_rfl) hg (by decide) (by decide) h1 hpl
/-! ### d.get -/
def eDg1 (fo fe : Fe) : Fe := fun τ => bnd (fo τ) fun w1 m1 => match w1 with
  | .dct ks vs => bnd (fe τ) (fun w2 m => match keyOf w2 with
    | some k => .ok ((dget ks vs k).getD .non) m
    | none => .bad) m1
  | _ => .bad
def eDg2 (fo fe ff : Fe) : Fe := fun τ => bnd (fo τ) fun w1 m1 => match w1 with
  | .dct ks vs => bnd (fe τ) (fun w2 => bnd (ff τ) fun w3 m => match keyOf w2 with
    | some k => .ok ((dget ks vs k).getD w3) m
    | none => .bad) m1
  | _ => .bad
theorem rb_dct {F : Hp} {ρ : List Addr} {m : Sto} {H : Hp} {ks vs : List W} {x : V} (r : R ⟨X.K, cl⟩ F ρ m H) (q : RB ⟨X.K, cl⟩ F ρ H (.dct ks vs) x) : ∃ a kvs, x = .ref a ∧ Rd H a (.dK kvs) ∧ KR ⟨X.K, cl⟩ F ρ ks vs kvs := deref_dk r q rfl
theorem s_dget1 (hr : Room k X.A) (ho : SR ⟨X.K, cl⟩ X Wx o fo) (he : SR ⟨X.K, cl⟩ X Wx e fe) (m1 : M1 X o "get" apos e cpos := by exact ⟨rfl, rfl, rfl, rfl⟩) : SE ⟨X.K, cl⟩ X Wx (.Call (.Attribute o "get" apos) [e] [] cpos) (eDg1 fo fe) := by
  refine PE.weak (pe_dget1 (by have := hr.un; omega) ho he m1) fun σ H Q ⟨F, ρ, m, τ, r, s, p⟩ => ⟨F, ρ, m, τ, r, s, ?_⟩
  unfold eDg1 bnd at p
  cases e : fo τ m with
  | bad =>
    rw [e] at p
    exact p
  | exc x m' =>
    rw [e] at p
    exact p
  | ok w1 m1 =>
    rw [e] at p
    dsimp only at p
    intro x F1 ρ1 H1 r1 g1 q1
    cases w1 with
    | dct ks vs =>
      dsimp only at p
      obtain ⟨a, kvs, rfl, rd, kr⟩ := rb_dct r1 q1
      refine ⟨a, rfl, .inl ⟨kvs, rd⟩, F1, ρ1, m1, τ, r1, s.go g1, ?_⟩
      cases e2 : fe τ m1 with
      | bad =>
        rw [e2] at p
        exact p
      | exc x m' =>
        rw [e2] at p
        exact OkX.back r1 g1 p
      | ok w2 m2 =>
        rw [e2] at p
        dsimp only at p
        intro y F2 ρ2 H2 r2 g2 q2
        cases ek : keyOf w2 with
        | none =>
          rw [ek] at p
          exact p.elim
        | some k =>
          rw [ek] at p
          obtain ⟨a', kvs', ea, rd2, kr2⟩ := rb_dct r2 (q1.go g2)
          cases ea
          have g := kr2.get k
          refine ⟨valV kvs' k, .inl ⟨kvs', k, rd2, key_rb q2 ek, rfl⟩, p _ F2 ρ2 H2 r2 (g1.trans g2) ?_⟩
          cases ed : dget ks vs k with
          | none =>
            rw [ed] at g
            rw [g]
            rfl
          | some w =>
            rw [ed] at g
            obtain ⟨v, g1, g2⟩ := g
            rw [g1]
            exact g2
    | _ => exact p.elim
theorem s_dget2 (hr : Room k X.A) (ho : SR ⟨X.K, cl⟩ X Wx o fo) (he : SR ⟨X.K, cl⟩ X Wx e fe) (hf : SE ⟨X.K, cl⟩ X Wx e2 ff) (m2 : M2 X o "get" apos e e2 cpos := by exact ⟨rfl, rfl, rfl, rfl⟩) : SE ⟨X.K, cl⟩ X Wx (.Call (.Attribute o "get" apos) [e, e2] [] cpos) (eDg2 fo fe ff) := by
  refine PE.weak (pe_dget2 (by have := hr.un; omega) ho he hf m2) fun σ H Q ⟨F, ρ, m, τ, r, s, p⟩ => ⟨F, ρ, m, τ, r, s, ?_⟩
  unfold eDg2 bnd at p
  cases e : fo τ m with
  | bad =>
    rw [e] at p
    exact p
  | exc x m' =>
    rw [e] at p
    exact p
  | ok w1 m1 =>
    rw [e] at p
    dsimp only at p
    intro x F1 ρ1 H1 r1 g1 q1
    cases w1 with
    | dct ks vs =>
      dsimp only at p
      obtain ⟨a, kvs, rfl, rd, kr⟩ := rb_dct r1 q1
      refine ⟨a, rfl, .inl ⟨kvs, rd⟩, F1, ρ1, m1, τ, r1, s.go g1, ?_⟩
      cases e2 : fe τ m1 with
      | bad =>
        rw [e2] at p
        exact p
      | exc x m' =>
        rw [e2] at p
        exact OkX.back r1 g1 p
      | ok w2 m2 =>
        rw [e2] at p
        dsimp only at p
        intro y F2 ρ2 H2 r2 g2 q2
        refine ⟨F2, ρ2, m2, τ, r2, (s.go g1).go g2, ?_⟩
        cases e3 : ff τ m2 with
        | bad =>
          rw [e3] at p
          exact p
        | exc x m' =>
          rw [e3] at p
          exact OkX.back r2 (g1.trans g2) p
        | ok w3 m3 =>
          rw [e3] at p
          dsimp only at p
          intro z F3 ρ3 H3 r3 g3 q3
          cases ek : keyOf w2 with
          | none =>
            rw [ek] at p
            exact p.elim
          | some k =>
            rw [ek] at p
            obtain ⟨a', kvs', ea, rd2, kr2⟩ := rb_dct r3 ((q1.go g2).go g3)
            cases ea
            have g := kr2.get k
            refine ⟨valV kvs' k, .inl ⟨kvs', k, rd2, key_rb (q2.go g3) ek, rfl⟩, p _ F3 ρ3 H3 r3 ((g1.trans g2).trans g3) ?_⟩
            cases ed : dget ks vs k with
            | none =>
              rw [ed] at g
              rw [g]
              exact q3
            | some w =>
              rw [ed] at g
              obtain ⟨v, g1, g2⟩ := g
              rw [g1]
              exact g2
    | _ => exact p.elim
/-! ### for k in d; for k, v in d.items() -/
def iDk (f : Fe) : Fas := fun τ => bnd (f τ) fun w m => match w with
  | .dct ks _ => .ok ks m
  | _ => .bad
def itemsL : List W → List W → List W
  | a :: ks, v :: vs => .tup [a, v] :: itemsL ks vs
  | _, _ => []
def iDi (f : Fe) : Fas := fun τ => bnd (f τ) fun w m => match w with
  | .dct ks vs => .ok (itemsL ks vs) m
  | _ => .bad
theorem KR.at {c : Cn} {F : Hp} {ρ : List Addr} : ∀ {ks vs : List W} {kvs : List (Key × V)}, KR c F ρ ks vs kvs → ∀ {i : Nat} {k : Key} {v : V}, kvs[i]? = some (k, v) → ∃ a w, ks[i]? = some a ∧ vs[i]? = some w ∧ (itemsL ks vs)[i]? = some (.tup [a, w]) ∧ keyOf a = some k ∧ RW c F ρ w v
  | [], vs, kvs, h, i, k, v, e => by
    have z : kvs = [] := List.length_eq_zero_iff.mp h.lens.1.symm
    subst z
    simp at e
  | a :: ks, [], kvs, h, _, _, _, _ => by
    have := h.lens
    simp at this
    omega
  | a :: ks, w :: vs, [], h, _, _, _, _ => by
    have := h.lens
    simp at this
  | a :: ks, w :: vs, p :: kvs, h, i, k, v, e => by
    obtain ⟨h1, h2, h3⟩ := h.cons
    cases i with
    | zero =>
      simp at e
      subst e
      exact ⟨a, w, rfl, rfl, rfl, h1, h2⟩
    | succ j =>
      obtain ⟨a', w', e1, e2, e3, e4, e5⟩ := h3.at (i := j) (by simpa using e)
      exact ⟨a', w', by simpa using e1, by simpa using e2, by simpa [itemsL] using e3, e4, e5⟩
theorem items_len : ∀ {ks vs : List W}, ks.length = vs.length → (itemsL ks vs).length = ks.length
  | [], vs, h => by
    have : vs = [] := List.length_eq_zero_iff.mp h.symm
    subst this
    rfl
  | a :: ks, [], h => by simp at h
  | a :: ks, v :: vs, h => by simp [itemsL, items_len (ks := ks) (vs := vs) (by simpa using h)]
theorem wk_keys {F : Hp} {ρ : List Addr} {d : Addr} {ob : Obj} {ks vs : List W} {kvs : List (Key × V)} (h : F d = some (.frz ob (.dK kvs))) (kr : KR ⟨X.K, cl⟩ F ρ ks vs kvs) : Wk ⟨X.K, cl⟩ (Itk d ob kvs) ks F ρ := by
  have hl := kr.lens
  refine ⟨fun i F2 ρ2 m2 H2 s p r hi => ⟨r.sub _ _ (s _ _ h), by omega⟩, fun F2 ρ2 m2 H2 s p r => ⟨r.sub _ _ (s _ _ h), by omega⟩, fun i F2 ρ2 m2 H2 x H3 s p r hi y => ?_⟩
  obtain ⟨rfl, k, v, e1, rfl⟩ := y
  obtain ⟨a, w, e2, _, _, e3, _⟩ := kr.at e1
  exact ⟨F2, a, r, .refl, e2, key_rw e3⟩
theorem wk_items {F : Hp} {ρ : List Addr} {d : Addr} {ob : Obj} {ks vs : List W} {kvs : List (Key × V)} (h : F d = some (.frz ob (.dK kvs))) (kr : KR ⟨X.K, cl⟩ F ρ ks vs kvs) : Wk ⟨X.K, cl⟩ (Iti d ob kvs) (itemsL ks vs) F ρ := by
  have hl := kr.lens
  have hn := items_len (ks := ks) (vs := vs) (by omega)
  refine ⟨fun i F2 ρ2 m2 H2 s p r hi => ⟨r.sub _ _ (s _ _ h), by omega⟩, fun F2 ρ2 m2 H2 s p r => ⟨r.sub _ _ (s _ _ h), by omega⟩, fun i F2 ρ2 m2 H2 x H3 s p r hi y => ?_⟩
  obtain ⟨T, k, v, e1, rfl, hT, rfl⟩ := y
  obtain ⟨a, w, _, _, e2, e3, e4⟩ := kr.at e1
  obtain ⟨r1, g1⟩ := r.new hT (.tup [kV k, v])
  refine ⟨_, _, r1, g1, e2, ?_⟩
  unfold RW
  exact ⟨T, _, rfl, .inl (.inl upd_same), .cons (key_rw e3) (.cons ((e4.mono s p).mono g1.ff g1.pre) .nil)⟩
theorem i_dkeys {tg : Expr} (he : SE ⟨X.K, cl⟩ X Wx e fe) : SI ⟨X.K, cl⟩ X Wx tg e (iDk fe) := by
  refine ⟨fun pins s σ H Rr I h => (pi_keys he).run pins s σ H Rr I ?_⟩
  obtain ⟨F, ρ, m, τ, r, hs, p⟩ := h
  refine ⟨F, ρ, m, τ, r, hs, ?_⟩
  unfold iDk bnd at p
  cases e : fe τ m with
  | bad =>
    rw [e] at p
    exact p
  | exc x m' =>
    rw [e] at p
    exact p
  | ok w m1 =>
    rw [e] at p
    dsimp only at p
    intro v F1 ρ1 H1 r1 g1 q1
    cases w with
    | dct ks vs =>
      unfold RW at q1
      obtain ⟨a, o, kvs, rfl, h1, h2, h3⟩ := q1
      exact ⟨a, o, rfl, .inl ⟨kvs, r1.sub _ _ h1, p _ F1 ρ1 H1 r1 g1 (wk_keys h1 ⟨h2, h3⟩)⟩⟩
    | _ => exact p.elim
theorem i_ditems {elts : List Expr} {kk : Nat} {tpos : Pos} (he : SE ⟨X.K, cl⟩ X Wx e fe) (hbase : attributeBase e "items" X.env (eval e X.env) = eval e X.env := by rfl) (hline : (apos.endLine == cpos.line) = true := by rfl) : SI ⟨X.K, cl⟩ X Wx (.Tuple elts kk tpos) (.Call (.Attribute e "items" apos) [] [] cpos) (iDi fe) := by
  refine ⟨fun pins s σ H Rr I h => (pi_items he hbase hline).run pins s σ H Rr I ?_⟩
  obtain ⟨F, ρ, m, τ, r, hs, p⟩ := h
  refine ⟨F, ρ, m, τ, r, hs, ?_⟩
  unfold iDi bnd at p
  cases e : fe τ m with
  | bad =>
    rw [e] at p
    exact p
  | exc x m' =>
    rw [e] at p
    exact p
  | ok w m1 =>
    rw [e] at p
    dsimp only at p
    intro v F1 ρ1 H1 r1 g1 q1
    cases w with
    | dct ks vs =>
      unfold RW at q1
      obtain ⟨a, o, kvs, rfl, h1, h2, h3⟩ := q1
      exact ⟨a, o, kvs, rfl, r1.sub _ _ h1, p _ F1 ρ1 H1 r1 g1 (wk_items h1 ⟨h2, h3⟩)⟩
    | _ => exact p.elim
end
end Sm

/-! S81: new dicts; dicts that a name alone holds; when they become values. -/
namespace Sm
open PySem PySem.Spec PyProof.Rows L2
/-! ### locking -/
theorem pe_lockK {X : Cx} {e : Expr} {t : TE} (h : PE X e t) : PE X e (fun σ H Q => t σ H fun v H1 => ∃ a kvs, v = .ref a ∧ H1 a = some (.dK kvs) ∧ ∀ o, Q v (upd H1 a (.frz o (.dK kvs)))) := by
  refine ⟨fun pins s σ H Q I q => thn (h.run pins s σ H _ I q) fun u s1 ⟨v, H1, I1, rv, a, kvs, ev, ha, qq⟩ => ?_⟩
  obtain ⟨od, I2⟩ := I1.lock ha trivial
  exact ⟨v, _, I2, rv, qq od⟩
def LkD (D : Ends) (σ : L2.St) (H : Hp) : Prop := D.nx σ H ∨ ∃ a kvs, H a = some (.dK kvs) ∧ ∀ o, D.nx σ (upd H a (.frz o (.dK kvs)))
theorem ps_lockK {X : Cx} {st : Stmt} {t : TS} (h : PS X st t) : PS X st (fun D σ H => t { D with nx := LkD D } σ H) := by
  refine ⟨fun pins s σ H D I q => thn (h.run pins s σ H _ I q) fun fl s1 q => ?_⟩
  cases fl with
  | next =>
    obtain ⟨σ', H', I2, q⟩ := q
    rcases q with q | ⟨a, kvs, ha, q⟩
    · exact ⟨σ', H', I2, q⟩
    · obtain ⟨od, I3⟩ := I2.lock ha trivial
      exact ⟨σ', _, I3, q od⟩
  | brk => exact q
  | cont => exact q
  | ret v => exact q
section
variable {c : Cn} {F : Hp} {ρ : List Addr} {m : Sto} {H : Hp} {a : Addr} {u z : HO}
theorem R.lock (r : R c F ρ m H) (hf : F a = none) (hn : a ∉ ρ) : R c (upd F a z) ρ m (upd H a z) := by
  have fs : Same F (upd F a z) := upd_new hf
  refine ⟨fun b o e => ?_, r.len, r.nd, fun b hb => ?_, fun j b oo h1 h2 => ?_⟩
  · by_cases hb : b = a
    · subst hb
      rw [upd_same] at e ⊢
      exact e
    · rw [upd_ne hb] at e ⊢
      exact r.sub b o e
  · rw [upd_ne (fun w => hn (by rw [← w]; exact hb))]
    exact r.off b hb
  · obtain ⟨ho, h5, h6⟩ := r.at_ j b oo h1 h2
    exact ⟨ho, by rw [upd_ne (fun w => hn (by rw [← w]; exact List.mem_of_getElem? h1))]; exact h5, h6.mono fs (.refl _)⟩
theorem Go.lock {F0 H0 : Hp} {ρ0 : List Addr} (g : Go F0 ρ0 H0 F ρ H) (hf : F a = none) (h0 : H0 a = none) : Go F0 ρ0 H0 (upd F a z) ρ (upd H a z) :=
  ⟨g.ff.trans (upd_new hf), g.pre, fun b o e n => by rw [upd_ne (fun w => by rw [w, h0] at e; cases e)]; exact g.keep b o e n, fun b o e n => ⟨(g.off b o e n).1, fun w => by rw [upd_ne (fun w => by rw [w, h0] at e; cases e)]; exact (g.off b o e n).2 w⟩⟩
theorem Fr.lockD {B : Bs} {τ : SS} {σ : L2.St} {i : Nat} {ks vs : List W} (x : Fr c B F ρ m τ σ H) (h : τ[i]? = some (.own (.dK ks vs))) : ∃ a kvs, H a = some (.dK kvs) ∧ ∀ o, Fr c B (upd F a (.frz o (.dK kvs))) ρ m (τ.set i (.val (.dct ks vs))) σ (upd H a (.frz o (.dK kvs))) := by
  obtain ⟨a, u, e1, e2, e3, e4, e5⟩ := x.s.own i _ h
  obtain ⟨kvs, rfl, k1, k2⟩ := e5
  refine ⟨a, kvs, e4, fun o => ?_⟩
  have fs : Same F (upd F a (.frz o (.dK kvs))) := upd_new e2
  have nb := x.fresh i _ a h e1
  refine ⟨x.r.lock e2 e3, ⟨by rw [List.length_set]; exact x.s.len, fun j w h1 => ?_, fun j oo h1 => ?_, fun j k o1 o2 b n h1 h2 h3 h4 => ?_⟩, x.g.lock e2 nb, fun j oo b h1 h2 => ?_, fun oo b e h1 => ?_⟩
  · rcases get_set h1 with ⟨e, e'⟩ | ⟨ne, h1⟩
    · subst e
      cases e'
      refine ⟨_, e1, ?_⟩
      unfold RW
      exact ⟨a, o, kvs, rfl, upd_same, k1, k2.mono fs (.refl _)⟩
    · obtain ⟨v, q1, q2⟩ := x.s.val j w h1
      exact ⟨v, q1, q2.mono fs (.refl _)⟩
  · rcases get_set h1 with ⟨_, e'⟩ | ⟨ne, h1⟩
    · cases e'
    · obtain ⟨b, hh, f1, f2, f3, f4, f5⟩ := x.s.own j oo h1
      have nba : b ≠ a := fun w => by
        subst w
        exact x.s.nd i j _ _ b ne h h1 e1 f1
      exact ⟨b, hh, f1, by rw [upd_ne nba]; exact f2, f3, by rw [upd_ne nba]; exact f4, f5.mono fs (.refl _)⟩
  · rcases get_set h1 with ⟨_, e'⟩ | ⟨n1, h1⟩
    · cases e'
    · rcases get_set h2 with ⟨_, e'⟩ | ⟨n2, h2⟩
      · cases e'
      · exact x.s.nd j k o1 o2 b n h1 h2 h3 h4
  · rcases get_set h1 with ⟨_, e'⟩ | ⟨n1, h1⟩
    · cases e'
    · exact x.fresh j oo b h1 h2
  · rcases get_set h1 with ⟨_, e'⟩ | ⟨n1, h1⟩
    · cases e'
    · exact x.slf oo b e h1
end
/-- behind the statement the dict of the slot i is a value -/
def sSeqD (i : Nat) (f : Fs) : Fs := fun τ m => match f τ m with
  | .ok (.nx τ') m' => (match τ'[i]? with
    | some (.own (.dK ks vs)) => .ok (.nx (τ'.set i (.val (.dct ks vs)))) m'
    | some (.own _) => .bad
    | _ => .ok (.nx τ') m')
  | r => r
theorem x_seqD {c : Cn} {X : Cx} {Wx : WX} {B : Bs} {i : Nat} {st : Stmt} {f : Fs} (h : SX c X Wx B st f) : SX c X Wx B st (sSeqD i f) := PS.weak (ps_lockK h) fun D σ H ⟨F, ρ, m, τ, fr, p⟩ => by
  refine ⟨F, ρ, m, τ, fr, ?_⟩
  unfold sSeqD at p
  cases e : f τ m with
  | bad =>
    rw [e] at p
    exact p
  | exc _ _ =>
    rw [e] at p
    exact p
  | ok o m' =>
    rw [e] at p
    cases o with
    | nx τ' =>
      dsimp only at p
      intro σ' F' ρ' H' fr'
      split at p
      · rename_i ks vs e2
        obtain ⟨a, kvs, ha, fr2⟩ := fr'.lockD e2
        exact .inr ⟨a, kvs, ha, fun o => p σ' _ ρ' _ (fr2 o)⟩
      · exact p.elim
      · exact .inl (p σ' F' ρ' H' fr')
    | rt _ => exact p
    | bk _ => exact p
    | ct _ => exact p
    | ex _ _ => exact p
/-! ### new dicts -/
abbrev Fds := SS → M (List W × List W)
section
variable (c : Cn) (Wx : WX)
def OkD (F : Hp) (ρ : List Addr) (H : Hp) (Q : VK) (kv : List W × List W) (m' : Sto) : Prop := ∀ a kvs F' ρ' H', R c F' ρ' m' H' → Go F ρ H F' ρ' H' → H a = none → F' a = none → a ∉ ρ' → H' a = some (.dK kvs) → KR c F' ρ' kv.1 kv.2 kvs → Q (.ref a) H'
def sDn (f : Fds) : TE := fun σ H Q => ∃ F ρ m τ, R c F ρ m H ∧ RS c F ρ τ σ H ∧ Post (OkD c F ρ H Q) (OkX c F ρ H fun k d H' => Wx k d σ H') (f τ m)
end
abbrev SD (c : Cn) (X : Cx) (Wx : WX) (e : Expr) (f : Fds) : Prop := PE X e (sDn c Wx f)
def eD (f : Fds) : Fe := fun τ => bnd (f τ) fun kv m => .ok (.dct kv.1 kv.2) m
section
variable {c : Cn} {X : Cx} {Wx : WX} {B : Bs} {e : Expr} {es : List Expr} {f : Fds} {pos : Pos}
theorem SD.se (h : SD c X Wx e f) : SE c X Wx e (eD f) := PE.weak (pe_lockK h) fun σ H Q ⟨F, ρ, m, τ, r, s, p⟩ => ⟨F, ρ, m, τ, r, s, by
  unfold eD bnd at p
  cases e : f τ m with
  | bad =>
    rw [e] at p
    exact p
  | exc x m' =>
    rw [e] at p
    exact p
  | ok kv m1 =>
    rw [e] at p
    intro a kvs F1 ρ1 H1 r1 g1 h0 hf hn ha q
    refine ⟨a, kvs, rfl, ha, fun o => p _ _ _ _ (r1.lock hf hn) (g1.lock hf h0) ?_⟩
    unfold RW
    exact ⟨a, o, kvs, rfl, upd_same, q.1, q.2.mono (upd_new hf) (.refl _)⟩⟩
def dNew0 : Fds := fun _ m => .ok ([], []) m
theorem d_new0 : SD c X Wx (.Dict [] [] pos) dNew0 := PE.weak pe_dnewK fun σ H Q ⟨F, ρ, m, τ, r, s, p⟩ a n => by
  obtain ⟨r2, g2⟩ := r.newH n (.dK [])
  exact p a [] F ρ _ r2 g2 n (r.fnone n) (r.notin n) upd_same .nil
def sSetD (i : Nat) (f : Fds) : Fs := fun τ m => exS (f τ m) τ fun kv m' => .ok (.nx (τ.set i (.own (.dK kv.1 kv.2)))) m'
theorem useD {F : Hp} {ρ : List Addr} {m : Sto} {τ : SS} {σ : L2.St} {H : Hp} {k : List W × List W → Sto → Res Out} {Q : VK} {D : Ends} (fr : Fr c B F ρ m τ σ H) (p : Post (okS c Wx B D) (fun _ _ => False) (exS (f τ m) τ k))
    (h : ∀ kv m' a kvs F' ρ' H', Fr c B F' ρ' m' τ σ H' → H a = none → F' a = none → a ∉ ρ' → H' a = some (.dK kvs) → KR c F' ρ' kv.1 kv.2 kvs → Post (okS c Wx B D) (fun _ _ => False) (k kv m') → Q (.ref a) H') : sDn c Wx f σ H Q := by
  refine ⟨F, ρ, m, τ, fr.r, fr.s, ?_⟩
  unfold exS at p
  cases e : f τ m with
  | bad =>
    rw [e] at p
    exact p
  | exc x m' =>
    rw [e] at p
    exact Fr.ex (D := D) fr p
  | ok w m1 =>
    rw [e] at p
    exact fun a vs F1 ρ1 H1 r1 g1 h0 hf hn ha q => h w m1 a vs F1 ρ1 H1 (fr.go r1 g1) h0 hf hn ha q p
theorem x_setD {i : Nat} {x : Str} {pos' : Pos} (hN : X.N.Nodup) (hi : X.N[i]? = some x) (hx : Loc X.env.scope x) (h : SD c X Wx e f) (i0 : i ≠ 0 := by decide) (hs : swapsWith e (some (.Name x pos')) pos.line X.env = pure false := by rfl)
    (hf : X.fn x = true ∨ X.env.scope.names.lookup x = some .local := by first | exact .inl rfl | exact .inr rfl | assumption) : SX c X Wx B (.Assign [.Name x pos'] e pos) (sSetD i f) :=
  PS.weak (ps_set hN hi hx h hs hf) fun D σ H ⟨F, ρ, m, τ, fr, p⟩ => useD fr p fun kv m' a kvs F' ρ' H' fr' h0 hf hn ha r q => q _ _ _ _ (fr.take fr' i0 h0 hf hn ha ⟨kvs, rfl, r.1, r.2⟩)
def lOwnD (f : Fds) (g : Fls) : Fls := fun τ => bnd (f τ) fun w => bnd (g τ) fun ws m => .ok (.own (.dK w.1 w.2) :: ws) m
theorem l_ownD {g : Fls} (he : SD c X Wx e f) (hs : SLs c X Wx es g) (hst : starEach (e :: es) X.env = (false, eval e X.env) :: starEach es X.env := by rfl) : SLs c X Wx (e :: es) (lOwnD f g) := PA.weak (pa_cons he hs hst) fun σ H Q h => by
  obtain ⟨F, ρ, m, τ, r, s, p⟩ := h
  refine ⟨F, ρ, m, τ, r, s, ?_⟩
  unfold lOwnD bnd at p
  cases e : f τ m with
  | bad =>
    rw [e] at p
    exact p
  | exc x m' =>
    rw [e] at p
    exact p
  | ok w m1 =>
    rw [e] at p
    dsimp only at p
    intro a kvs F1 ρ1 H1 r1 g1 h0 hf hn ha q1
    refine ⟨F1, ρ1, m1, τ, r1, s.go g1, ?_⟩
    cases e2 : g τ m1 with
    | bad =>
      rw [e2] at p
      exact p
    | exc x m' =>
      rw [e2] at p
      exact OkX.back r1 g1 p
    | ok ws m2 =>
      rw [e2] at p
      intro vs F2 ρ2 H2 r2 g2 q2
      obtain ⟨n1, n2⟩ := g2.off a _ ha hn
      refine p (.ref a :: vs) F2 ρ2 H2 r2 (g1.trans g2) ⟨a, _, vs, rfl, n2 hf, n1, h0, g2.keep a _ ha hn, ⟨kvs, rfl, q1.1, q1.2.mono g2.ff g2.pre⟩, q2.back fun a n => g1.back_none r1 n, fun j o' h1 h2 => ?_⟩
      obtain ⟨b, h3, h4⟩ := q2.own h1
      rw [h2] at h3
      cases h3
      rw [ha] at h4
      cases h4
end
/-! ### d[k] = v, d a name's own -/
def sDput (i : Nat) (fi fv : Fe) : Fs := fun τ m => exS (fv τ m) τ fun v m1 => match τ[i]? with
  | some (.own (.dK ks vs)) => exS (fi τ m1) τ fun w m2 => match keyOf w with
    | some k => if ks.length < sizeLine then .ok (.nx (τ.set i (.own (.dK (dput ks vs w k v).1 (dput ks vs w k v).2)))) m2 else .bad
    | none => .bad
  | _ => .bad
section
variable {c : Cn} {X : Cx} {Wx : WX} {B : Bs} {e i : Expr} {fi fv : Fe} {pos pos' q : Pos} {k : Nat}
theorem Fr.updD {F : Hp} {ρ : List Addr} {m : Sto} {H : Hp} {τ : SS} {σ : L2.St} {i : Nat} {a : Addr} {o o2 : MO} {u : HO} (x : Fr c B F ρ m τ σ H) (h : τ[i]? = some (.own o)) (e1 : σ[i]? = some (some (.ref a))) (q : OR c F ρ a o2 u) : Fr c B F ρ m (τ.set i (.own o2)) σ (upd H a u) := by
  obtain ⟨a', u', f1, f2, f3, f4, f5⟩ := x.s.own i _ h
  rw [e1] at f1
  cases f1
  have nb := x.fresh i _ a h e1
  refine ⟨x.r.updO f2 f3, ⟨by rw [List.length_set]; exact x.s.len, fun j w h1 => ?_, fun j oo h1 => ?_, fun j k o1 o5 b n h1 h2 h3 h4 => ?_⟩, x.g.updO nb, fun j oo b h1 h2 => ?_, fun oo b e h1 => ?_⟩
  · rcases get_set h1 with ⟨e, e'⟩ | ⟨ne, h1⟩
    · cases e'
    · exact x.s.val j w h1
  · rcases get_set h1 with ⟨e, e'⟩ | ⟨ne, h1⟩
    · subst e
      cases e'
      exact ⟨a, u, e1, f2, f3, upd_same, q⟩
    · obtain ⟨b, hh, g1, g2, g3, g4, g5⟩ := x.s.own j oo h1
      have nba : b ≠ a := fun w => by
        subst w
        exact x.s.nd i j _ _ b ne h h1 e1 g1
      exact ⟨b, hh, g1, g2, g3, by rw [upd_ne nba]; exact g4, g5⟩
  · have look : ∀ {j : Nat} {oo : MO}, (τ.set i (.own o2))[j]? = some (.own oo) → ∃ o3, τ[j]? = some (.own o3) := fun {j oo} z => by
      rcases get_set z with ⟨e, _⟩ | ⟨_, z⟩
      · exact ⟨o, by rw [← e]; exact h⟩
      · exact ⟨_, z⟩
    obtain ⟨o3, z1⟩ := look h1
    obtain ⟨o4, z2⟩ := look h2
    exact x.s.nd j k o3 o4 b n z1 z2 h3 h4
  · rcases get_set h1 with ⟨e, e'⟩ | ⟨ne, h1⟩
    · subst e
      rw [e1] at h2
      cases h2
      exact nb
    · exact x.fresh j oo b h1 h2
  · rcases get_set h1 with ⟨ee, e'⟩ | ⟨ne, h1⟩
    · subst ee
      exact x.slf o b e h
    · exact x.slf oo b e h1
theorem x_dput {j : Nat} {x : Str} (hr : Room k X.A) (hj : X.N[j]? = some x) (hi : SE c X Wx i fi) (hv : SE c X Wx e fv) (hV : Vis X.env.scope x := by first | exact Or.inl rfl | exact Or.inr (Or.inl rfl) | exact Or.inr (Or.inr rfl)) (hs : swapsWith e (some (.Subscript (.Name x q) i pos')) pos.line X.env = pure false := by rfl)
    (hd : (x == ("__debug__" : Str)) = false := by decide) (hcd : (x == ("__classdict__" : Str)) = false := by decide) : SX c X Wx B (.Assign [.Subscript (.Name x q) i pos'] e pos) (sDput j fi fv) :=
  PS.weak (ps_dput (by have := hr.un; omega) (pe_var hj hV hd hcd) hi hv hs) fun D σ H ⟨F, ρ, m, τ, fr, p⟩ => by
    refine ⟨F, ρ, m, τ, fr.r, fr.s, ?_⟩
    unfold sDput exS at p
    cases e : fv τ m with
    | bad =>
      rw [e] at p
      exact p
    | exc x m' =>
      rw [e] at p
      exact Fr.ex (D := D) fr p
    | ok v m1 =>
      rw [e] at p
      dsimp only at p
      intro y F1 ρ1 H1 r1 g1 q1
      have fr1 := fr.go r1 g1
      split at p
      · rename_i ks vs e1
        obtain ⟨a, u, f1, f2, f3, f4, f5⟩ := fr1.s.own j _ e1
        refine ⟨.ref a, f1, F1, ρ1, m1, τ, r1, fr1.s, ?_⟩
        cases e2 : fi τ m1 with
        | bad =>
          rw [e2] at p
          exact p
        | exc x m' =>
          rw [e2] at p
          exact Fr.ex (D := D) fr1 p
        | ok w m2 =>
          rw [e2] at p
          dsimp only at p
          intro z F2 ρ2 H2 r2 g2 q2
          have fr2 := fr1.go r2 g2
          split at p
          · rename_i k ek
            split at p
            · rename_i hl
              obtain ⟨a', u', h1, h2, h3, h4, h5⟩ := fr2.s.own j _ e1
              rw [f1] at h1
              cases h1
              obtain ⟨kvs, rfl, k1, k2⟩ := h5
              have kr : KR c F2 ρ2 ks vs kvs := ⟨k1, k2⟩
              have kp := kr.put ek (q1.mono g2.ff g2.pre)
              exact ⟨a, _, rfl, .inl ⟨kvs, k, h4, key_rb (H := H2) (.inl q2) ek, by rw [← kr.lens.1]; exact hl, rfl⟩, p _ _ _ _ (fr2.updD e1 f1 ⟨_, rfl, kp.1, kp.2⟩)⟩
            · exact p.elim
          · exact p.elim
      · exact p.elim
end
end Sm

/-! S82: dict(list of pairs), {k: v for ..}. -/
namespace Sm
open PySem PySem.Spec PyProof.Rows L2
def pairsOf : List W → Option (List (W × W))
  | [] => some []
  | .tup [a, v] :: r => if (keyOf a).isSome = true then (pairsOf r).map ((a, v) :: ·) else none
  | _ => none
def dputP (acc : List W × List W) (p : W × W) : List W × List W := match keyOf p.1 with
  | some k => dput acc.1 acc.2 p.1 k p.2
  | none => acc
def dDict (f : Fe) : Fds := fun τ => bnd (f τ) fun w m => match w with
  | .lst xs => (match pairsOf xs with
    | some ps => .ok (ps.foldl dputP ([], [])) m
    | none => .bad)
  | _ => .bad
section
variable {c : Cn} {F : Hp} {ρ : List Addr}
theorem pairs_rel : ∀ {xs : List W} {vs : List V} {ps : List (W × W)}, RWs c F ρ xs vs → pairsOf xs = some ps → ∃ (as : List Addr) (kvs : List (Key × V)), vs = as.map V.ref ∧ Paired (fun p kv => SqT c.K F p [kV kv.1, kv.2]) as kvs ∧ Paired (fun (pr : W × W) (kv : Key × V) => keyOf pr.1 = some kv.1 ∧ RW c F ρ pr.2 kv.2) ps kvs
  | [], vs, ps, h, e => by
    have z : vs = [] := h
    subst z
    cases e
    exact ⟨[], [], rfl, .nil, .nil⟩
  | x :: xs, vs, ps, h, e => by
    obtain ⟨v, r, rfl, h1, h2⟩ := h.inv
    unfold pairsOf at e
    split at e
    · rename_i heq
      cases heq
    · rename_i a w r' heq
      cases heq
      split at e
      · rename_i hk
        obtain ⟨k, ek⟩ := Option.isSome_iff_exists.mp hk
        obtain ⟨ps', e1, rfl⟩ := Option.map_eq_some_iff.mp e
        obtain ⟨as, kvs, rfl, p1, p2⟩ := pairs_rel h2 e1
        unfold RW at h1
        obtain ⟨T, us, rfl, q1, q2⟩ := h1
        obtain ⟨u1, t1, rfl, q3, q4⟩ := q2.inv
        obtain ⟨u2, t2, rfl, q5, q6⟩ := q4.inv
        have z : t2 = [] := q6
        subst z
        have z2 : u1 = kV k := key_rb (H := fun _ => none) (.inl q3) ek
        subst z2
        exact ⟨T :: as, (k, u2) :: kvs, rfl, .cons q1 p1, .cons ⟨ek, q5⟩ p2⟩
      · cases e
    · cases e
theorem KR.merge {ps : List (W × W)} {kvs : List (Key × V)} (h : Paired (fun (pr : W × W) (kv : Key × V) => keyOf pr.1 = some kv.1 ∧ RW c F ρ pr.2 kv.2) ps kvs) : ∀ {acc : List W × List W} {akv : List (Key × V)}, KR c F ρ acc.1 acc.2 akv → KR c F ρ (ps.foldl dputP acc).1 (ps.foldl dputP acc).2 (kvs.foldl (fun acc kv => putK acc kv.1 kv.2) akv) := by
  induction h with
  | nil => exact fun {acc akv} q => q
  | @cons p kv ps kvs r t ih =>
    intro acc akv q
    rw [List.foldl_cons, List.foldl_cons]
    refine ih ?_
    unfold dputP
    rw [r.1]
    exact q.put r.1 r.2
end
section
variable {cl : Str → Addr} {X : Cx} {Wx : WX} {e : Expr} {f : Fe} {p pos : Pos} {k : Nat}
theorem d_dict (hX : Ctx X Wx k) (he : SE ⟨X.K, cl⟩ X Wx e f) (hm : X.mg "dict" = none) (hg : Gl X "dict" := by rfl) (h1 : starEach [e] X.env = (false, eval e X.env) :: starEach [] X.env := by rfl) (hpl : (backTo pos (starEach [] X.env)).any (·.1) = false := by rfl) : SD ⟨X.K, cl⟩ X Wx (.Call (.Name "dict" p) [e] [] pos) (dDict f) := by
  refine PE.weak (pe_callTy (call_dictP hX.calm) hg hm (by kernel_rfl) (a_cons he a_nil h1) (by decide) (by decide) h1 hpl) fun σ H Q ⟨F, ρ, m, τ, r, s, p⟩ => ?_
  refine ⟨F, ρ, m, τ, r, s, ?_⟩
  unfold dDict bnd at p
  unfold aCons bnd
  cases e : f τ m with
  | bad =>
    rw [e] at p
    exact p
  | exc x m' =>
    rw [e] at p
    exact p
  | ok w m1 =>
    rw [e] at p
    dsimp only at p
    show OkA _ F ρ H _ [w] m1
    intro vs F1 ρ1 H1 r1 g1 q1
    cases w with
    | lst xs =>
      dsimp only at p
      split at p
      · rename_i ps ep
        obtain ⟨v, rr, rfl, q2, q3⟩ := q1.inv
        have z : rr = [] := q3
        subst z
        unfold RW at q2
        obtain ⟨a, us, rfl, h1, h2⟩ := q2
        obtain ⟨as, kvs, rfl, p1, p2⟩ := pairs_rel h2 ep
        refine ⟨a, as, kvs, rfl, .inl (rd_mono r1.sub h1), L2.Paired.mapP p1 fun _ _ q => sqT_mono r1.sub q, fun b n => ?_⟩
        obtain ⟨r2, g2⟩ := r1.newH n (.dK (mergeK [] kvs))
        exact p b _ F1 ρ1 _ r2 (g1.trans g2) (g1.back_none r1 n) (r1.fnone n) (r1.notin n) upd_same (KR.merge p2 (acc := ([], [])) (akv := []) .nil)
      · exact p.elim
    | _ => exact p.elim
end
/-! ### comprehensions -/
def dcM (bd : Bd) (ft : Ft) (fk fv : Fe) (τ : SS) : List W → List W × List W → M (List W × List W)
  | [], acc => fun m => .ok acc m
  | x :: r, acc => match bd x τ with
    | none => bad
    | some τ1 => bnd (ft τ1) fun b => if b = true then bnd (fk τ1) fun w => bnd (fv τ1) fun v => (match keyOf w with
      | some k => if acc.1.length < sizeLine then dcM bd ft fk fv τ r (dput acc.1 acc.2 w k v) else bad
      | none => bad) else dcM bd ft fk fv τ r acc
def nDc (fi : Fas) (vs : List Nat) (bd : Bd) (ft : Ft) (fk fv : Fe) : Fds := fun τ => bnd (fi τ) fun xs m => match dcM bd ft fk fv (wipeS τ vs) xs ([], []) m with
  | .ok ws m' => .ok ws m'
  | _ => .bad
theorem dcM_cons {bd : Bd} {ft : Ft} {fk fv : Fe} {τ : SS} {x : W} {r : List W} {m m' : Sto} {acc ws : List W × List W} (h : dcM bd ft fk fv τ (x :: r) acc m = .ok ws m') : ∃ τ1 b m1, bd x τ = some τ1 ∧ ft τ1 m = .ok b m1 ∧
    ((b = true ∧ ∃ w m2 v m3 k, fk τ1 m1 = .ok w m2 ∧ fv τ1 m2 = .ok v m3 ∧ keyOf w = some k ∧ acc.1.length < sizeLine ∧ dcM bd ft fk fv τ r (dput acc.1 acc.2 w k v) m3 = .ok ws m') ∨ (b = false ∧ dcM bd ft fk fv τ r acc m1 = .ok ws m')) := by
  unfold dcM at h
  cases e1 : bd x τ with
  | none =>
    rw [e1] at h
    cases h
  | some τ1 =>
    rw [e1] at h
    dsimp only at h
    unfold bnd at h
    cases e2 : ft τ1 m with
    | bad =>
      rw [e2] at h
      cases h
    | exc _ _ =>
      rw [e2] at h
      cases h
    | ok b m1 =>
      rw [e2] at h
      dsimp only at h
      refine ⟨τ1, b, m1, rfl, e2, ?_⟩
      cases b with
      | false => exact .inr ⟨rfl, h⟩
      | true =>
        rw [if_pos rfl] at h
        cases e3 : fk τ1 m1 with
        | bad =>
          rw [e3] at h
          cases h
        | exc _ _ =>
          rw [e3] at h
          cases h
        | ok w m2 =>
          rw [e3] at h
          dsimp only at h
          cases e4 : fv τ1 m2 with
          | bad =>
            rw [e4] at h
            cases h
          | exc _ _ =>
            rw [e4] at h
            cases h
          | ok v m3 =>
            rw [e4] at h
            dsimp only at h
            cases e5 : keyOf w with
            | none =>
              rw [e5] at h
              cases h
            | some k =>
              rw [e5] at h
              dsimp only at h
              by_cases hl : acc.1.length < sizeLine
              · rw [if_pos hl] at h
                exact .inl ⟨rfl, w, m2, v, m3, k, rfl, e4, e5, hl, h⟩
              · rw [if_neg hl] at h
                cases h
section
variable {c : Cn} {X : Cx} {Wx : WX}
theorem w_dc {fi : Fas} {is vs : List Nat} {bd : Bd} {ft : Ft} {fk fv : Fe} {σ : L2.St} {H : Hp} {Q : VK} (hss : ∀ i ∈ is, i ∈ vs) (h : sDn c Wx (nDc fi vs bd ft fk fv) σ H Q) : tDc (sI c Wx fi) (sG c is bd) (sT c W0 ft) (sE c W0 fk) (sE c W0 fv) vs σ H Q := by
  obtain ⟨F, ρ, m, τ, r, s, p⟩ := h
  refine ⟨F, ρ, m, τ, r, s, ?_⟩
  unfold nDc bnd at p
  cases e0 : fi τ m with
  | bad =>
    rw [e0] at p
    exact p
  | exc x m' =>
    rw [e0] at p
    exact p
  | ok xs m0 =>
    rw [e0] at p
    dsimp only at p
    intro J F0 ρ0 H0 r0 g0 wk D hD
    cases e1 : dcM bd ft fk fv (wipeS τ vs) xs ([], []) m0 with
    | bad =>
      rw [e1] at p
      exact p.elim
    | exc _ _ =>
      rw [e1] at p
      exact p.elim
    | ok ws mE =>
      rw [e1] at p
      dsimp only at p
      have hD0 : H D = none := g0.back_none r0 hD
      obtain ⟨rn, gn⟩ := r0.newH hD (.dK [])
      refine ⟨fun i n H' => n = xs.length - i ∧ i ≤ xs.length ∧ ∃ F1 ρ1 m1 acc kvs, R c F1 ρ1 m1 H' ∧ Go F ρ H F1 ρ1 H' ∧ Same F0 F1 ∧ Pre ρ0 ρ1 ∧ F1 D = none ∧ D ∉ ρ1 ∧ H' D = some (.dK kvs) ∧ KR c F1 ρ1 acc.1 acc.2 kvs ∧ dcM bd ft fk fv (wipeS τ vs) (xs.drop i) acc m1 = .ok ws mE,
        ⟨xs.length, by simp, Nat.zero_le _, F0, ρ0, m0, ([], []), [], rn, g0.trans gn, Same.refl _, .refl _, r0.fnone hD, r0.notin hD, upd_same, .nil, by simpa using e1⟩, ?_⟩
      rintro i n H1 ⟨rfl, hi, F1, ρ1, m1, acc, kvs, r1, g1, s1, p1, hf1, hn1, hd1, q1, el⟩
      by_cases hlt : i < xs.length
      · refine .inr ⟨wk.go i F1 ρ1 m1 H1 s1 p1 r1 hlt, fun H' => ∃ F1 ρ1 m1 acc kvs, R c F1 ρ1 m1 H' ∧ Go F ρ H F1 ρ1 H' ∧ Same F0 F1 ∧ Pre ρ0 ρ1 ∧ F1 D = none ∧ D ∉ ρ1 ∧ H' D = some (.dK kvs) ∧ KR c F1 ρ1 acc.1 acc.2 kvs ∧ dcM bd ft fk fv (wipeS τ vs) (xs.drop (i + 1)) acc m1 = .ok ws mE,
          fun H' h => ⟨xs.length - (i + 1), by omega, rfl, hlt, h⟩, fun v H2 y => ?_⟩
        obtain ⟨F2, w, r2, g2, ew2, rw2⟩ := wk.yld i F1 ρ1 m1 H1 v H2 s1 p1 r1 hlt y
        have ew' : xs[i] = w := by
          rw [List.getElem?_eq_getElem hlt] at ew2
          exact Option.some.inj ew2
        rw [drop_cons hlt, ew'] at el
        obtain ⟨τ1, b, m2, eb, et, hcase⟩ := dcM_cons el
        have g02 := g1.trans g2
        have hd2 : H2 D = some (.dK kvs) := g2.keep D _ hd1 hn1
        have hf2 : F2 D = none := (g2.off D _ hd1 hn1).2 hf1
        refine ⟨F2, ρ1, m1, wipeS τ vs, w, τ1, r2, (s.go g02).wipe vs, rw2, eb, fun σ2 s2 k2 => ⟨wipe_sta hss k2, F2, ρ1, m1, τ1, r2, s2, ?_⟩⟩
        rw [et]
        intro F3 ρ3 H3 r3 g3
        have hd3 : H3 D = some (.dK kvs) := g3.keep D _ hd2 hn1
        have hn3 : D ∉ ρ3 := (g3.off D _ hd2 hn1).1
        have hf3 : F3 D = none := (g3.off D _ hd2 hn1).2 hf2
        rcases hcase with ⟨rfl, w2, m3, v2, m4, k, ek, ev, eo, hl, er⟩ | ⟨rfl, er⟩
        · rw [if_pos rfl]
          refine ⟨F3, ρ3, m2, τ1, r3, s2.go g3, ?_⟩
          rw [ek]
          intro y2 F4 ρ4 H4 r4 g4 q4
          have hd4 : H4 D = some (.dK kvs) := g4.keep D _ hd3 hn3
          have hn4 : D ∉ ρ4 := (g4.off D _ hd3 hn3).1
          have hf4 : F4 D = none := (g4.off D _ hd3 hn3).2 hf3
          refine ⟨F4, ρ4, m3, τ1, r4, (s2.go g3).go g4, ?_⟩
          rw [ev]
          intro z2 F5 ρ5 H5 r5 g5 q5
          have hd5 : H5 D = some (.dK kvs) := g5.keep D _ hd4 hn4
          have hn5 : D ∉ ρ5 := (g5.off D _ hd4 hn4).1
          have hf5 : F5 D = none := (g5.off D _ hd4 hn4).2 hf4
          have gA := g2.trans (g3.trans (g4.trans g5))
          have kr := q1.mono gA.ff gA.pre
          exact ⟨kvs, k, key_rb (H := H4) (.inl q4) eo, hd5, by rw [← q1.lens.1]; exact hl, F5, ρ5, m4, _, _, r5.updO hf5 hn5, (g1.trans gA).updO hD0, s1.trans gA.ff, p1.trans gA.pre, hf5, hn5, upd_same, kr.put eo q5, er⟩
        · rw [if_neg Bool.false_ne_true]
          have gA := g2.trans g3
          exact ⟨F3, ρ3, m2, acc, kvs, r3, g1.trans gA, s1.trans gA.ff, p1.trans gA.pre, hf3, hn3, hd3, q1.mono gA.ff gA.pre, er⟩
      · have e : i = xs.length := by omega
        subst e
        refine .inl ⟨wk.stop F1 ρ1 m1 H1 s1 p1 r1, ?_⟩
        rw [List.drop_length] at el
        cases el
        exact p D kvs F1 ρ1 H1 r1 g1 hD0 hf1 hn1 hd1 q1
theorem d_dc {k : Nat} {kx vx tg iter : Expr} {ifs : List Expr} {scope : Scope} {own : List (Str × Nat)} {pos : Pos} {fi : Fas} {is : List Nat} {bd : Bd} {ft : Ft} {fk fv : Fe} (x : Ctx X Wx k) (hi : SI c X Wx tg iter fi) (ok : BlkOk X.N X.env.scope scope own) (hss : ∀ i ∈ is, i ∈ own.map (·.2))
    (hg : ∀ (s : Shared) (H : Hp) (C : Addr) (cl : List (Str × Addr)) (fp : List Addr), SG c (X.blk s H scope (compEnvC scope cl C X.env) fp) tg is bd) (ht : ∀ (s : Shared) (H : Hp) (C : Addr) (cl : List (Str × Addr)) (fp : List Addr), PTs (X.blk s H scope (compEnvC scope cl C X.env) fp) ifs (sT c W0 ft))
    (hk : ∀ (s : Shared) (H : Hp) (C : Addr) (cl : List (Str × Addr)) (fp : List Addr), SE c (X.blk s H scope (compEnvC scope cl C X.env) fp) W0 kx fk)
    (he : ∀ (s : Shared) (H : Hp) (C : Addr) (cl : List (Str × Addr)) (fp : List Addr), SE c (X.blk s H scope (compEnvC scope cl C X.env) fp) W0 vx fv) (hs : ∀ x, foldedSetIterable iter X.env x = pure x := by intro _; rfl) :
    SD c X Wx (.DictComp kx vx [⟨tg, iter, ifs, 0⟩] scope pos) (nDc fi (own.map (·.2)) bd ft fk fv) := PE.weak (pe_dc x.calm x.nd hi ok hg ht hk he hs) fun _ _ _ h => w_dc hss h
end
end Sm

namespace Sm
open PySem PySem.Spec PyProof.Rows L2
/-! ### a comprehension within a comprehension -/
theorem lookup_relab {env : Env} : ∀ {names : List (Str × NameKind)} {x : Str}, names.lookup x = some .cell ∨ names.lookup x = some .free →
    (names.map fun (n, k) => if (k == NameKind.free && env.scope.kind == .function && env.kindOf n == some .cell) then (n, NameKind.cell) else (n, k)).lookup x = some .cell ∨
    (names.map fun (n, k) => if (k == NameKind.free && env.scope.kind == .function && env.kindOf n == some .cell) then (n, NameKind.cell) else (n, k)).lookup x = some .free
  | [], _, h => by simp at h
  | (n, k) :: l, x, h => by
    by_cases e : x == n
    · have e1 : ∀ {k' : NameKind} {l' : List (Str × NameKind)}, List.lookup x ((n, k') :: l') = some k' := fun {k' l'} => by
        unfold List.lookup; rw [e]
      rw [e1] at h
      rw [List.map_cons]
      dsimp only
      split
      · rw [e1]; exact .inl rfl
      · rw [e1]; exact h
    · have e0 : (x == n) = false := by simpa using e
      have e1 : ∀ {k' : NameKind} {l' : List (Str × NameKind)}, List.lookup x ((n, k') :: l') = List.lookup x l' := fun {k' l'} => by
        rw [List.lookup]; rw [e0]
      rw [e1] at h
      rw [List.map_cons]
      dsimp only
      have ih := lookup_relab (env := env) h
      split
      · rw [e1]; exact ih
      · rw [e1]; exact ih
theorem blkOk_in {N : List Str} {sc scope : Scope} {env : Env} {cs : List (Str × Addr)} {C : Addr} {own : List (Str × Nat)} (h : blkC N sc scope own = true) : BlkOk N (compEnvC sc cs C env).scope scope own := by
  have b := blkOk_by h
  exact ⟨b.kind, b.uniq, b.ix, fun y hy e => lookup_relab (b.free y hy e), b.own⟩
section
variable {c : Cn} {X : Cx} {Wx : WX} {pos : Pos}
theorem n_lcB {elt tg iter : Expr} {ifs : List Expr} {scope : Scope} {own : List (Str × Nat)} {fi : Fas} {is : List Nat} {bd : Bd} {ft : Ft} {fe : Fe} (hc : X.calm = true) (hn : X.N.Nodup) (hi : SI c X Wx tg iter fi) (ok : BlkOk X.N X.env.scope scope own) (hss : ∀ i ∈ is, i ∈ own.map (·.2))
    (hg : ∀ (s : Shared) (H : Hp) (C : Addr) (cl : List (Str × Addr)) (fp : List Addr), SG c (X.blk s H scope (compEnvC scope cl C X.env) fp) tg is bd) (ht : ∀ (s : Shared) (H : Hp) (C : Addr) (cl : List (Str × Addr)) (fp : List Addr), PTs (X.blk s H scope (compEnvC scope cl C X.env) fp) ifs (sT c W0 ft))
    (he : ∀ (s : Shared) (H : Hp) (C : Addr) (cl : List (Str × Addr)) (fp : List Addr), SE c (X.blk s H scope (compEnvC scope cl C X.env) fp) W0 elt fe) (hs : ∀ x, foldedSetIterable iter X.env x = pure x := by intro _; rfl) :
    SN c X Wx (.ListComp elt [⟨tg, iter, ifs, 0⟩] scope pos) (nLc fi (own.map (·.2)) bd ft fe) := PE.weak (pe_lc hc hn hi ok hg ht he hs) fun _ _ _ h => w_lc hss h
end
end Sm

/-! S84: an own exception called with keywords. -/
namespace Sm
open PySem PySem.Spec PySem.HandSPX PySem.Builtin PySem.Builtin.ObjectAttr
section
variable {M : Model} {P : Program} {w : World} {A : Around} {E : Value → Shared → Prop} {R : Result → Shared → Prop} {hh : Heap} {gg : Array GenState} {dr : Drawn} {tk : Nat} {os : OsState}
variable {nm ql : Str} {C N : Addr} {bs bm bmB : List Value} {hd : Bool} {sn : List Str} {sub : List Value} {ab : Bool} {col : Option Bool} {dd : Option Addr} {k0 k1 k2 k3 k5 : Option Value} {Bn newId initId : String} {us : List Value} {kw : List (Str × Value)}
theorem xk_check (F : ExcBaseFacts Bn newId initId bmB) (hT : ∀ X : String, bm.contains (.type X) = bmB.contains (.type X)) {Q : Unit → Shared → Prop} (oC : hh.get? C = some (excClassObj nm ql C N bs bm hd sn sub ab col dd k0 k1 k2 k3 k5 newId)) (q : Q () ⟨hh, gg, dr, tk, os⟩) :
    wpAny M A (checkBuiltinCall newId ⟨.ref C :: us, kw⟩) Q E ⟨hh, gg, dr, tk, os⟩ := by
  have z1 : (Value.ref C :: bm).contains (.type Bn) = true := by rw [List.contains_cons, hT, F.hasB, Bool.or_true]
  have z2 := F.noStar
  simp only [F.newKind, F.newRow, F.newSplit, checkBuiltinCall]
  repeat (first | refine wpAny_loadPart_at oC ?_ | (refine wpAny_isSubtype_exc oC ?_; rw [z1]) | refine wpAny_staticBase_exc oC ?_ | refine wpAny_madeBy_exc oC ?_ | simp only [bne_self_eq_false, if_false, Bool.false_eq_true] | wp_step)
  exact q
theorem xk_new (F : ExcBaseFacts Bn newId initId bmB) (hT : ∀ X : String, bm.contains (.type X) = bmB.contains (.type X)) (oC : hh.get? C = some (excClassObj nm ql C N bs bm hd sn sub ab col dd k0 k1 k2 k3 k5 newId))
    (q : R (.ok (.ret (.ref (hh.objs.size + 1)))) ⟨(hh.push (PySem.W.kdv_tup us)).push (excO C hh.objs.size), gg, dr, tk, os⟩) (hz : us.length ≤ sizeLine) : codeAny (model P w) A (.builtin newId ⟨.ref C :: us, kw⟩) R ⟨hh, gg, dr, tk, os⟩ := by
  have z0 := F.ends
  have z1 : (Value.ref C :: bm).contains (.type Bn) = true := by rw [List.contains_cons, hT, F.hasB, Bool.or_true]
  have z2 : (Value.ref C :: bm).contains (.type "AttributeError") = false := by rw [List.contains_cons, hT, F.noAttr]; simp
  have z3 : (Value.ref C :: bm).contains (.type "NameError") = false := by rw [List.contains_cons, hT, F.noName]; simp
  refine codeAny_builtinAt F.entry ?_
  unfold Builtin.«BaseException.__new__»
  refine wpAt_bind ?_
  show wpAt _ _ _ (stack >>= _) _ _ _
  refine wpAt_bind (wpAt_stack fun _ _ => wpAt_of_wpAny ?_)
  wp_walk
  refine wpAt_of_wpAny ?_
  rw [F.owner]
  repeat (first | with_reducible refine wpAny_madeHere_exc F.canon oC ?_ | with_reducible refine wpAny_loadPart_at oC ?_ | (with_reducible refine wpAny_isSubtype_exc oC ?_; first | rw [z1] | rw [z2] | rw [z3]) | wp_step)
  show R _ _
  rw [Heap.size_push]
  exact q
theorem xk_tc (F : ExcBaseFacts Bn newId initId bmB) (hT : ∀ X : String, bm.contains (.type X) = bmB.contains (.type X)) {fI : Addr} {Q : Fin → Shared → Prop} (oC : hh.get? C = some (excClassObj nm ql C N bs bm hd sn sub ab col dd k0 k1 k2 k3 k5 newId))
    (hi : PySem.W.Looks (model P w) hh (typeLookup (.ref C) "__init__") (some (.ref fI))) (hb : ∀ self, PySem.W.Looks (model P w) hh (bindSpecial (.ref fI) self) (.ref fI, [self])) (hz : us.length ≤ sizeLine)
    (q : codeAny (model P w) A (.call (.ref fI) ⟨.ref (hh.objs.size + 1) :: us, kw⟩) (fun r s' => match r with | .ok (.ret v) => v = .none ∧ Q (.done (.ret (.ref (hh.objs.size + 1)))) s' | .ok _ => False | .error e => E e s')
      ⟨(hh.push (PySem.W.kdv_tup us)).push (excO C hh.objs.size), gg, dr, tk, os⟩) : wpAny (model P w) A (Builtin.«type.__call__» ⟨.ref C :: us, kw⟩) Q E ⟨hh, gg, dr, tk, os⟩ := by
  repeat (first | with_reducible refine wpAny_madeBy_exc oC ?_ | with_reducible refine wpAny_loadPart_at oC ?_ | wp_step)
  refine codeAny_call_builtin_code (Code.quiet_builtin _ F.quiet) (xk_check F hT oC ?_)
  refine xk_new F hT oC ?_ hz
  show wpAny _ _ _ _ _ _
  have kp : ∀ b o, hh.get? b = some o → ((hh.push (PySem.W.kdv_tup us)).push (excO C hh.objs.size)).get? b = some o := fun _ _ e => Heap.get?_push_of_some _ (Heap.get?_push_of_some _ e)
  have oC2 := kp _ _ oC
  have oe : ((hh.push (PySem.W.kdv_tup us)).push (excO C hh.objs.size)).get? (hh.objs.size + 1) = some (excO C hh.objs.size) := by heap_get
  have z1 : (Value.ref C :: bm).contains (.ref C) = true := by simp
  have j1 := hi.keeps kp
  have j2 := (hb (.ref (hh.objs.size + 1))).keeps kp
  unfold isInstance
  repeat (first | with_reducible refine wpAny_loadPart_at oe ?_ | (with_reducible refine wpAny_isSubtype_exc oC2 ?_; rw [z1]) | wp_step)
  show wpAny _ _ (typeLookup (.ref C) _) _ _ _
  refine j1.at ?_
  refine wpAny_holding (wpAny_bind (j2.at ?_))
  refine wpAny_bind (wpAny_call (codeAny_mono q fun r s' z => ?_))
  rcases r with e | (v | _ | _ | _) <;> first | exact z | exact z.elim | skip
  obtain ⟨rfl, z⟩ := z
  first
    | exact wpAny_pure (wpAny_pure z)
    | (wp_walk; exact z)
theorem xk_chk {Q : Unit → Shared → Prop} (oC : hh.get? C = some (excClassObj nm ql C N bs bm hd sn sub ab col dd k0 k1 k2 k3 k5 newId)) (q : Q () ⟨hh, gg, dr, tk, os⟩) : wpAny M A (checkBuiltinCall "type.__call__" ⟨.ref C :: us, kw⟩) Q E ⟨hh, gg, dr, tk, os⟩ := by
  have z1 := tc_sub
  have z2 : (⟨hh, gg, dr, tk, os⟩ : Shared).TypeIs (.ref C) "type" := ⟨_, oC, rfl⟩
  simp only [tc_kind, tc_split, checkBuiltinCall]
  repeat (any_goals (first | assumption | with_reducible refine wpAny_onRaise ?_ | with_reducible refine wpAny_loadPart_at oC ?_ | with_reducible refine wpAny_map ?_ | wp_step))
theorem xk_call (F : ExcBaseFacts Bn newId initId bmB) (hT : ∀ X : String, bm.contains (.type X) = bmB.contains (.type X)) {fI : Addr} (oC : hh.get? C = some (excClassObj nm ql C N bs bm hd sn sub ab col dd k0 k1 k2 k3 k5 newId))
    (hi : PySem.W.Looks (model P w) hh (typeLookup (.ref C) "__init__") (some (.ref fI))) (hb : ∀ self, PySem.W.Looks (model P w) hh (bindSpecial (.ref fI) self) (.ref fI, [self])) (hz : us.length ≤ sizeLine)
    (q : codeAny (model P w) (A.under (.builtin "type.__call__" ⟨.ref C :: us, kw⟩)) (.call (.ref fI) ⟨.ref (hh.objs.size + 1) :: us, kw⟩) (PySem.W.InitBack (hh.objs.size + 1) R) ⟨(hh.push (PySem.W.kdv_tup us)).push (excO C hh.objs.size), gg, dr, tk, os⟩) :
    codeAny (model P w) A (.call (.ref C) ⟨us, kw⟩) R ⟨hh, gg, dr, tk, os⟩ := by
  have z1 := tc_lookup
  have z2 := tc_bind (.ref C)
  have z3 : (⟨hh, gg, dr, tk, os⟩ : Shared).TypeIs (.ref C) "type" := ⟨_, oC, rfl⟩
  refine codeAny_of_tree ?_
  show wpAny _ _ (callAny (.ref C) _) _ _ _
  repeat (any_goals (first | assumption | with_reducible refine wpAny_loadPart_at oC ?_ | wp_step))
  refine ⟨rfl, ?_⟩
  refine codeAny_call_builtin_at (Code.quiet_builtin _ (by decide +kernel)) entry_typeCall (xk_chk oC (xk_tc F hT oC hi hb hz ?_))
  refine codeAny_mono q fun r _ z => ?_
  rcases r with _ | (_ | _ | _ | _) <;> exact z
end
end Sm

/-! S85: an exception as a value: X(..), also with keywords. -/
namespace Sm
open PySem PySem.Spec PyProof.Rows L2
def eMkX (C : Str) (fs : List Str) (nk : Nat) (ix : List Nat) (g : Fas) : Fe := fun τ => bnd (g τ) fun ws m => if ws.length = nk ∧ (pk ix ws).length = fs.length then .ok (.exc C fs.reverse (pk ix ws).reverse) m else .bad
section
variable {X : Cx} {Wx : WX} {cl : Str → Addr} {k n : Nat} {C : Str} {fs ks : List Str} {ix : List Nat} {es : List Expr} {kws : List Keyword} {g : Fas} {p pos : Pos} {Bn newId initId : String} {tail : List Value}
theorem run_mkX {Ca fI : Addr} {fd : FuncData} {ps : List Str} {pins : List (Addr × Obj)} {σ : L2.St} {H1 : Hp} {s1 : Shared} {Q : VK} {us : List Value} {vs : List V} (T : XCl X.K Ca Bn newId initId tail) (iC : PySem.W.findIn X.K (.ref Ca) "__init__" = some (some (.ref fI))) (tI : PySem.W.typeIn X.K (.ref fI) = some (.type "function"))
    (F1 : FnOk X.prog X.w X.K X.mg X.base (CX X.prog X.w) k fI fd ps (spX Ca fs)) (hr : Room (k + 1) X.A) (kb : KB X.K fd ps (n + 1) ks (0 :: ix.map (· + 1)) []) (hx : Passes (CX X.prog X.w) X (fun _ _ _ => False)) (I1 : Inv X pins σ H1 s1) (r1 : Vals vs us) (hl : vs.length = n + ks.length) (hn : n ≤ 1000) (hix : (pk ix vs).length = fs.length)
    (h : ∀ (a d : Addr) (H' : Hp), H1 a = none → H1 d = none → d ≠ a → (∀ b o, H1 b = some o → H' b = some o) → H' a = some (xoH a Ca d) → H' d = some (.xd (fs.zip (pk ix vs)).reverse) → Q (.ref a) H') :
    wpAny (model X.prog X.w) X.A (call (.ref Ca) (us.take n) (ks.zip (us.drop n))) (EP X pins σ Q) X.xe s1 := by
  obtain ⟨nm, N, q, bs, bm, hdct, sn, sub, ab, col, dd, k0, k1, k2, k3, k5, hC, hT⟩ := PySem.W.excInit_of I1.kIn T.ini
  obtain ⟨its, hd, hb⟩ := kb.ex
  have e0 : its = [] := by cases hd; rfl
  subst e0
  obtain ⟨hp, gg, dr, tk, os⟩ := s1
  generalize hus : us.take n = un
  have hsz : hp.objs.size ≤ hp.objs.size + 1 := Nat.le_succ _
  have hn1 : H1 (hp.objs.size + 1) = none := I1.hok.fresh hsz
  have kk : ∀ b o, hp.get? b = some o → ((hp.push (PySem.W.kdv_tup un)).push (PySem.HandSPX.excO Ca hp.objs.size)).get? b = some o := fun b o e => Heap.get?_push_of_some _ (Heap.get?_push_of_some _ e)
  have hget : ((hp.push (PySem.W.kdv_tup un)).push (PySem.HandSPX.excO Ca hp.objs.size)).get? (hp.objs.size + 1) = some (PySem.HandSPX.excO Ca hp.objs.size) := by heap_get
  have I2 : Inv X pins σ (upd H1 (hp.objs.size + 1) (exo (hp.objs.size + 1) Ca none)) ⟨(hp.push (PySem.W.kdv_tup un)).push (PySem.HandSPX.excO Ca hp.objs.size), gg, dr, tk, os⟩ :=
    I1.laid (t' := tk) (a := hp.objs.size + 1) (o := exo (hp.objs.size + 1) Ca none) (h' := (hp.push (PySem.W.kdv_tup un)).push (PySem.HandSPX.excO Ca hp.objs.size)) kk hsz (exo_ok hget)
  have r2 : Vals (V.ref (hp.objs.size + 1) :: vs) (Value.ref (hp.objs.size + 1) :: us) := .cons rfl r1
  have r3 := vals_pk r2 (0 :: ix.map (· + 1))
  rw [pk_self, pk_self] at r3
  have hul : us.length = n + ks.length := by rw [← r1.length]; exact hl
  have bt := hb _ (Value.ref (hp.objs.size + 1) :: us) I2.kIn (by simp only [List.length_cons]; omega)
  rw [List.append_nil, pk_self, List.take_succ_cons, List.drop_succ_cons, hus] at bt
  have hz : un.length ≤ sizeLine := by
    rw [← hus, List.length_take, sizeLine_eq]
    omega
  have hq : spX Ca fs (.ref (hp.objs.size + 1) :: pk ix vs) (upd H1 (hp.objs.size + 1) (exo (hp.objs.size + 1) Ca none)) (fun v H2 => v = .non ∧ ∃ d, H2 (hp.objs.size + 1) = some (exo (hp.objs.size + 1) Ca (some d)) ∧ H2 d = some (exd d (fs.zip (pk ix vs)).reverse) ∧ H1 d = none ∧ d ≠ hp.objs.size + 1 ∧ ∀ b o, H1 b = some o → H2 b = some o) (fun _ _ _ => False) := by
    refine ⟨by rw [List.length_cons, hix], hp.objs.size + 1, pk ix vs, rfl, upd_same, fun H' d h1 h2 h3 h4 => ?_⟩
    have nda : d ≠ hp.objs.size + 1 := fun z => by
      rw [z, upd_same] at h3
      cases h3
    rw [upd_ne nda] at h3
    exact ⟨rfl, d, h1, h2, h3, nda, fun b o eb => by
      have nb : b ≠ hp.objs.size + 1 := ne_of_none eb hn1
      exact h4 b o (by rw [upd_ne nb]; exact eb) nb⟩
  refine wpAny_call (xk_call T.fb hT hC (PySem.W.looks_findIn I1.kIn iC) (fun self => PySem.W.bind_fn I1.kIn self tI) hz
    (codeAny_mono (F1.run _ X.stack _ _ ⟨Value.ref (hp.objs.size + 1) :: un, ks.zip (us.drop n)⟩ _ _ _ (fun _ _ _ => False) (hr.make Ca un (ks.zip (us.drop n))) (I2.env0.make Ca un (ks.zip (us.drop n))) bt r3 hq) fun r s' hq' => ?_))
  cases r with
  | error er => exact hx pins σ _ _ er s' I2 hq'
  | ok fl =>
    cases fl with
    | ret u =>
      obtain ⟨v, H2, os2, bare2, un2, hok2, rv, ev, d, ea, ed, hd1, nda, kp⟩ := hq'
      subst ev
      obtain ⟨h2, g2, d2, t2, os'⟩ := s'
      obtain ⟨t0, G, J, kG, ge, hoe, na⟩ := mk_end0 (d2 := d2) (t2 := t2) I1 hsz kk un2 hok2 os2 bare2 ea ed hd1
      have J2 := Inv.laidN (o := xoH (hp.objs.size + 1) Ca d) (h' := h2) (t' := t2) J kG ge na (xoH_ok hoe rfl rfl rfl)
      refine ⟨rv, .ref (hp.objs.size + 1), _, J2, rfl, h _ d _ hn1 hd1 nda (fun b o eb => ?_) upd_same (by rw [upd_ne nda]; exact upd_same)⟩
      have nb : b ≠ hp.objs.size + 1 := ne_of_none eb hn1
      rw [upd_ne nb, upd_ne (ne_of_none eb hd1), del_ne nb]
      exact kp b o eb
    | next => exact False.elim hq'
    | brk => exact False.elim hq'
    | cont => exact False.elim hq'
end
end Sm
namespace Sm
open PySem PySem.Spec PyProof.Rows L2
section
variable {c : Cn} {F H H' : Hp} {ρ : List Addr} {m : Sto}
/-- two new things, of which nothing is changed any more -/
theorem R.two (r : R c F ρ m H) {a d : Addr} {oa od : HO} (na : H a = none) (nd : H d = none) (hda : d ≠ a) (kp : ∀ b o, H b = some o → H' b = some o) (ea : H' a = some oa) (ed : H' d = some od) :
    R c (upd (upd F a oa) d od) ρ m H' ∧ Go F ρ H (upd (upd F a oa) d od) ρ H' := by
  have fa := r.fnone na
  have fd := r.fnone nd
  have same : Same F (upd (upd F a oa) d od) := fun b o e => by rw [upd_ne (ne_of_none e fd), upd_ne (ne_of_none e fa)]; exact e
  refine ⟨⟨fun b o e => ?_, r.len, r.nd, fun b hb => ?_, fun i b o h1 h2 => ?_⟩, same, .refl _, fun b o e _ => kp b o e, fun b o e n => ⟨n, fun z => ?_⟩⟩
  · by_cases e1 : b = d
    · subst e1; rw [upd_same] at e; cases e; exact ed
    · rw [upd_ne e1] at e
      by_cases e2 : b = a
      · subst e2; rw [upd_same] at e; cases e; exact ea
      · rw [upd_ne e2] at e; exact kp b o (r.sub b o e)
  · rw [upd_ne (fun z => r.notin nd (by rw [← z]; exact hb)), upd_ne (fun z => r.notin na (by rw [← z]; exact hb))]
    exact r.off b hb
  · obtain ⟨h, e3, e4⟩ := r.at_ i b o h1 h2
    exact ⟨h, kp b h e3, e4.mono same (.refl _)⟩
  · rw [upd_ne (ne_of_none e nd), upd_ne (ne_of_none e na)]
    exact z
end
section
variable {X : Cx} {Wx : WX} {cl : Str → Addr} {k n : Nat} {C : Str} {fs ks : List Str} {ix : List Nat} {es : List Expr} {kws : List Keyword} {g : Fas} {p pos : Pos}
theorem s_mkX (c : CalX X.prog X.w X.K X.mg X.base cl k C fs) (hr : Room (k + 1) X.A) (tk : Takes X Wx) (ha : KA ⟨X.K, cl⟩ X Wx es kws n ks g) (hin : (n, ks, ix) ∈ kbs fs) (hn : n ≤ 1000) (hg : Gl X C := by rfl) (hdb : (C == ("__debug__" : Str)) = false := by decide)
    (hpl : ((backTo pos (starEach es X.env)).any (·.1) || (backToKw pos (keywordEach kws X.env)).any (·.1.isNone)) = false := by rfl) (hall : (backToKw pos (keywordEach kws X.env)).all (·.1.isSome) = true := by rfl) (hks : (backToKw pos (keywordEach kws X.env)).filterMap (·.1) = ks := by rfl) :
    SE ⟨X.K, cl⟩ X Wx (.Call (.Name C p) es kws pos) (eMkX C fs (n + ks.length) ix g) := by
  obtain ⟨f, fd, ps, Bn, newId, initId, tail, T, F1, hm, iC, tI, _, hk⟩ := c.ex
  have kb := hk _ hin
  refine ⟨fun pins s σ H Q I h => ?_⟩
  refine wpAny_Call_Name_kw (ld_glob I hg hm (ha.run pos _ [] pins s σ H Q T.kC I ?_ hpl hall hks) hdb)
  obtain ⟨F0, ρ, m, τ, r, hs, pp⟩ := h
  refine ⟨F0, ρ, m, τ, r, hs, ?_⟩
  unfold eMkX bnd at pp
  cases e : g τ m with
  | bad =>
    rw [e] at pp
    exact pp
  | exc x m' =>
    rw [e] at pp
    exact pp
  | ok ws m1 =>
    rw [e] at pp
    dsimp only at pp
    intro vs F2 ρ1 H1 r1 g1 q1
    split at pp
    · rename_i hl
      have hl1 : vs.length = n + ks.length := by rw [q1.length]; exact hl.1
      have q2 := rws_pk q1 ix
      refine ⟨hl1, fun us s1 rv I1 => run_mkX T iC tI F1 hr kb (passes_call tk fun _ _ _ _ z => z.elim) I1 rv hl1 hn (by rw [q2.length]; exact hl.2) fun a d H' na nd hda kp ea ed => ?_⟩
      obtain ⟨r2, g2⟩ := r1.two na nd hda kp ea ed
      have hz : (pk ix vs).length = fs.length := by rw [q2.length]; exact hl.2
      obtain ⟨z1, z2⟩ := zip1 (l := fs) (r := pk ix vs) hz
      refine pp (.ref a) _ ρ1 H' r2 (g1.trans g2) (.inl ⟨a, d, (fs.zip (pk ix vs)).reverse, rfl, ?_, upd_same, ?_, ?_⟩)
      · rw [upd_ne (Ne.symm hda)]; exact upd_same
      · rw [List.map_reverse, z1]
      · rw [List.map_reverse, z2]
        exact (q2.mono g2.ff g2.pre).reverse
    · exact pp.elim
theorem s_mkXH {t : Xt} (hr : Room (k + 3) X.A) (tk : Takes X Wx) (hE : HyX X.prog X.w X.K X.mg X.base cl t) (i : Nat) {b : XBn} (ha : KA ⟨X.K, cl⟩ X Wx es kws n ks g) (ei : t.cal[i]? = some (C, b, fs) := by rfl) (hin : (n, ks, ix) ∈ kbs fs := by decide) (hn : n ≤ 1000 := by decide) (hg : Gl X C := by rfl) (hdb : (C == ("__debug__" : Str)) = false := by decide)
    (hpl : ((backTo pos (starEach es X.env)).any (·.1) || (backToKw pos (keywordEach kws X.env)).any (·.1.isNone)) = false := by rfl) (hall : (backToKw pos (keywordEach kws X.env)).all (·.1.isSome) = true := by rfl) (hks : (backToKw pos (keywordEach kws X.env)).filterMap (·.1) = ks := by rfl) :
    SE ⟨X.K, cl⟩ X Wx (.Call (.Name C p) es kws pos) (eMkX C fs (n + ks.length) ix g) :=
  s_mkX (hE.cal _ (List.mem_of_getElem? ei) (k + 1)) hr tk ha hin hn hg hdb hpl hall hks
end
end Sm

/-! S86: X() of an own exception class without an own __init__, as a value. -/
namespace Sm
open PySem PySem.Spec PyProof.Rows L2
theorem xnH_ok {P : Program} {w : World} {H : Hp} {h : Heap} {a C : Addr} {oe : Obj} {vs : Array Value} (e : h.get? a = some oe) (h1 : oe.cls = .ref C) (h2 : oe.dict = none) (h3 : oe.data = .fields vs) : ObjOk P w H h a (xnH a C) :=
  ⟨⟨oe, vs, e, h1, h2, h3⟩, ⟨oe, e⟩, fun _ _ ⟨o, v, q, r⟩ k => ⟨o, v, k o q, r⟩⟩
section
variable {X : Cx} {Wx : WX} {cl : Str → Addr} {C : Str} {p pos : Pos} {bmB : List Value} {Bn newId initId : String}
theorem s_mkX0 (T : ExcBaseFacts Bn newId initId bmB) (hq : PySem.W.excIn X.K (cl C) bmB newId = true) (hm : X.mg C = some (.ref (cl C))) (hk : PySem.W.keepIn X.K (.ref (cl C)) = true) (hg : Gl X C := by rfl) (hdb : (C == ("__debug__" : Str)) = false := by decide) :
    SE ⟨X.K, cl⟩ X Wx (.Call (.Name C p) [] [] pos) (eC (.exc C [] [])) := by
  refine ⟨fun pins s σ H Q I h => ?_⟩
  obtain ⟨F, ρ, m, τ, r, hs, pp⟩ := h
  refine wpAny_Call_Name_kw (ld_glob I hg hm ?_ hdb)
  refine PySem.W.callWith_K0 I.kIn hk ?_
  obtain ⟨bm, N, nm, qn, bs, hdct, sn, sub, ab, col, dd, k0, k1, k2, k3, k5, mN, hC, hN, hni, hT⟩ := exc_obj I.kIn hq
  refine wpAny_call_exc_subT T hT hC hN hni (fun h' a hx => ?_) (by show 0 ≤ sizeLine; rw [sizeLine_eq]; omega)
  have na : H a = none := I.hok.gone hx.new
  obtain ⟨t, ht, _, _⟩ := hx.there
  obtain ⟨r2, g2⟩ := r.new na (xnH a (cl C))
  exact ⟨.ref a, _, I.laidN hx.keeps hx.new na (xnH_ok ht rfl rfl rfl), rfl, pp (.ref a) _ ρ _ r2 g2 (.inr ⟨rfl, rfl, a, rfl, upd_same⟩)⟩
end
/-! ### from a Bool -/
structure X0 (K : PySem.W.Frag) (mg : Str → Option Value) (cl : Str → Addr) (C : Str) : Prop where
  q : PySem.W.excIn K (cl C) XBn.ve.tl "ValueError.__new__" = true
  m : mg C = some (.ref (cl C))
  k : PySem.W.keepIn K (.ref (cl C)) = true
def x0B (K : PySem.W.Frag) (C : Str) : Bool := PySem.W.excIn K (He.ga K C) XBn.ve.tl "ValueError.__new__" && ((He.Fa.glo C).ok K && PySem.W.keepIn K (.ref (He.ga K C)))
theorem x0_of {K : PySem.W.Frag} {h : Heap} {mg : Str → Option Value} {C : Str} (X : K.In h) (G : h.Ns mainGlobals mg) (q : x0B K C = true) : X0 K mg (He.ga K) C := by
  obtain ⟨q1, q⟩ := He.ba q
  obtain ⟨q2, q3⟩ := He.ba q
  exact ⟨q1, He.glo_ok X G q2, q3⟩
theorem s_mkX0H {X : Cx} {Wx : WX} {cl : Str → Addr} {C : Str} {p pos : Pos} (x : X0 X.K X.mg cl C) (hg : Gl X C := by rfl) (hdb : (C == ("__debug__" : Str)) = false := by decide) : SE ⟨X.K, cl⟩ X Wx (.Call (.Name C p) [] [] pos) (eC (.exc C [] [])) :=
  s_mkX0 F.excBase_ValueError x.q x.m x.k hg hdb
end Sm

namespace Sm
open PySem PySem.Spec PyProof.Rows L2
theorem wps0 : type_of% (And.intro @Wp.ok (And.intro @Wp.exc (And.intro @wO_some (And.intro @Wp.lift (And.intro @vO_val (And.intro @rO_val (And.intro @rO_own (And.intro @Wp.eVar (And.intro @Wp.rVar (And.intro @Wp.eC (And.intro @Wp.ret (And.intro @k2b_ap (And.intro @k2a_ap (And.intro @Wp.op2 (And.intro @k1_ap (And.intro @Wp.op1 (And.intro @Wp.aNil (And.intro @kCb_ap (And.intro @kCa_ap @Wp.aCons))))))))))))))))))) := And.intro @Wp.ok (And.intro @Wp.exc (And.intro @wO_some (And.intro @Wp.lift (And.intro @vO_val (And.intro @rO_val (And.intro @rO_own (And.intro @Wp.eVar (And.intro @Wp.rVar (And.intro @Wp.eC (And.intro @Wp.ret (And.intro @k2b_ap (And.intro @k2a_ap (And.intro @Wp.op2 (And.intro @k1_ap (And.intro @Wp.op1 (And.intro @Wp.aNil (And.intro @kCb_ap (And.intro @kCa_ap @Wp.aCons))))))))))))))))))
theorem wps1 : type_of% (And.intro @sqO_some (And.intro @kAp_ap (And.intro @kSta_ap (And.intro @kStb_ap (And.intro @Wp.aStar (And.intro @kSz_ap (And.intro @Wp.eTup (And.intro @kL_ap (And.intro @Wp.eL (And.intro @kSl_ap (And.intro @Wp.nLst (And.intro @kPush_ap (And.intro @Wp.ePush (And.intro @kBlt_ap (And.intro @Wp.eBlt (And.intro @kCall_ap (And.intro @Wp.eCall (And.intro @kNew_ap (And.intro @Wp.eNew @kMb_ap))))))))))))))))))) := And.intro @sqO_some (And.intro @kAp_ap (And.intro @kSta_ap (And.intro @kStb_ap (And.intro @Wp.aStar (And.intro @kSz_ap (And.intro @Wp.eTup (And.intro @kL_ap (And.intro @Wp.eL (And.intro @kSl_ap (And.intro @Wp.nLst (And.intro @kPush_ap (And.intro @Wp.ePush (And.intro @kBlt_ap (And.intro @Wp.eBlt (And.intro @kCall_ap (And.intro @Wp.eCall (And.intro @kNew_ap (And.intro @Wp.eNew @kMb_ap))))))))))))))))))
theorem wps2 : type_of% (And.intro @kMa_ap (And.intro @Wp.eMeth (And.intro @kM2b_ap (And.intro @kM2a_ap (And.intro @Wp.e2M (And.intro @kM1_ap (And.intro @Wp.e1M (And.intro @kNot_ap (And.intro @Wp.notM (And.intro @kIfE_t (And.intro @kIfE_f (And.intro @Wp.eIf (And.intro @bO_some (And.intro @kTru_ap (And.intro @Wp.tTru (And.intro @kBl_ap (And.intro @Wp.tBl (And.intro @kNt_ap (And.intro @Wp.tNt @Wp.tYes))))))))))))))))))) := And.intro @kMa_ap (And.intro @Wp.eMeth (And.intro @kM2b_ap (And.intro @kM2a_ap (And.intro @Wp.e2M (And.intro @kM1_ap (And.intro @Wp.e1M (And.intro @kNot_ap (And.intro @Wp.notM (And.intro @kIfE_t (And.intro @kIfE_f (And.intro @Wp.eIf (And.intro @bO_some (And.intro @kTru_ap (And.intro @Wp.tTru (And.intro @kBl_ap (And.intro @Wp.tBl (And.intro @kNt_ap (And.intro @Wp.tNt @Wp.tYes))))))))))))))))))
theorem wps3 : type_of% (And.intro @kAn_t (And.intro @kAn_f (And.intro @Wp.tAn (And.intro @kOr_t (And.intro @kOr_f (And.intro @Wp.tOrr (And.intro @kEAn_t (And.intro @kEAn_f (And.intro @kEA_ap (And.intro @Wp.eAnd (And.intro @kEOr_t (And.intro @kEOr_f (And.intro @kEO_ap (And.intro @Wp.eOr (And.intro @kNv_ap (And.intro @kNV_ap (And.intro @Wp.eNotV (And.intro @kChB_t (And.intro @kChB_f @kChA_ap))))))))))))))))))) := And.intro @kAn_t (And.intro @kAn_f (And.intro @Wp.tAn (And.intro @kOr_t (And.intro @kOr_f (And.intro @Wp.tOrr (And.intro @kEAn_t (And.intro @kEAn_f (And.intro @kEA_ap (And.intro @Wp.eAnd (And.intro @kEOr_t (And.intro @kEOr_f (And.intro @kEO_ap (And.intro @Wp.eOr (And.intro @kNv_ap (And.intro @kNV_ap (And.intro @Wp.eNotV (And.intro @kChB_t (And.intro @kChB_f @kChA_ap))))))))))))))))))
theorem wps4 : type_of% (And.intro @kCh_ap (And.intro @Wp.eChain (And.intro @Wp.oNone (And.intro @kO_ap (And.intro @Wp.oSome (And.intro @kSlC_ap (And.intro @kSlB_ap (And.intro @kSlA_ap (And.intro @Wp.eSl (And.intro @kRev_ap (And.intro @Wp.nRev (And.intro @kJs_ap (And.intro @Wp.js0 (And.intro @Wp.js1 (And.intro @kJoB_ap (And.intro @kJo_ap (And.intro @Wp.eJoin (And.intro @kSpB_ap (And.intro @kSp_ap @Wp.nSplit))))))))))))))))))) := And.intro @kCh_ap (And.intro @Wp.eChain (And.intro @Wp.oNone (And.intro @kO_ap (And.intro @Wp.oSome (And.intro @kSlC_ap (And.intro @kSlB_ap (And.intro @kSlA_ap (And.intro @Wp.eSl (And.intro @kRev_ap (And.intro @Wp.nRev (And.intro @kJs_ap (And.intro @Wp.js0 (And.intro @Wp.js1 (And.intro @kJoB_ap (And.intro @kJo_ap (And.intro @Wp.eJoin (And.intro @kSpB_ap (And.intro @kSp_ap @Wp.nSplit))))))))))))))))))
theorem wps5 : type_of% (And.intro @kSeq__ap (And.intro @Wp.iSeq (And.intro @kSeqR_ap (And.intro @Wp.iSeqR (And.intro @kRng_ap (And.intro @Wp.iRng (And.intro @kEn_ap (And.intro @Wp.iEn (And.intro @Wp.lc0 (And.intro @kLcE_ap (And.intro @kLcT_t (And.intro @kLcT_f (And.intro @tO_some (And.intro @kLcB_ap (And.intro @Wp.lc1 (And.intro @kLc_ap (And.intro @Wp.nLc (And.intro @Wp.sNil (And.intro @Wp.sBrk @Wp.sCnt))))))))))))))))))) := And.intro @kSeq__ap (And.intro @Wp.iSeq (And.intro @kSeqR_ap (And.intro @Wp.iSeqR (And.intro @kRng_ap (And.intro @Wp.iRng (And.intro @kEn_ap (And.intro @Wp.iEn (And.intro @Wp.lc0 (And.intro @kLcE_ap (And.intro @kLcT_t (And.intro @kLcT_f (And.intro @tO_some (And.intro @kLcB_ap (And.intro @Wp.lc1 (And.intro @kLc_ap (And.intro @Wp.nLc (And.intro @Wp.sNil (And.intro @Wp.sBrk @Wp.sCnt))))))))))))))))))
theorem wps6 : type_of% (And.intro @Wp.sRetN (And.intro @kSeq_nx (And.intro @kSeq_rt (And.intro @kSeq_bk (And.intro @kSeq_ct (And.intro @kSeq_ex (And.intro @Wp.sSeq (And.intro @kEx_ap (And.intro @kSet_ap (And.intro @Wp.sSet (And.intro @kSetN_ap (And.intro @Wp.sSetN (And.intro @kExp_ap (And.intro @Wp.sExp (And.intro @kRet_ap (And.intro @Wp.sRet (And.intro @kIf_t (And.intro @kIf_f (And.intro @Wp.sIf @kNx_ap))))))))))))))))))) := And.intro @Wp.sRetN (And.intro @kSeq_nx (And.intro @kSeq_rt (And.intro @kSeq_bk (And.intro @kSeq_ct (And.intro @kSeq_ex (And.intro @Wp.sSeq (And.intro @kEx_ap (And.intro @kSet_ap (And.intro @Wp.sSet (And.intro @kSetN_ap (And.intro @Wp.sSetN (And.intro @kExp_ap (And.intro @Wp.sExp (And.intro @kRet_ap (And.intro @Wp.sRet (And.intro @kIf_t (And.intro @kIf_f (And.intro @Wp.sIf @kNx_ap))))))))))))))))))
theorem wps7 : type_of% (And.intro @kUnp_ap (And.intro @Wp.sUnp (And.intro @kPar_ap (And.intro @Wp.sPar (And.intro @kPar3_ap (And.intro @Wp.sPar3 (And.intro @oO_own (And.intro @kAppB_ap (And.intro @kApp_ap (And.intro @Wp.sApp (And.intro @kExtB_ap (And.intro @kExt_ap (And.intro @Wp.sExt (And.intro @kFz_val (And.intro @kFz_un (And.intro @kFz_lst (And.intro @kSeqF_nx (And.intro @kSeqF_rt (And.intro @kSeqF_ex @Wp.sSeqF))))))))))))))))))) := And.intro @kUnp_ap (And.intro @Wp.sUnp (And.intro @kPar_ap (And.intro @Wp.sPar (And.intro @kPar3_ap (And.intro @Wp.sPar3 (And.intro @oO_own (And.intro @kAppB_ap (And.intro @kApp_ap (And.intro @Wp.sApp (And.intro @kExtB_ap (And.intro @kExt_ap (And.intro @Wp.sExt (And.intro @kFz_val (And.intro @kFz_un (And.intro @kFz_lst (And.intro @kSeqF_nx (And.intro @kSeqF_rt (And.intro @kSeqF_ex @Wp.sSeqF))))))))))))))))))
theorem wps8 : type_of% (And.intro @kFrz_val (And.intro @kFrz_un (And.intro @kFrz_lst (And.intro @Wp.sFrz (And.intro @kAug_ap (And.intro @kAugA_ap (And.intro @Wp.sAug (And.intro @kFor_ap (And.intro @Wp.sFor (And.intro @Wp.for0 (And.intro @kLoop_nx (And.intro @kLoop_ct (And.intro @kLoop_bk (And.intro @kLoop_rt (And.intro @kLoop_ex (And.intro @kBody_ap (And.intro @Wp.for1 (And.intro @kWb_nx (And.intro @kWb_ct @kWb_bk))))))))))))))))))) := And.intro @kFrz_val (And.intro @kFrz_un (And.intro @kFrz_lst (And.intro @Wp.sFrz (And.intro @kAug_ap (And.intro @kAugA_ap (And.intro @Wp.sAug (And.intro @kFor_ap (And.intro @Wp.sFor (And.intro @Wp.for0 (And.intro @kLoop_nx (And.intro @kLoop_ct (And.intro @kLoop_bk (And.intro @kLoop_rt (And.intro @kLoop_ex (And.intro @kBody_ap (And.intro @Wp.for1 (And.intro @kWb_nx (And.intro @kWb_ct @kWb_bk))))))))))))))))))
theorem wps9 : type_of% (And.intro @kWb_rt (And.intro @kWb_ex (And.intro @kWh_t (And.intro @kWh_f (And.intro @kRun_nx (And.intro @kRun_rt (And.intro @kRun_ex (And.intro @Wp.runB (And.intro @kTryB_nx (And.intro @kTryB_rt (And.intro @kTry_nx (And.intro @kTry_rt (And.intro @kTry_ex (And.intro @Wp.sTry (And.intro @kRaise_ap (And.intro @Wp.sRaise (And.intro @Wp.lNil (And.intro @kLsB_ap (And.intro @kLsV_ap @Wp.lVal))))))))))))))))))) := And.intro @kWb_rt (And.intro @kWb_ex (And.intro @kWh_t (And.intro @kWh_f (And.intro @kRun_nx (And.intro @kRun_rt (And.intro @kRun_ex (And.intro @Wp.runB (And.intro @kTryB_nx (And.intro @kTryB_rt (And.intro @kTry_nx (And.intro @kTry_rt (And.intro @kTry_ex (And.intro @Wp.sTry (And.intro @kRaise_ap (And.intro @Wp.sRaise (And.intro @Wp.lNil (And.intro @kLsB_ap (And.intro @kLsV_ap @Wp.lVal))))))))))))))))))
theorem wps10 : type_of% (And.intro @kLsO_ap (And.intro @Wp.lOwn (And.intro @kParO_ap (And.intro @Wp.sParO (And.intro @kDG2_some (And.intro @kDG2_none (And.intro @kDG1_ap (And.intro @Wp.eDG (And.intro @hO_some (And.intro @mO_lst (And.intro @kMtB_ap (And.intro @mC_lst (And.intro @kMt_ref (And.intro @Wp.eMt (And.intro @sxN_some (And.intro @sxO_lst (And.intro @kSxC_ap (And.intro @kSxB_ap (And.intro @kSxA_ap @Wp.sSetIx))))))))))))))))))) := And.intro @kLsO_ap (And.intro @Wp.lOwn (And.intro @kParO_ap (And.intro @Wp.sParO (And.intro @kDG2_some (And.intro @kDG2_none (And.intro @kDG1_ap (And.intro @Wp.eDG (And.intro @hO_some (And.intro @mO_lst (And.intro @kMtB_ap (And.intro @mC_lst (And.intro @kMt_ref (And.intro @Wp.eMt (And.intro @sxN_some (And.intro @sxO_lst (And.intro @kSxC_ap (And.intro @kSxB_ap (And.intro @kSxA_ap @Wp.sSetIx))))))))))))))))))
theorem wps11 : type_of% (And.intro @cO_some (And.intro @kPr_ap (And.intro @Wp.eProp (And.intro @kSS_ap (And.intro @Wp.nSortSet (And.intro @stO_some (And.intro @kSL_ap (And.intro @Wp.nSortL (And.intro @txsW_lst (And.intro @ttO_some (And.intro @ctO_some (And.intro @kCt2_ap (And.intro @kCt1_ap @Wp.nCat))))))))))))) := And.intro @cO_some (And.intro @kPr_ap (And.intro @Wp.eProp (And.intro @kSS_ap (And.intro @Wp.nSortSet (And.intro @stO_some (And.intro @kSL_ap (And.intro @Wp.nSortL (And.intro @txsW_lst (And.intro @ttO_some (And.intro @ctO_some (And.intro @kCt2_ap (And.intro @kCt1_ap @Wp.nCat))))))))))))
end Sm

namespace Sm
open PySem PySem.Spec PyProof.Rows L2
def top (i : Nat) : Stmt := PySem.Challenge.pw_deedtrees_k01_errors_and_what_they_keep.main.body.getD i (.Pass ⟨0, 0, 0, 0⟩)
def BL : List Str := ["len", "abs", "int", "tuple", "max", "min", "range", "str", "list", "sorted", "all", "any", "isinstance", "set", "dict", "zip", "enumerate", "repr", "bool", "TypeError", "ValueError", "IndexError", "LookupError", "NotImplemented", "super"]

def Tt : List Str := []
def Tx : Tb where
  fn := ([("_law_deal", 2, [], 0), ("_law_draw", 2, [], 1), ("_law_pick", 2, [], 2), ("_law_made", 2, [], 3), ("_law_classes", 1, [], 4), ("law", 1, [], 5)] : List (Str × Nat × List W × Nat))
  ini := []
  met := []
  ats := []
  tc := []
  kt := ([((.b "NoneType", .b "str"), false), ((.b "NoneType", .b "int"), false), ((.b "bool", .b "str"), false), ((.b "bool", .b "int"), true), ((.b "int", .b "str"), false), ((.b "int", .b "int"), true), ((.b "str", .b "str"), true), ((.b "str", .b "int"), false), ((.b "tuple", .b "str"), false), ((.b "tuple", .b "int"), false), ((.b "list", .b "str"), false), ((.b "list", .b "int"), false)] : List ((Ty × Ty) × Bool))
  bl := BL
  gs := []
  prp := []
  kfn := []
  kin := []
  kme := []
def Xx : Xt where
  cal := [("InvalidTree", .ve, ["word"]), ("InvalidMoment", .ve, ["word"]), ("InvalidLimbs", .ve, ["word"]), ("InvalidText", .ve, ["at"]), ("Refused", .ve, ["at"]), ("NoNode", .ie, ["at"]), ("Unanswered", .le, ["at", "name"])]
  cls := ["InvalidTree", "InvalidMoment", "InvalidLimbs", "InvalidText", "Refused", "NoNode", "Unanswered", "InvalidCommand", "TreeError"]
  xa := [("InvalidTree", "word"), ("InvalidMoment", "word"), ("InvalidLimbs", "word"), ("InvalidText", "at"), ("Refused", "at"), ("NoNode", "at"), ("Unanswered", "at"), ("Unanswered", "name")]
  xc := ["InvalidTree", "InvalidMoment", "InvalidLimbs", "InvalidText", "Refused", "NoNode", "Unanswered", "InvalidCommand"]
  kt := ([((.c "InvalidTree", .c "InvalidTree"), true), ((.c "InvalidTree", .c "InvalidMoment"), false), ((.c "InvalidTree", .c "InvalidLimbs"), false), ((.c "InvalidTree", .c "InvalidText"), false), ((.c "InvalidTree", .c "Refused"), false), ((.c "InvalidTree", .c "NoNode"), false), ((.c "InvalidTree", .c "Unanswered"), false), ((.c "InvalidTree", .c "InvalidCommand"), false), ((.c "InvalidMoment", .c "InvalidTree"), false), ((.c "InvalidMoment", .c "InvalidMoment"), true), ((.c "InvalidMoment", .c "InvalidLimbs"), false), ((.c "InvalidMoment", .c "InvalidText"), false), ((.c "InvalidMoment", .c "Refused"), false), ((.c "InvalidMoment", .c "NoNode"), false), ((.c "InvalidMoment", .c "Unanswered"), false), ((.c "InvalidMoment", .c "InvalidCommand"), false), ((.c "InvalidLimbs", .c "InvalidTree"), false), ((.c "InvalidLimbs", .c "InvalidMoment"), false), ((.c "InvalidLimbs", .c "InvalidLimbs"), true), ((.c "InvalidLimbs", .c "InvalidText"), false), ((.c "InvalidLimbs", .c "Refused"), false), ((.c "InvalidLimbs", .c "NoNode"), false), ((.c "InvalidLimbs", .c "Unanswered"), false), ((.c "InvalidLimbs", .c "InvalidCommand"), false), ((.c "InvalidText", .c "InvalidTree"), false), ((.c "InvalidText", .c "InvalidMoment"), false), ((.c "InvalidText", .c "InvalidLimbs"), false), ((.c "InvalidText", .c "InvalidText"), true), ((.c "InvalidText", .c "Refused"), false), ((.c "InvalidText", .c "NoNode"), false)] : List ((Ty × Ty) × Bool)) ++ ([((.c "InvalidText", .c "Unanswered"), false), ((.c "InvalidText", .c "InvalidCommand"), false), ((.c "Refused", .c "InvalidTree"), false), ((.c "Refused", .c "InvalidMoment"), false), ((.c "Refused", .c "InvalidLimbs"), false), ((.c "Refused", .c "InvalidText"), false), ((.c "Refused", .c "Refused"), true), ((.c "Refused", .c "NoNode"), false), ((.c "Refused", .c "Unanswered"), false), ((.c "Refused", .c "InvalidCommand"), false), ((.c "NoNode", .c "InvalidTree"), false), ((.c "NoNode", .c "InvalidMoment"), false), ((.c "NoNode", .c "InvalidLimbs"), false), ((.c "NoNode", .c "InvalidText"), false), ((.c "NoNode", .c "Refused"), false), ((.c "NoNode", .c "NoNode"), true), ((.c "NoNode", .c "Unanswered"), false), ((.c "NoNode", .c "InvalidCommand"), false), ((.c "Unanswered", .c "InvalidTree"), false), ((.c "Unanswered", .c "InvalidMoment"), false), ((.c "Unanswered", .c "InvalidLimbs"), false), ((.c "Unanswered", .c "InvalidText"), false), ((.c "Unanswered", .c "Refused"), false), ((.c "Unanswered", .c "NoNode"), false), ((.c "Unanswered", .c "Unanswered"), true), ((.c "Unanswered", .c "InvalidCommand"), false), ((.c "InvalidCommand", .c "InvalidTree"), false), ((.c "InvalidCommand", .c "InvalidMoment"), false), ((.c "InvalidCommand", .c "InvalidLimbs"), false), ((.c "InvalidCommand", .c "InvalidText"), false)] : List ((Ty × Ty) × Bool)) ++ ([((.c "InvalidCommand", .c "Refused"), false), ((.c "InvalidCommand", .c "NoNode"), false), ((.c "InvalidCommand", .c "Unanswered"), false), ((.c "InvalidCommand", .c "InvalidCommand"), true), ((.c "InvalidTree", .c "TreeError"), true), ((.c "InvalidMoment", .c "TreeError"), true), ((.c "InvalidLimbs", .c "TreeError"), true), ((.c "InvalidText", .c "TreeError"), true), ((.c "Refused", .c "TreeError"), true), ((.c "NoNode", .c "TreeError"), false), ((.c "Unanswered", .c "TreeError"), false), ((.c "InvalidCommand", .c "TreeError"), true), ((.c "InvalidTree", .b "ValueError"), true), ((.c "InvalidTree", .b "IndexError"), false), ((.c "InvalidTree", .b "LookupError"), false), ((.c "InvalidMoment", .b "ValueError"), true), ((.c "InvalidMoment", .b "IndexError"), false), ((.c "InvalidMoment", .b "LookupError"), false), ((.c "InvalidLimbs", .b "ValueError"), true), ((.c "InvalidLimbs", .b "IndexError"), false), ((.c "InvalidLimbs", .b "LookupError"), false), ((.c "InvalidText", .b "ValueError"), true), ((.c "InvalidText", .b "IndexError"), false), ((.c "InvalidText", .b "LookupError"), false), ((.c "Refused", .b "ValueError"), true), ((.c "Refused", .b "IndexError"), false), ((.c "Refused", .b "LookupError"), false), ((.c "NoNode", .b "ValueError"), false), ((.c "NoNode", .b "IndexError"), true), ((.c "NoNode", .b "LookupError"), true)] : List ((Ty × Ty) × Bool)) ++ ([((.c "Unanswered", .b "ValueError"), false), ((.c "Unanswered", .b "IndexError"), false), ((.c "Unanswered", .b "LookupError"), true), ((.c "InvalidCommand", .b "ValueError"), true), ((.c "InvalidCommand", .b "IndexError"), false), ((.c "InvalidCommand", .b "LookupError"), false)] : List ((Ty × Ty) × Bool))
  xm := []

abbrev st__law_deal : Stmt := (top 11)
abbrev N__law_deal : List Str := ["_law_script", "_law_base", "_law_cells", "_law_mixed", "_law_cell"]
theorem sc__law_deal : FnScope N__law_deal ["_law_script", "_law_base"] (defScope st__law_deal) := ⟨rfl, rfl, rfl, by decide +kernel, rfl, by decide +kernel, by decide +kernel⟩
noncomputable def b__law_deal (Γ : Gam) : Fs := (sSeq (sSeqF 2 (sSetN 2 (nLc (iSeq (eSl (rVar 0) (oSome (eVar 1)) (oSome (eC (.int 63))))) [4] (bName 4) tYesM (eBlt absW (aCons (rVar 4) aNil)))))
    (sSeq (sSet 3 (op2 addW (eC (.int 48611719)) (op2 mulW (eC (.int 13)) (rVar 1))))
    (sSeq (sFor (iSeq (eVar 2)) (bName 4) (sSet 3 (op2 modW (eBlt intW (aCons (op2 addW (op2 mulW (rVar 3) (eC (.int 16807))) (op2 modW (eBlt intW (aCons (rVar 4) aNil)) (eC (.int 2147483629)))) aNil)) (eC (.int 2147483647)))))
    (sRet (ePush (nLst (aCons (ePush (nRev (eL (nLc (iSeq (eVar 2)) [4] (bName 4) (tBl (op2 (cmpI fun i j => decide (j ≤ i)) (rVar 4) (op2 powW (eC (.int 10)) (eC (.int 18))))) (eVar 4))))) (aCons (eVar 3) aNil))))))))
theorem d__law_deal {P : Program} {w : World} {K : PySem.W.Frag} {mg : Str → Option Value} {base : Heap} {cl : Str → Addr} {k : Nat} {Γ : Gam} {qual : Str} {f : Addr} {cdv : Value} {A : Around} {outer : List Env} {s : Shared} {H : Hp} {E : XK} {B : Bs} (hF : Fx K mg cl Tx) (hX : Ox K cl Tt) (h0InvalidCommand : X0 K mg cl "InvalidCommand") (hE : HyX P w K mg base cl Xx) (hH : Hy P w K mg base cl (4 * k) Tx Γ)
    (h : Ctx (cxOf (CX P w) P w K mg base N__law_deal qual (defScope st__law_deal) f cdv A outer s H E) (fun cls d _ H => E cls d H) (4 * k + 3)) : SXs ⟨K, cl⟩ (cxOf (CX P w) P w K mg base N__law_deal qual (defScope st__law_deal) f cdv A outer s H E) (fun cls d _ H => E cls d H) B (defBody st__law_deal) (b__law_deal Γ) :=
  (x_cons (x_seqF (x_setLc (i := 2) h rfl rfl (sw_true rfl rfl rfl (by decide +kernel)) (own := [("_law_cell", 4)]) (i_seq (s_slice (s_rvar 0) (o_some (s_var 1)) (o_some s_int))) (blkOk_by (N := N__law_deal) (sc := defScope st__law_deal) (by decide +kernel)) (by decide) (fun _ _ _ _ _ => (g_name h.nd rfl (by first | exact Or.inl rfl | exact Or.inr rfl))) (fun _ _ _ _ _ => ts_nil) (fun _ _ _ _ _ => (s_abs (s_rvar 4) (hF.nog.at 1)))))
    (x_cons (x_set (i := 3) h.nd rfl (by first | exact Or.inl rfl | exact Or.inr rfl) (s_bin o_add (SE.rd s_int) (SE.rd (s_bin o_mul (SE.rd s_int) (s_rvar 1)))))
    (x_cons (x_for h (i_seq (s_var 2)) (g_name h.nd rfl (by first | exact Or.inl rfl | exact Or.inr rfl)) (fun _ => (x_one (x_set (i := 3) h.nd rfl (by first | exact Or.inl rfl | exact Or.inr rfl) (s_bin o_mod (SE.rd (s_int' (SE.rd (s_bin o_add (SE.rd (s_bin o_mul (s_rvar 3) (SE.rd s_int))) (SE.rd (s_bin o_mod (SE.rd (s_int' (s_rvar 4) (hF.nog.at 2))) (SE.rd s_int))))) (hF.nog.at 2))) (SE.rd s_int))))))
    (x_one (x_ret (SN.push (n_lst (a_cons (SN.push (n_rev (SE.rd (SN.se (n_lc h (own := [("_law_cell", 4)]) (i_seq (s_var 2)) (blkOk_by (N := N__law_deal) (sc := defScope st__law_deal) (by decide +kernel)) (by decide) (fun _ _ _ _ _ => (g_name h.nd rfl (by first | exact Or.inl rfl | exact Or.inr rfl))) (fun _ _ _ _ _ => (ts_one (t_of_cmp o_ge (s_rvar 4) (SE.rd (s_bin o_pow (SE.rd s_int) (SE.rd s_int)))))) (fun _ _ _ _ _ => (s_var 4))))))) (a_cons (s_var 3) a_nil)))))))))

abbrev st__law_draw : Stmt := (top 12)
abbrev N__law_draw : List Str := ["_law_deal_here", "_law_many", "_law_left"]
theorem sc__law_draw : FnScope N__law_draw ["_law_deal_here", "_law_many"] (defScope st__law_draw) := ⟨rfl, rfl, rfl, by decide +kernel, rfl, by decide +kernel, by decide +kernel⟩
noncomputable def b__law_draw (Γ : Gam) : Fs := (sSeq (whW (tAn (tBl (op2 neW (op2 ixW (rVar 0) (eC (.int 0))) (eL (nLst aNil)))) (tBl (op2 eqW (op2 ixW (op2 ixW (rVar 0) (eC (.int 0))) (op1 negW (eC (.int 1)))) (eC (.int 0))))) (sExp (eMt popS (op2 ixW (rVar 0) (eC (.int 0))) aNil)) 1000)
    (sSeq (sIf (tBl (op2 neW (op2 ixW (rVar 0) (eC (.int 0))) (eL (nLst aNil)))) (sSeq (sSet 2 (eMt popS (op2 ixW (rVar 0) (eC (.int 0))) aNil))
    (sSeq (sExp (eMt appS (op2 ixW (rVar 0) (eC (.int 0))) (aCons (op2 fdivW (rVar 2) (rVar 1)) aNil)))
    (sRet (op2 modW (eBlt intW (aCons (rVar 2) aNil)) (rVar 1))))) sNil)
    (sSeq (sSetIx (op2 modW (eBlt intW (aCons (op2 addW (op2 mulW (op2 ixW (rVar 0) (eC (.int 1))) (eC (.int 48271))) (eC (.int 7))) aNil)) (eC (.int 2147483647))) (eVar 0) (eC (.int 1)))
    (sRet (op2 modW (eBlt intW (aCons (op2 fdivW (op2 ixW (rVar 0) (eC (.int 1))) (eC (.int 8))) aNil)) (rVar 1))))))
theorem d__law_draw {P : Program} {w : World} {K : PySem.W.Frag} {mg : Str → Option Value} {base : Heap} {cl : Str → Addr} {k : Nat} {Γ : Gam} {qual : Str} {f : Addr} {cdv : Value} {A : Around} {outer : List Env} {s : Shared} {H : Hp} {E : XK} {B : Bs} (hF : Fx K mg cl Tx) (hX : Ox K cl Tt) (h0InvalidCommand : X0 K mg cl "InvalidCommand") (hE : HyX P w K mg base cl Xx) (hH : Hy P w K mg base cl (4 * k) Tx Γ)
    (h : Ctx (cxOf (CX P w) P w K mg base N__law_draw qual (defScope st__law_draw) f cdv A outer s H E) (fun cls d _ H => E cls d H) (4 * k + 3)) : SXs ⟨K, cl⟩ (cxOf (CX P w) P w K mg base N__law_draw qual (defScope st__law_draw) f cdv A outer s H E) (fun cls d _ H => E cls d H) B (defBody st__law_draw) (b__law_draw Γ) :=
  (x_cons (x_while h (PW.pt (t_and (t_of_cmp (o_ne h.hr) (SE.rd (s_ix i_x (s_rvar 0) (SE.rd s_int))) (SE.rd (SN.se (n_lst a_nil)))) (t_and1 (t_of_cmp (o_eq h.hr) (SE.rd (s_ix i_x (SE.rd (s_ix i_x (s_rvar 0) (SE.rd s_int))) (SE.rd (s_un u_neg (SE.rd s_int))))) (SE.rd s_int))))) (x_one (x_expr (s_pop (s_ix i_x (s_rvar 0) (SE.rd s_int))))))
    (x_cons (x_if (t_of_cmp (o_ne h.hr) (SE.rd (s_ix i_x (s_rvar 0) (SE.rd s_int))) (SE.rd (SN.se (n_lst a_nil)))) (x_cons (x_set (i := 2) h.nd rfl (by first | exact Or.inl rfl | exact Or.inr rfl) (s_pop (s_ix i_x (s_rvar 0) (SE.rd s_int))))
    (x_cons (x_expr (s_append (s_ix i_x (s_rvar 0) (SE.rd s_int)) (a_cons (s_bin o_fdiv (s_rvar 2) (s_rvar 1)) a_nil)))
    (x_one (x_ret (s_bin o_mod (SE.rd (s_int' (s_rvar 2) (hF.nog.at 2))) (s_rvar 1)))))) x_nil)
    (x_cons (x_setIx (s_bin o_mod (SE.rd (s_int' (SE.rd (s_bin o_add (SE.rd (s_bin o_mul (SE.rd (s_ix i_x (s_rvar 0) (SE.rd s_int))) (SE.rd s_int))) (SE.rd s_int))) (hF.nog.at 2))) (SE.rd s_int)) (s_var 0) s_int)
    (x_one (x_ret (s_bin o_mod (SE.rd (s_int' (SE.rd (s_bin o_fdiv (SE.rd (s_ix i_x (s_rvar 0) (SE.rd s_int))) (SE.rd s_int))) (hF.nog.at 2))) (s_rvar 1)))))))

abbrev st__law_pick : Stmt := (top 13)
abbrev N__law_pick : List Str := ["_law_deal_here", "_law_some"]
theorem sc__law_pick : FnScope N__law_pick ["_law_deal_here", "_law_some"] (defScope st__law_pick) := ⟨rfl, rfl, rfl, by decide +kernel, rfl, by decide +kernel, by decide +kernel⟩
noncomputable def b__law_pick (Γ : Gam) : Fs := (sRet (op2 ixW (rVar 1) (eCall 2 (Γ.f 1) [] (aCons (eVar 0) (aCons (eBlt lenW (aCons (rVar 1) aNil)) aNil)))))
theorem d__law_pick {P : Program} {w : World} {K : PySem.W.Frag} {mg : Str → Option Value} {base : Heap} {cl : Str → Addr} {k : Nat} {Γ : Gam} {qual : Str} {f : Addr} {cdv : Value} {A : Around} {outer : List Env} {s : Shared} {H : Hp} {E : XK} {B : Bs} (hF : Fx K mg cl Tx) (hX : Ox K cl Tt) (h0InvalidCommand : X0 K mg cl "InvalidCommand") (hE : HyX P w K mg base cl Xx) (hH : Hy P w K mg base cl (4 * k) Tx Γ)
    (h : Ctx (cxOf (CX P w) P w K mg base N__law_pick qual (defScope st__law_pick) f cdv A outer s H E) (fun cls d _ H => E cls d H) (4 * k + 3)) : SXs ⟨K, cl⟩ (cxOf (CX P w) P w K mg base N__law_pick qual (defScope st__law_pick) f cdv A outer s H E) (fun cls d _ H => E cls d H) B (defBody st__law_pick) (b__law_pick Γ) :=
  (x_one (x_ret (s_ix i_x (s_rvar 1) (SE.rd (s_call (hH.fnAt 1) (h.hr.mono (by omega)) h.tk (a_cons (s_var 0) (a_cons (s_len (s_rvar 1) (hF.nog.at 0)) a_nil)))))))

abbrev st__law_made : Stmt := (top 14)
abbrev N__law_made : List Str := ["_law_which", "_law_thing", "_law_made_here"]
theorem sc__law_made : FnScope N__law_made ["_law_which", "_law_thing"] (defScope st__law_made) := ⟨rfl, rfl, rfl, by decide +kernel, rfl, by decide +kernel, by decide +kernel⟩
noncomputable def b__law_made (Γ : Gam) : Fs := (sSeq (sIf (tBl (op2 eqW (rVar 0) (eC (.int 0)))) (sSeq (sSet 2 (eMkX "InvalidTree" ["word"] 1 [0] (aApp (aCons (eVar 1) aNil) aNil)))
    (sRet (eTup (aCons (eVar 2) (aCons (op1 (xfW Xx.xa "word") (eVar 2)) aNil))))) sNil)
    (sSeq (sIf (tBl (op2 eqW (rVar 0) (eC (.int 1)))) (sSeq (sSet 2 (eMkX "InvalidMoment" ["word"] 1 [0] (aApp (aCons (eVar 1) aNil) aNil)))
    (sRet (eTup (aCons (eVar 2) (aCons (op1 (xfW Xx.xa "word") (eVar 2)) aNil))))) sNil)
    (sSeq (sIf (tBl (op2 eqW (rVar 0) (eC (.int 2)))) (sSeq (sSet 2 (eMkX "InvalidLimbs" ["word"] 1 [0] (aApp (aCons (eVar 1) aNil) aNil)))
    (sRet (eTup (aCons (eVar 2) (aCons (op1 (xfW Xx.xa "word") (eVar 2)) aNil))))) sNil)
    (sSeq (sIf (tBl (op2 eqW (rVar 0) (eC (.int 3)))) (sSeq (sSet 2 (eMkX "InvalidText" ["at"] 1 [0] (aApp (aCons (eVar 1) aNil) aNil)))
    (sRet (eTup (aCons (eVar 2) (aCons (op1 (xfW Xx.xa "at") (eVar 2)) aNil))))) sNil)
    (sSeq (sIf (tBl (op2 eqW (rVar 0) (eC (.int 4)))) (sSeq (sSet 2 (eMkX "Refused" ["at"] 1 [0] (aApp (aCons (eVar 1) aNil) aNil)))
    (sRet (eTup (aCons (eVar 2) (aCons (op1 (xfW Xx.xa "at") (eVar 2)) aNil))))) sNil)
    (sSeq (sIf (tBl (op2 eqW (rVar 0) (eC (.int 5)))) (sSeq (sSet 2 (eMkX "NoNode" ["at"] 1 [0] (aApp (aCons (eVar 1) aNil) aNil)))
    (sRet (eTup (aCons (eVar 2) (aCons (op1 (xfW Xx.xa "at") (eVar 2)) aNil))))) sNil)
    (sSeq (sSet 2 (eMkX "Unanswered" ["at", "name"] 2 [0, 1] (aApp (aCons (eC (.int 7)) (aCons (eVar 1) aNil)) aNil)))
    (sRet (eTup (aCons (eVar 2) (aCons (op1 (xfW Xx.xa "name") (eVar 2)) aNil)))))))))))
theorem d__law_made {P : Program} {w : World} {K : PySem.W.Frag} {mg : Str → Option Value} {base : Heap} {cl : Str → Addr} {k : Nat} {Γ : Gam} {qual : Str} {f : Addr} {cdv : Value} {A : Around} {outer : List Env} {s : Shared} {H : Hp} {E : XK} {B : Bs} (hF : Fx K mg cl Tx) (hX : Ox K cl Tt) (h0InvalidCommand : X0 K mg cl "InvalidCommand") (hE : HyX P w K mg base cl Xx) (hH : Hy P w K mg base cl (4 * k) Tx Γ)
    (h : Ctx (cxOf (CX P w) P w K mg base N__law_made qual (defScope st__law_made) f cdv A outer s H E) (fun cls d _ H => E cls d H) (4 * k + 3)) : SXs ⟨K, cl⟩ (cxOf (CX P w) P w K mg base N__law_made qual (defScope st__law_made) f cdv A outer s H E) (fun cls d _ H => E cls d H) B (defBody st__law_made) (b__law_made Γ) :=
  (x_cons (x_if (t_of_cmp (o_eq h.hr) (s_rvar 0) (SE.rd s_int)) (x_cons (x_set (i := 2) h.nd rfl (by first | exact Or.inl rfl | exact Or.inr rfl) (s_mkXH (n := 1) (ks := []) (k := 4 * k) (ix := [0]) h.hr h.tk hE 0 (ka_1 (a_cons (s_var 1) a_nil) k_nil rfl (len_of (lw_cons lw_nil)))))
    (x_one (x_ret (s_tup (a_cons (s_var 2) (a_cons (s_xf hE.xa rfl (s_var 2)) a_nil)))))) x_nil)
    (x_cons (x_if (t_of_cmp (o_eq h.hr) (s_rvar 0) (SE.rd s_int)) (x_cons (x_set (i := 2) h.nd rfl (by first | exact Or.inl rfl | exact Or.inr rfl) (s_mkXH (n := 1) (ks := []) (k := 4 * k) (ix := [0]) h.hr h.tk hE 1 (ka_1 (a_cons (s_var 1) a_nil) k_nil rfl (len_of (lw_cons lw_nil)))))
    (x_one (x_ret (s_tup (a_cons (s_var 2) (a_cons (s_xf hE.xa rfl (s_var 2)) a_nil)))))) x_nil)
    (x_cons (x_if (t_of_cmp (o_eq h.hr) (s_rvar 0) (SE.rd s_int)) (x_cons (x_set (i := 2) h.nd rfl (by first | exact Or.inl rfl | exact Or.inr rfl) (s_mkXH (n := 1) (ks := []) (k := 4 * k) (ix := [0]) h.hr h.tk hE 2 (ka_1 (a_cons (s_var 1) a_nil) k_nil rfl (len_of (lw_cons lw_nil)))))
    (x_one (x_ret (s_tup (a_cons (s_var 2) (a_cons (s_xf hE.xa rfl (s_var 2)) a_nil)))))) x_nil)
    (x_cons (x_if (t_of_cmp (o_eq h.hr) (s_rvar 0) (SE.rd s_int)) (x_cons (x_set (i := 2) h.nd rfl (by first | exact Or.inl rfl | exact Or.inr rfl) (s_mkXH (n := 1) (ks := []) (k := 4 * k) (ix := [0]) h.hr h.tk hE 3 (ka_1 (a_cons (s_var 1) a_nil) k_nil rfl (len_of (lw_cons lw_nil)))))
    (x_one (x_ret (s_tup (a_cons (s_var 2) (a_cons (s_xf hE.xa rfl (s_var 2)) a_nil)))))) x_nil)
    (x_cons (x_if (t_of_cmp (o_eq h.hr) (s_rvar 0) (SE.rd s_int)) (x_cons (x_set (i := 2) h.nd rfl (by first | exact Or.inl rfl | exact Or.inr rfl) (s_mkXH (n := 1) (ks := []) (k := 4 * k) (ix := [0]) h.hr h.tk hE 4 (ka_1 (a_cons (s_var 1) a_nil) k_nil rfl (len_of (lw_cons lw_nil)))))
    (x_one (x_ret (s_tup (a_cons (s_var 2) (a_cons (s_xf hE.xa rfl (s_var 2)) a_nil)))))) x_nil)
    (x_cons (x_if (t_of_cmp (o_eq h.hr) (s_rvar 0) (SE.rd s_int)) (x_cons (x_set (i := 2) h.nd rfl (by first | exact Or.inl rfl | exact Or.inr rfl) (s_mkXH (n := 1) (ks := []) (k := 4 * k) (ix := [0]) h.hr h.tk hE 5 (ka_1 (a_cons (s_var 1) a_nil) k_nil rfl (len_of (lw_cons lw_nil)))))
    (x_one (x_ret (s_tup (a_cons (s_var 2) (a_cons (s_xf hE.xa rfl (s_var 2)) a_nil)))))) x_nil)
    (x_cons (x_set (i := 2) h.nd rfl (by first | exact Or.inl rfl | exact Or.inr rfl) (s_mkXH (n := 2) (ks := []) (k := 4 * k) (ix := [0, 1]) h.hr h.tk hE 6 (ka_1 (a_cons s_int (a_cons (s_var 1) a_nil)) k_nil rfl (len_of (lw_cons (lw_cons lw_nil))))))
    (x_one (x_ret (s_tup (a_cons (s_var 2) (a_cons (s_xf hE.xa rfl (s_var 2)) a_nil))))))))))))

abbrev st__law_classes : Stmt := (top 15)
abbrev N__law_classes : List Str := ["_law_made_here", "_law_found"]
theorem sc__law_classes : FnScope N__law_classes ["_law_made_here"] (defScope st__law_classes) := ⟨rfl, rfl, rfl, by decide +kernel, rfl, by decide +kernel, by decide +kernel⟩
noncomputable def b__law_classes (Γ : Gam) : Fs := (sSeq (sSet 1 (eL (nLst (aCons (eBlt (isxW Xx.xc Xx.kt) (aCons (rVar 0) (aCons (eC (.cls "InvalidTree")) aNil))) (aCons (eBlt (isxW Xx.xc Xx.kt) (aCons (rVar 0) (aCons (eC (.cls "InvalidMoment")) aNil))) (aCons (eBlt (isxW Xx.xc Xx.kt) (aCons (rVar 0) (aCons (eC (.cls "InvalidLimbs")) aNil))) aNil))))))
    (sSeq (sSet 1 (op2 addW (rVar 1) (eL (nLst (aCons (eBlt (isxW Xx.xc Xx.kt) (aCons (rVar 0) (aCons (eC (.cls "InvalidText")) aNil))) (aCons (eBlt (isxW Xx.xc Xx.kt) (aCons (rVar 0) (aCons (eC (.cls "Refused")) aNil))) (aCons (eBlt (isxW Xx.xc Xx.kt) (aCons (rVar 0) (aCons (eC (.cls "NoNode")) aNil))) aNil)))))))
    (sRet (op2 addW (rVar 1) (eL (nLst (aCons (eBlt (isxW Xx.xc Xx.kt) (aCons (rVar 0) (aCons (eC (.cls "Unanswered")) aNil))) (aCons (eBlt (isxW Xx.xc Xx.kt) (aCons (rVar 0) (aCons (eC (.cls "InvalidCommand")) aNil))) aNil))))))))
theorem d__law_classes {P : Program} {w : World} {K : PySem.W.Frag} {mg : Str → Option Value} {base : Heap} {cl : Str → Addr} {k : Nat} {Γ : Gam} {qual : Str} {f : Addr} {cdv : Value} {A : Around} {outer : List Env} {s : Shared} {H : Hp} {E : XK} {B : Bs} (hF : Fx K mg cl Tx) (hX : Ox K cl Tt) (h0InvalidCommand : X0 K mg cl "InvalidCommand") (hE : HyX P w K mg base cl Xx) (hH : Hy P w K mg base cl (4 * k) Tx Γ)
    (h : Ctx (cxOf (CX P w) P w K mg base N__law_classes qual (defScope st__law_classes) f cdv A outer s H E) (fun cls d _ H => E cls d H) (4 * k + 3)) : SXs ⟨K, cl⟩ (cxOf (CX P w) P w K mg base N__law_classes qual (defScope st__law_classes) f cdv A outer s H E) (fun cls d _ H => E cls d H) B (defBody st__law_classes) (b__law_classes Γ) :=
  (x_cons (x_set (i := 1) h.nd rfl (by first | exact Or.inl rfl | exact Or.inr rfl) (SN.se (n_lst (a_cons (s_isxH hF hE 12 (s_rvar 0) (SE.rd (s_clX hE 0))) (a_cons (s_isxH hF hE 12 (s_rvar 0) (SE.rd (s_clX hE 1))) (a_cons (s_isxH hF hE 12 (s_rvar 0) (SE.rd (s_clX hE 2))) a_nil))))))
    (x_cons (x_set (i := 1) h.nd rfl (by first | exact Or.inl rfl | exact Or.inr rfl) (s_bin o_add (s_rvar 1) (SE.rd (SN.se (n_lst (a_cons (s_isxH hF hE 12 (s_rvar 0) (SE.rd (s_clX hE 3))) (a_cons (s_isxH hF hE 12 (s_rvar 0) (SE.rd (s_clX hE 4))) (a_cons (s_isxH hF hE 12 (s_rvar 0) (SE.rd (s_clX hE 5))) a_nil))))))))
    (x_one (x_ret (s_bin o_add (s_rvar 1) (SE.rd (SN.se (n_lst (a_cons (s_isxH hF hE 12 (s_rvar 0) (SE.rd (s_clX hE 6))) (a_cons (s_isxH hF hE 12 (s_rvar 0) (SE.rd (s_clX hE 7))) a_nil))))))))))

abbrev st_law : Stmt := (top 16)
abbrev N_law : List Str := ["_law_script", "_law_deal_here", "_law_which", "_law_plain", "_law_both", "_law_held", "_law_thing", "_law_base", "_law_made_here", "_law_kept", "_law_at"]
theorem sc_law : FnScope N_law ["_law_script"] (defScope st_law) := ⟨rfl, rfl, rfl, by decide +kernel, rfl, by decide +kernel, by decide +kernel⟩
noncomputable def b_law (Γ : Gam) : Fs := (sSeq (sSet 1 (eCall 2 (Γ.f 0) [] (aCons (eVar 0) (aCons (eC (.int 0)) aNil))))
    (sSeq (sFor (iRng rng1 (aCons (eC (.int 7)) aNil)) (bName 2) (sSeq (sSet 5 (ePush (nLst (aCons (eC (.str "a")) (aCons (eCall 2 (Γ.f 1) [] (aCons (eVar 1) (aCons (eC (.int 9)) aNil))) aNil)))))
    (sSeq (sSet 6 (eCall 2 (Γ.f 2) [] (aCons (eVar 1) (aCons (eL (nLst (aCons (eC (.int 0)) (aCons (eC (.int 3)) (aCons (op2 subW (eC (.int 0)) (eC (.int 7))) (aCons (eC (.str "word")) (aCons (eC (.str "")) (aCons (eC .non) (aCons (eTup aNil) (aCons (eVar 5) (aCons (eVar 5) (aCons (eTup (aCons (eC (.str "a")) (aCons (eTup (aCons (eC (.int 2)) aNil)) aNil))) (aCons (eC (.bl true)) (aCons (op2 powW (eC (.int 10)) (eC (.int 20))) aNil)))))))))))))) aNil))))
    (sSeq (sUnp (bTup [(bName 8), (bName 9)]) (eCall 2 (Γ.f 3) [] (aCons (eVar 2) (aCons (eVar 6) aNil))))
    (sSeq (sIf (tOrr (tBl (op2 neW (eBlt reprW (aCons (rVar 9) aNil)) (eBlt reprW (aCons (rVar 6) aNil)))) (tBl (op2 neW (eCall 1 (Γ.f 4) [] (aCons (eVar 8) aNil)) (eL (nLc (iRng rng1 (aCons (eC (.int 8)) aNil)) [10] (bName 10) tYesM (op2 eqW (rVar 2) (rVar 10))))))) (sRet (eC (.bl false))) sNil)
    (sSeq (sExp (eMt appS (eVar 5) (aCons (eC (.str "later")) aNil)))
    (sSeq (sIf (tBl (op2 neW (eBlt reprW (aCons (rVar 9) aNil)) (eBlt reprW (aCons (rVar 6) aNil)))) (sRet (eC (.bl false))) sNil)
    (sSeq (sSetN 7 (nLst (aCons (eBlt (isxW Xx.xc Xx.kt) (aCons (rVar 8) (aCons (eC (.cls "TreeError")) aNil))) (aCons (eBlt (isxW Xx.xc Xx.kt) (aCons (rVar 8) (aCons (eC (.ty "ValueError")) aNil))) (aCons (eBlt (isxW Xx.xc Xx.kt) (aCons (rVar 8) (aCons (eC (.ty "IndexError")) aNil))) aNil)))))
    (sSeq (sApp 7 (eBlt (isxW Xx.xc Xx.kt) (aCons (rVar 8) (aCons (eC (.ty "LookupError")) aNil))))
    (sIf (tBl (op2 neW (rVar 7) (eL (nLst (aCons (op2 (cmpI fun i j => decide (i < j)) (rVar 2) (eC (.int 5))) (aCons (op2 (cmpI fun i j => decide (i < j)) (rVar 2) (eC (.int 5))) (aCons (op2 eqW (rVar 2) (eC (.int 5))) (aCons (op2 (cmpI fun i j => decide (j < i)) (rVar 2) (eC (.int 4))) aNil)))))))) (sRet (eC (.bl false))) sNil))))))))))
    (sSeq (sSet 3 (eC (.exc "InvalidCommand" [] [])))
    (sSeq (sIf (tOrr (tBl (op2 neW (eCall 1 (Γ.f 4) [] (aCons (eVar 3) aNil)) (eL (nLc (iRng rng1 (aCons (eC (.int 8)) aNil)) [10] (bName 10) tYesM (op2 eqW (rVar 10) (eC (.int 7))))))) (tNt (tTru (eBlt (isxW Xx.xc Xx.kt) (aCons (rVar 3) (aCons (eC (.cls "TreeError")) aNil)))))) (sRet (eC (.bl false))) sNil)
    (sSeq (sSet 4 (eMkX "Unanswered" ["at", "name"] 2 [0, 1] (aApp (aCons (eC (.int 2)) (aCons (eC (.str "q")) aNil)) aNil)))
    (sRet (op2 eqW (eTup (aCons (op1 (xfW Xx.xa "at") (eVar 4)) (aCons (op1 (xfW Xx.xa "name") (eVar 4)) aNil))) (eTup (aCons (eC (.int 2)) (aCons (eC (.str "q")) aNil))))))))))
theorem d_law {P : Program} {w : World} {K : PySem.W.Frag} {mg : Str → Option Value} {base : Heap} {cl : Str → Addr} {k : Nat} {Γ : Gam} {qual : Str} {f : Addr} {cdv : Value} {A : Around} {outer : List Env} {s : Shared} {H : Hp} {E : XK} {B : Bs} (hF : Fx K mg cl Tx) (hX : Ox K cl Tt) (h0InvalidCommand : X0 K mg cl "InvalidCommand") (hE : HyX P w K mg base cl Xx) (hH : Hy P w K mg base cl (4 * k) Tx Γ)
    (h : Ctx (cxOf (CX P w) P w K mg base N_law qual (defScope st_law) f cdv A outer s H E) (fun cls d _ H => E cls d H) (4 * k + 3)) : SXs ⟨K, cl⟩ (cxOf (CX P w) P w K mg base N_law qual (defScope st_law) f cdv A outer s H E) (fun cls d _ H => E cls d H) B (defBody st_law) (b_law Γ) :=
  (x_cons (x_set (i := 1) h.nd rfl (by first | exact Or.inl rfl | exact Or.inr rfl) (s_call (hH.fnAt 0) (h.hr.mono (by omega)) h.tk (a_cons (s_var 0) (a_cons s_int a_nil))))
    (x_cons (x_for h (i_range1 (a_cons s_int a_nil) (hF.nog.at 6)) (g_name h.nd rfl (by first | exact Or.inl rfl | exact Or.inr rfl)) (fun _ => (x_cons (x_set (i := 5) h.nd rfl (by first | exact Or.inl rfl | exact Or.inr rfl) (SN.push (n_lst (a_cons s_str (a_cons (s_call (hH.fnAt 1) (h.hr.mono (by omega)) h.tk (a_cons (s_var 1) (a_cons s_int a_nil))) a_nil)))))
    (x_cons (x_set (i := 6) h.nd rfl (by first | exact Or.inl rfl | exact Or.inr rfl) (s_call (hH.fnAt 2) (h.hr.mono (by omega)) h.tk (a_cons (s_var 1) (a_cons (SN.se (n_lst (a_cons s_int (a_cons s_int (a_cons (s_bin o_sub (SE.rd s_int) (SE.rd s_int)) (a_cons s_str (a_cons s_str (a_cons s_non (a_cons (s_tup a_nil) (a_cons (s_var 5) (a_cons (s_var 5) (a_cons (s_tup (a_cons s_str (a_cons (s_tup (a_cons s_int a_nil)) a_nil))) (a_cons s_bl (a_cons (s_bin o_pow (SE.rd s_int) (SE.rd s_int)) a_nil)))))))))))))) a_nil))))
    (x_cons (x_unp (s_call (hH.fnAt 3) (h.hr.mono (by omega)) h.tk (a_cons (s_var 2) (a_cons (s_var 6) a_nil))) (g_tup h.calm (gs_cons (g_name h.nd rfl (by first | exact Or.inl rfl | exact Or.inr rfl)) (gs_cons (g_name h.nd rfl (by first | exact Or.inl rfl | exact Or.inr rfl)) gs_nil))))
    (x_cons (x_if (PW.pt (t_or (t_of_cmp (o_ne h.hr) (SE.rd (s_repr hF h.hr 17 (s_rvar 9))) (SE.rd (s_repr hF h.hr 17 (s_rvar 6)))) (t_or1 (t_of_cmp (o_ne h.hr) (SE.rd (s_call (hH.fnAt 4) (h.hr.mono (by omega)) h.tk (a_cons (s_var 8) a_nil))) (SE.rd (SN.se (n_lc h (own := [("_law_at", 10)]) (i_range1 (a_cons s_int a_nil) (hF.nog.at 6)) (blkOk_by (N := N_law) (sc := defScope st_law) (by decide +kernel)) (by decide) (fun _ _ _ _ _ => (g_name h.nd rfl (by first | exact Or.inl rfl | exact Or.inr rfl))) (fun _ _ _ _ _ => ts_nil) (fun _ _ _ _ _ => (s_cmp (o_eq h.hr) (s_rvar 2) (s_rvar 10)))))))))) (x_one (x_ret s_bl)) x_nil)
    (x_cons (x_expr (s_append (s_var 5) (a_cons s_str a_nil)))
    (x_cons (x_if (t_of_cmp (o_ne h.hr) (SE.rd (s_repr hF h.hr 17 (s_rvar 9))) (SE.rd (s_repr hF h.hr 17 (s_rvar 6)))) (x_one (x_ret s_bl)) x_nil)
    (x_cons (x_setN (i := 7) h.nd rfl (by first | exact Or.inl rfl | exact Or.inr rfl) (n_lst (a_cons (s_isxH hF hE 12 (s_rvar 8) (SE.rd (s_clX hE 8))) (a_cons (s_isxH hF hE 12 (s_rvar 8) (SE.rd (s_ty (hF.nog.at 20) (by kernel_rfl)))) (a_cons (s_isxH hF hE 12 (s_rvar 8) (SE.rd (s_ty (hF.nog.at 21) (by kernel_rfl)))) a_nil)))))
    (x_cons (x_append (i := 7) (s_isxH hF hE 12 (s_rvar 8) (SE.rd (s_ty (hF.nog.at 22) (by kernel_rfl)))))
    (x_one (x_if (t_of_cmp (o_ne h.hr) (s_rvar 7) (SE.rd (SN.se (n_lst (a_cons (s_cmp o_lt (s_rvar 2) (SE.rd s_int)) (a_cons (s_cmp o_lt (s_rvar 2) (SE.rd s_int)) (a_cons (s_cmp (o_eq h.hr) (s_rvar 2) (SE.rd s_int)) (a_cons (s_cmp o_gt (s_rvar 2) (SE.rd s_int)) a_nil)))))))) (x_one (x_ret s_bl)) x_nil))))))))))))
    (x_cons (x_set (i := 3) h.nd rfl (by first | exact Or.inl rfl | exact Or.inr rfl) (s_mkX0H h0InvalidCommand))
    (x_cons (x_if (PW.pt (t_or (t_of_cmp (o_ne h.hr) (SE.rd (s_call (hH.fnAt 4) (h.hr.mono (by omega)) h.tk (a_cons (s_var 3) a_nil))) (SE.rd (SN.se (n_lc h (own := [("_law_at", 10)]) (i_range1 (a_cons s_int a_nil) (hF.nog.at 6)) (blkOk_by (N := N_law) (sc := defScope st_law) (by decide +kernel)) (by decide) (fun _ _ _ _ _ => (g_name h.nd rfl (by first | exact Or.inl rfl | exact Or.inr rfl))) (fun _ _ _ _ _ => ts_nil) (fun _ _ _ _ _ => (s_cmp (o_eq h.hr) (s_rvar 10) (SE.rd s_int))))))) (t_or1 (t_not (t_truth (SE.rd (s_isxH hF hE 12 (s_rvar 3) (SE.rd (s_clX hE 8))))))))) (x_one (x_ret s_bl)) x_nil)
    (x_cons (x_set (i := 4) h.nd rfl (by first | exact Or.inl rfl | exact Or.inr rfl) (s_mkXH (n := 2) (ks := []) (k := 4 * k) (ix := [0, 1]) h.hr h.tk hE 6 (ka_1 (a_cons s_int (a_cons s_str a_nil)) k_nil rfl (len_of (lw_cons (lw_cons lw_nil))))))
    (x_one (x_ret (s_cmp (o_eq h.hr) (SE.rd (s_tup (a_cons (s_xf hE.xa rfl (s_var 4)) (a_cons (s_xf hE.xa rfl (s_var 4)) a_nil)))) (SE.rd (s_tup (a_cons s_int (a_cons s_str a_nil))))))))))))

abbrev st_InvalidTree___init__ : Stmt := (inClass (top 2) 0)
abbrev N_InvalidTree___init__ : List Str := ["self", "word"]
theorem sc_InvalidTree___init__ : ScS N_InvalidTree___init__ ["self", "word"] (defScope st_InvalidTree___init__) := ⟨rfl, rfl, rfl, by decide +kernel, rfl, by decide +kernel, by decide +kernel, by decide +kernel⟩

abbrev st_InvalidMoment___init__ : Stmt := (inClass (top 3) 0)
abbrev N_InvalidMoment___init__ : List Str := ["self", "word"]
theorem sc_InvalidMoment___init__ : ScS N_InvalidMoment___init__ ["self", "word"] (defScope st_InvalidMoment___init__) := ⟨rfl, rfl, rfl, by decide +kernel, rfl, by decide +kernel, by decide +kernel, by decide +kernel⟩

abbrev st_InvalidLimbs___init__ : Stmt := (inClass (top 4) 0)
abbrev N_InvalidLimbs___init__ : List Str := ["self", "word"]
theorem sc_InvalidLimbs___init__ : ScS N_InvalidLimbs___init__ ["self", "word"] (defScope st_InvalidLimbs___init__) := ⟨rfl, rfl, rfl, by decide +kernel, rfl, by decide +kernel, by decide +kernel, by decide +kernel⟩

abbrev st_InvalidText___init__ : Stmt := (inClass (top 5) 0)
abbrev N_InvalidText___init__ : List Str := ["self", "at"]
theorem sc_InvalidText___init__ : ScS N_InvalidText___init__ ["self", "at"] (defScope st_InvalidText___init__) := ⟨rfl, rfl, rfl, by decide +kernel, rfl, by decide +kernel, by decide +kernel, by decide +kernel⟩

abbrev st_Refused___init__ : Stmt := (inClass (top 7) 0)
abbrev N_Refused___init__ : List Str := ["self", "at"]
theorem sc_Refused___init__ : ScS N_Refused___init__ ["self", "at"] (defScope st_Refused___init__) := ⟨rfl, rfl, rfl, by decide +kernel, rfl, by decide +kernel, by decide +kernel, by decide +kernel⟩

abbrev st_NoNode___init__ : Stmt := (inClass (top 8) 0)
abbrev N_NoNode___init__ : List Str := ["self", "at"]
theorem sc_NoNode___init__ : ScS N_NoNode___init__ ["self", "at"] (defScope st_NoNode___init__) := ⟨rfl, rfl, rfl, by decide +kernel, rfl, by decide +kernel, by decide +kernel, by decide +kernel⟩

abbrev st_Unanswered___init__ : Stmt := (inClass (top 9) 0)
abbrev N_Unanswered___init__ : List Str := ["self", "at", "name"]
theorem sc_Unanswered___init__ : ScS N_Unanswered___init__ ["self", "at", "name"] (defScope st_Unanswered___init__) := ⟨rfl, rfl, rfl, by decide +kernel, rfl, by decide +kernel, by decide +kernel, by decide +kernel⟩

noncomputable def Gs (Γ : Gam) : Gam where
  f := fun j => match j with
    | 0 => runB N__law_deal.length (b__law_deal Γ)
    | 1 => runB N__law_draw.length (b__law_draw Γ)
    | 2 => runB N__law_pick.length (b__law_pick Γ)
    | 3 => runB N__law_made.length (b__law_made Γ)
    | 4 => runB N__law_classes.length (b__law_classes Γ)
    | 5 => runB N_law.length (b_law Γ)
    | _ => fun _ => bad
  i := fun j => match j with
    | _ => fun _ _ => bad
  m := fun j => match j with
    | _ => fun _ _ => bad
noncomputable def Sv : Nat → Gam
  | 0 => ⟨fun _ _ => bad, fun _ _ _ => bad, fun _ _ _ => bad⟩
  | k + 1 => Gs (Sv k)
theorem Sf__law_deal (k : Nat) : (Sv (k + 1)).f 0 = runB N__law_deal.length (b__law_deal (Sv k)) := rfl
theorem Sf__law_draw (k : Nat) : (Sv (k + 1)).f 1 = runB N__law_draw.length (b__law_draw (Sv k)) := rfl
theorem Sf__law_pick (k : Nat) : (Sv (k + 1)).f 2 = runB N__law_pick.length (b__law_pick (Sv k)) := rfl
theorem Sf__law_made (k : Nat) : (Sv (k + 1)).f 3 = runB N__law_made.length (b__law_made (Sv k)) := rfl
theorem Sf__law_classes (k : Nat) : (Sv (k + 1)).f 4 = runB N__law_classes.length (b__law_classes (Sv k)) := rfl
theorem Sf_law (k : Nat) : (Sv (k + 1)).f 5 = runB N_law.length (b_law (Sv k)) := rfl

end Sm

namespace Sm
open PySem PySem.Spec PyProof.Rows L2
def etB (_ : PySem.W.Frag) : Bool := true
structure Oks (P : Program) (w : World) (K : PySem.W.Frag) (mg : Str → Option Value) (base : Heap) (k : Nat) (Γ : Gam) : Prop where
  o0 : ∀ fd, FunD K "_law_deal" "_law_deal" (defArgs st__law_deal) (defBody st__law_deal) (defScope st__law_deal) ([]) [] (He.fAd K ("_law_deal", none)) fd → FnOk P w K mg base (CX P w) k (He.fAd K ("_law_deal", none)) fd ["_law_script", "_law_base"] (spF ⟨K, He.ga K⟩ 2 (Γ.f 0))
  o1 : ∀ fd, FunD K "_law_draw" "_law_draw" (defArgs st__law_draw) (defBody st__law_draw) (defScope st__law_draw) ([]) [] (He.fAd K ("_law_draw", none)) fd → FnOk P w K mg base (CX P w) k (He.fAd K ("_law_draw", none)) fd ["_law_deal_here", "_law_many"] (spF ⟨K, He.ga K⟩ 2 (Γ.f 1))
  o2 : ∀ fd, FunD K "_law_pick" "_law_pick" (defArgs st__law_pick) (defBody st__law_pick) (defScope st__law_pick) ([]) [] (He.fAd K ("_law_pick", none)) fd → FnOk P w K mg base (CX P w) k (He.fAd K ("_law_pick", none)) fd ["_law_deal_here", "_law_some"] (spF ⟨K, He.ga K⟩ 2 (Γ.f 2))
  o3 : ∀ fd, FunD K "_law_made" "_law_made" (defArgs st__law_made) (defBody st__law_made) (defScope st__law_made) ([]) [] (He.fAd K ("_law_made", none)) fd → FnOk P w K mg base (CX P w) k (He.fAd K ("_law_made", none)) fd ["_law_which", "_law_thing"] (spF ⟨K, He.ga K⟩ 2 (Γ.f 3))
  o4 : ∀ fd, FunD K "_law_classes" "_law_classes" (defArgs st__law_classes) (defBody st__law_classes) (defScope st__law_classes) ([]) [] (He.fAd K ("_law_classes", none)) fd → FnOk P w K mg base (CX P w) k (He.fAd K ("_law_classes", none)) fd ["_law_made_here"] (spF ⟨K, He.ga K⟩ 1 (Γ.f 4))
  o5 : ∀ fd, FunD K "law" "law" (defArgs st_law) (defBody st_law) (defScope st_law) ([]) [] (He.fAd K ("law", none)) fd → FnOk P w K mg base (CX P w) k (He.fAd K ("law", none)) fd ["_law_script"] (spF ⟨K, He.ga K⟩ 1 (Γ.f 5))
theorem oks0 {P : Program} {w : World} {K : PySem.W.Frag} {mg : Str → Option Value} {base : Heap} {k : Nat} : Oks P w K mg base k (Sv 0) := ⟨fun _ _ => fnOk_bad, fun _ _ => fnOk_bad, fun _ _ => fnOk_bad, fun _ _ => fnOk_bad, fun _ _ => fnOk_bad, fun _ _ => fnOk_bad⟩
theorem oksS {P : Program} {w : World} {K : PySem.W.Frag} {mg : Str → Option Value} {base : Heap} {k : Nat} {Γ : Gam} (hF : Fx K mg (He.ga K) Tx) (hX : Ox K (He.ga K) Tt) (h0InvalidCommand : X0 K mg (He.ga K) "InvalidCommand") (hE : HyX P w K mg base (He.ga K) Xx) (hH : Hy P w K mg base (He.ga K) (4 * k) Tx Γ) : Oks P w K mg base (4 * k + 3 + 1) (Gs Γ) :=
  ⟨fun fd Fd => fn_ok Fd sc__law_deal fun cdv A outer s H E B h => d__law_deal hF hX h0InvalidCommand hE hH h,
    fun fd Fd => fn_ok Fd sc__law_draw fun cdv A outer s H E B h => d__law_draw hF hX h0InvalidCommand hE hH h,
    fun fd Fd => fn_ok Fd sc__law_pick fun cdv A outer s H E B h => d__law_pick hF hX h0InvalidCommand hE hH h,
    fun fd Fd => fn_ok Fd sc__law_made fun cdv A outer s H E B h => d__law_made hF hX h0InvalidCommand hE hH h,
    fun fd Fd => fn_ok Fd sc__law_classes fun cdv A outer s H E B h => d__law_classes hF hX h0InvalidCommand hE hH h,
    fun fd Fd => fn_ok Fd sc_law fun cdv A outer s H E B h => d_law hF hX h0InvalidCommand hE hH h⟩
def ds : List DefU := [⟨("_law_deal", none), "_law_deal", "_law_deal", defArgs st__law_deal, defBody st__law_deal, defScope st__law_deal, false⟩, ⟨("_law_draw", none), "_law_draw", "_law_draw", defArgs st__law_draw, defBody st__law_draw, defScope st__law_draw, false⟩, ⟨("_law_pick", none), "_law_pick", "_law_pick", defArgs st__law_pick, defBody st__law_pick, defScope st__law_pick, false⟩, ⟨("_law_made", none), "_law_made", "_law_made", defArgs st__law_made, defBody st__law_made, defScope st__law_made, false⟩, ⟨("_law_classes", none), "_law_classes", "_law_classes", defArgs st__law_classes, defBody st__law_classes, defScope st__law_classes, false⟩, ⟨("law", none), "law", "law", defArgs st_law, defBody st_law, defScope st_law, false⟩, ⟨("InvalidTree", some "__init__"), "__init__", "InvalidTree.__init__", defArgs st_InvalidTree___init__, defBody st_InvalidTree___init__, defScope st_InvalidTree___init__, false⟩, ⟨("InvalidMoment", some "__init__"), "__init__", "InvalidMoment.__init__", defArgs st_InvalidMoment___init__, defBody st_InvalidMoment___init__, defScope st_InvalidMoment___init__, false⟩, ⟨("InvalidLimbs", some "__init__"), "__init__", "InvalidLimbs.__init__", defArgs st_InvalidLimbs___init__, defBody st_InvalidLimbs___init__, defScope st_InvalidLimbs___init__, false⟩, ⟨("InvalidText", some "__init__"), "__init__", "InvalidText.__init__", defArgs st_InvalidText___init__, defBody st_InvalidText___init__, defScope st_InvalidText___init__, false⟩, ⟨("Refused", some "__init__"), "__init__", "Refused.__init__", defArgs st_Refused___init__, defBody st_Refused___init__, defScope st_Refused___init__, false⟩, ⟨("NoNode", some "__init__"), "__init__", "NoNode.__init__", defArgs st_NoNode___init__, defBody st_NoNode___init__, defScope st_NoNode___init__, false⟩, ⟨("Unanswered", some "__init__"), "__init__", "Unanswered.__init__", defArgs st_Unanswered___init__, defBody st_Unanswered___init__, defScope st_Unanswered___init__, false⟩]
def fileK : Str := PySem.Challenge.pw_deedtrees_k01_errors_and_what_they_keep.main.file
def Bdd (K : PySem.W.Frag) : List Bool := [defB K ("_law_deal", none) "_law_deal" ([]), defB K ("_law_draw", none) "_law_draw" ([]), defB K ("_law_pick", none) "_law_pick" ([]), defB K ("_law_made", none) "_law_made" ([]), defB K ("_law_classes", none) "_law_classes" ([]), defB K ("law", none) "law" ([]), supB K fileK "InvalidTree" ("InvalidTree", some "__init__") "InvalidTree.__init__" ([]), supB K fileK "InvalidMoment" ("InvalidMoment", some "__init__") "InvalidMoment.__init__" ([]), supB K fileK "InvalidLimbs" ("InvalidLimbs", some "__init__") "InvalidLimbs.__init__" ([]), supB K fileK "InvalidText" ("InvalidText", some "__init__") "InvalidText.__init__" ([]), supB K fileK "Refused" ("Refused", some "__init__") "Refused.__init__" ([]), supB K fileK "NoNode" ("NoNode", some "__init__") "NoNode.__init__" ([]), supB K fileK "Unanswered" ("Unanswered", some "__init__") "Unanswered.__init__" ([])]
def mrow (K : PySem.W.Frag) (p : Str × Str × Str) : Bool := (He.Fa.meth p.1 p.2.1).ok K && decide (He.ma K (He.ga K p.1) p.2.1 = He.ma K (He.ga K p.2.2) p.2.1)
def Tmt : List (Str × Str × Str) := []
def Tf : List Str := ["_law_deal", "_law_draw", "_law_pick", "_law_made", "_law_classes", "law"]
def Ti : List Str := []
def Bk (K : PySem.W.Frag) : Bool := FxB K Tx && (OxB K Tt && ((Bdd K).all id && ((Tmt.all (mrow K)) && ((Ti.all fun C => (He.Fa.mkr C).ok K) && ((Tf.all fun x => (He.Fa.glo x).ok K) && (noLst K && (true && etB K && x0B K "InvalidCommand" && XtB K Xx)))))))
abbrev Rw : PySem.W.OpenRow := PySem.W.OpenLaw.row PySem.Challenge.rw_deedtrees_k01_errors_and_what_they_keep
theorem Bk_of {K : PySem.W.Frag} (h : Bk K = true) : FxB K Tx = true ∧ OxB K Tt = true ∧ (Bdd K).all id = true ∧ Tmt.all (mrow K) = true ∧ (Ti.all fun C => (He.Fa.mkr C).ok K) = true ∧ (Tf.all fun x => (He.Fa.glo x).ok K) = true ∧ noLst K = true ∧ (true && etB K && x0B K "InvalidCommand" && XtB K Xx) = true := by
  unfold Bk at h
  simp only [Bool.and_eq_true] at h ⊢
  obtain ⟨h1, h2, h3, h4, h5, h6, h7, h8⟩ := h
  exact ⟨h1, h2, h3, h4, h5, h6, h7, h8⟩
theorem bdAt {K : PySem.W.Frag} (c : SaysU Bk ds K) (i : Nat) {z : Bool} (e : (Bdd K)[i]? = some z) : z = true := List.all_eq_true.mp (Bk_of c.b).2.2.1 z (List.mem_of_getElem? e)
theorem rf0 {P : Program} {w : World} {K : PySem.W.Frag} {mg : Str → Option Value} {base : Heap} {k : Nat} {Γ : Gam} {h : Heap} (hf : (P.main.file : Str) = fileK) (c : SaysU Bk ds K) (X : K.In h) (G : h.Ns mainGlobals mg) (o : Oks P w K mg base k Γ) : Cal P w K mg base (He.ga K) k "_law_deal" 2 [] (Γ.f 0) := by
  have b := Bk_of c.b
  have bd : ∀ (i : Nat) {z : Bool}, (Bdd K)[i]? = some z → z = true := fun i z e => List.all_eq_true.mp b.2.2.1 z (List.mem_of_getElem? e)
  obtain ⟨fd0, Fd⟩ := funD_of (d := ⟨("_law_deal", none), "_law_deal", "_law_deal", defArgs st__law_deal, defBody st__law_deal, defScope st__law_deal, false⟩) (c.d 0) (bd 0 (by rfl))
  exact cal_mk Fd (o.o0 _ Fd) (He.glo_ok X G (List.all_eq_true.mp b.2.2.2.2.2.1 "_law_deal" (by decide))) (Fd.bindsN fun _ _ _ _ _ _ us hl => by match us, hl with | [_, _], _ => rfl) .nil fun _ _ => RWs.nil

theorem rf1 {P : Program} {w : World} {K : PySem.W.Frag} {mg : Str → Option Value} {base : Heap} {k : Nat} {Γ : Gam} {h : Heap} (hf : (P.main.file : Str) = fileK) (c : SaysU Bk ds K) (X : K.In h) (G : h.Ns mainGlobals mg) (o : Oks P w K mg base k Γ) : Cal P w K mg base (He.ga K) k "_law_draw" 2 [] (Γ.f 1) := by
  have b := Bk_of c.b
  have bd : ∀ (i : Nat) {z : Bool}, (Bdd K)[i]? = some z → z = true := fun i z e => List.all_eq_true.mp b.2.2.1 z (List.mem_of_getElem? e)
  obtain ⟨fd1, Fd⟩ := funD_of (d := ⟨("_law_draw", none), "_law_draw", "_law_draw", defArgs st__law_draw, defBody st__law_draw, defScope st__law_draw, false⟩) (c.d 1) (bd 1 (by rfl))
  exact cal_mk Fd (o.o1 _ Fd) (He.glo_ok X G (List.all_eq_true.mp b.2.2.2.2.2.1 "_law_draw" (by decide))) (Fd.bindsN fun _ _ _ _ _ _ us hl => by match us, hl with | [_, _], _ => rfl) .nil fun _ _ => RWs.nil

theorem rf2 {P : Program} {w : World} {K : PySem.W.Frag} {mg : Str → Option Value} {base : Heap} {k : Nat} {Γ : Gam} {h : Heap} (hf : (P.main.file : Str) = fileK) (c : SaysU Bk ds K) (X : K.In h) (G : h.Ns mainGlobals mg) (o : Oks P w K mg base k Γ) : Cal P w K mg base (He.ga K) k "_law_pick" 2 [] (Γ.f 2) := by
  have b := Bk_of c.b
  have bd : ∀ (i : Nat) {z : Bool}, (Bdd K)[i]? = some z → z = true := fun i z e => List.all_eq_true.mp b.2.2.1 z (List.mem_of_getElem? e)
  obtain ⟨fd2, Fd⟩ := funD_of (d := ⟨("_law_pick", none), "_law_pick", "_law_pick", defArgs st__law_pick, defBody st__law_pick, defScope st__law_pick, false⟩) (c.d 2) (bd 2 (by rfl))
  exact cal_mk Fd (o.o2 _ Fd) (He.glo_ok X G (List.all_eq_true.mp b.2.2.2.2.2.1 "_law_pick" (by decide))) (Fd.bindsN fun _ _ _ _ _ _ us hl => by match us, hl with | [_, _], _ => rfl) .nil fun _ _ => RWs.nil

theorem rf3 {P : Program} {w : World} {K : PySem.W.Frag} {mg : Str → Option Value} {base : Heap} {k : Nat} {Γ : Gam} {h : Heap} (hf : (P.main.file : Str) = fileK) (c : SaysU Bk ds K) (X : K.In h) (G : h.Ns mainGlobals mg) (o : Oks P w K mg base k Γ) : Cal P w K mg base (He.ga K) k "_law_made" 2 [] (Γ.f 3) := by
  have b := Bk_of c.b
  have bd : ∀ (i : Nat) {z : Bool}, (Bdd K)[i]? = some z → z = true := fun i z e => List.all_eq_true.mp b.2.2.1 z (List.mem_of_getElem? e)
  obtain ⟨fd3, Fd⟩ := funD_of (d := ⟨("_law_made", none), "_law_made", "_law_made", defArgs st__law_made, defBody st__law_made, defScope st__law_made, false⟩) (c.d 3) (bd 3 (by rfl))
  exact cal_mk Fd (o.o3 _ Fd) (He.glo_ok X G (List.all_eq_true.mp b.2.2.2.2.2.1 "_law_made" (by decide))) (Fd.bindsN fun _ _ _ _ _ _ us hl => by match us, hl with | [_, _], _ => rfl) .nil fun _ _ => RWs.nil

theorem rf4 {P : Program} {w : World} {K : PySem.W.Frag} {mg : Str → Option Value} {base : Heap} {k : Nat} {Γ : Gam} {h : Heap} (hf : (P.main.file : Str) = fileK) (c : SaysU Bk ds K) (X : K.In h) (G : h.Ns mainGlobals mg) (o : Oks P w K mg base k Γ) : Cal P w K mg base (He.ga K) k "_law_classes" 1 [] (Γ.f 4) := by
  have b := Bk_of c.b
  have bd : ∀ (i : Nat) {z : Bool}, (Bdd K)[i]? = some z → z = true := fun i z e => List.all_eq_true.mp b.2.2.1 z (List.mem_of_getElem? e)
  obtain ⟨fd4, Fd⟩ := funD_of (d := ⟨("_law_classes", none), "_law_classes", "_law_classes", defArgs st__law_classes, defBody st__law_classes, defScope st__law_classes, false⟩) (c.d 4) (bd 4 (by rfl))
  exact cal_mk Fd (o.o4 _ Fd) (He.glo_ok X G (List.all_eq_true.mp b.2.2.2.2.2.1 "_law_classes" (by decide))) (Fd.bindsN fun _ _ _ _ _ _ us hl => by match us, hl with | [_], _ => rfl) .nil fun _ _ => RWs.nil

theorem rf5 {P : Program} {w : World} {K : PySem.W.Frag} {mg : Str → Option Value} {base : Heap} {k : Nat} {Γ : Gam} {h : Heap} (hf : (P.main.file : Str) = fileK) (c : SaysU Bk ds K) (X : K.In h) (G : h.Ns mainGlobals mg) (o : Oks P w K mg base k Γ) : Cal P w K mg base (He.ga K) k "law" 1 [] (Γ.f 5) := by
  have b := Bk_of c.b
  have bd : ∀ (i : Nat) {z : Bool}, (Bdd K)[i]? = some z → z = true := fun i z e => List.all_eq_true.mp b.2.2.1 z (List.mem_of_getElem? e)
  obtain ⟨fd5, Fd⟩ := funD_of (d := ⟨("law", none), "law", "law", defArgs st_law, defBody st_law, defScope st_law, false⟩) (c.d 5) (bd 5 (by rfl))
  exact cal_mk Fd (o.o5 _ Fd) (He.glo_ok X G (List.all_eq_true.mp b.2.2.2.2.2.1 "law" (by decide))) (Fd.bindsN fun _ _ _ _ _ _ us hl => by match us, hl with | [_], _ => rfl) .nil fun _ _ => RWs.nil

theorem allC {α : Type} {P : α → Prop} {a : α} {l : List α} (h : P a) (t : ∀ p ∈ l, P p) : ∀ p ∈ a :: l, P p := fun p hp => by
  rcases List.mem_cons.mp hp with e | hp
  · rw [e]
    exact h
  · exact t p hp
theorem hy_of {P : Program} {w : World} {K : PySem.W.Frag} {mg : Str → Option Value} {base : Heap} {k : Nat} {Γ : Gam} {h : Heap} (hf : (P.main.file : Str) = fileK) (c : SaysU Bk ds K) (X : K.In h) (G : h.Ns mainGlobals mg) (o : Oks P w K mg base k Γ) : Hy P w K mg base (He.ga K) k Tx Γ :=
  ⟨(allC (rf0 hf c X G o) (allC (rf1 hf c X G o) (allC (rf2 hf c X G o) (allC (rf3 hf c X G o) (allC (rf4 hf c X G o) (allC (rf5 hf c X G o) (by intro p hp; cases hp))))))), (by intro p hp; cases hp), (by intro p hp; cases hp), (by intro p hp; cases hp), (by intro p hp; cases hp), (by intro p hp; cases hp), (by intro p hp; cases hp)⟩
theorem rx_InvalidTree {P : Program} {w : World} {K : PySem.W.Frag} {mg : Str → Option Value} {base : Heap} (hf : (P.main.file : Str) = fileK) (top : (P.main.scope.names.lookup ("super" : Str)).isSome = false) (hm : mg "super" = none) (c : SaysU Bk ds K) (r : XRow K mg "InvalidTree" .ve ["word"]) (j : Nat) : CalX P w K mg base (He.ga K) (j + 1) "InvalidTree" ["word"] := by
  have b := Bk_of c.b
  have bd : ∀ (i : Nat) {z : Bool}, (Bdd K)[i]? = some z → z = true := fun i z e => List.all_eq_true.mp b.2.2.1 z (List.mem_of_getElem? e)
  obtain ⟨fd, cc, cda, Fs, hD⟩ := funS_of (P := P) (d := ⟨("InvalidTree", some "__init__"), "__init__", "InvalidTree.__init__", defArgs st_InvalidTree___init__, defBody st_InvalidTree___init__, defScope st_InvalidTree___init__, false⟩) hf (c.d 6) (bd 6 (by rfl))
  exact calX_of r (xinit_ok Fs sc_InvalidTree___init__ rfl (fun A outer s H E => pas_cons (a_superX Fs r.c r.s r.m top hm (pa_cons (pe_var (i := 1) rfl (Or.inl rfl)) pa_nil) rfl rfl rfl rfl rfl) (pas_of (pss_one (ps_xst r.c (pe_var (i := 0) rfl (Or.inl rfl)) (pe_var (i := 1) rfl (Or.inl rfl)))))) (xb1 (r.f "word" (by simp)))) (Fs.bindsN hD fun _ _ _ _ _ us hl => by match us, hl with | [_, _], _ => rfl) (kbs1 (kb0S (ps := ["self", "word"]) Fs hD fun _ _ _ _ _ us hl => by match us, hl with | [_, _], _ => rfl) (kb0S (ps := ["self", "word"]) Fs hD fun _ _ _ _ _ us hl => by match us, hl with | [_, _], _ => rfl))

theorem rx_InvalidMoment {P : Program} {w : World} {K : PySem.W.Frag} {mg : Str → Option Value} {base : Heap} (hf : (P.main.file : Str) = fileK) (top : (P.main.scope.names.lookup ("super" : Str)).isSome = false) (hm : mg "super" = none) (c : SaysU Bk ds K) (r : XRow K mg "InvalidMoment" .ve ["word"]) (j : Nat) : CalX P w K mg base (He.ga K) (j + 1) "InvalidMoment" ["word"] := by
  have b := Bk_of c.b
  have bd : ∀ (i : Nat) {z : Bool}, (Bdd K)[i]? = some z → z = true := fun i z e => List.all_eq_true.mp b.2.2.1 z (List.mem_of_getElem? e)
  obtain ⟨fd, cc, cda, Fs, hD⟩ := funS_of (P := P) (d := ⟨("InvalidMoment", some "__init__"), "__init__", "InvalidMoment.__init__", defArgs st_InvalidMoment___init__, defBody st_InvalidMoment___init__, defScope st_InvalidMoment___init__, false⟩) hf (c.d 7) (bd 7 (by rfl))
  exact calX_of r (xinit_ok Fs sc_InvalidMoment___init__ rfl (fun A outer s H E => pas_cons (a_superX Fs r.c r.s r.m top hm (pa_cons (pe_var (i := 1) rfl (Or.inl rfl)) pa_nil) rfl rfl rfl rfl rfl) (pas_of (pss_one (ps_xst r.c (pe_var (i := 0) rfl (Or.inl rfl)) (pe_var (i := 1) rfl (Or.inl rfl)))))) (xb1 (r.f "word" (by simp)))) (Fs.bindsN hD fun _ _ _ _ _ us hl => by match us, hl with | [_, _], _ => rfl) (kbs1 (kb0S (ps := ["self", "word"]) Fs hD fun _ _ _ _ _ us hl => by match us, hl with | [_, _], _ => rfl) (kb0S (ps := ["self", "word"]) Fs hD fun _ _ _ _ _ us hl => by match us, hl with | [_, _], _ => rfl))

theorem rx_InvalidLimbs {P : Program} {w : World} {K : PySem.W.Frag} {mg : Str → Option Value} {base : Heap} (hf : (P.main.file : Str) = fileK) (top : (P.main.scope.names.lookup ("super" : Str)).isSome = false) (hm : mg "super" = none) (c : SaysU Bk ds K) (r : XRow K mg "InvalidLimbs" .ve ["word"]) (j : Nat) : CalX P w K mg base (He.ga K) (j + 1) "InvalidLimbs" ["word"] := by
  have b := Bk_of c.b
  have bd : ∀ (i : Nat) {z : Bool}, (Bdd K)[i]? = some z → z = true := fun i z e => List.all_eq_true.mp b.2.2.1 z (List.mem_of_getElem? e)
  obtain ⟨fd, cc, cda, Fs, hD⟩ := funS_of (P := P) (d := ⟨("InvalidLimbs", some "__init__"), "__init__", "InvalidLimbs.__init__", defArgs st_InvalidLimbs___init__, defBody st_InvalidLimbs___init__, defScope st_InvalidLimbs___init__, false⟩) hf (c.d 8) (bd 8 (by rfl))
  exact calX_of r (xinit_ok Fs sc_InvalidLimbs___init__ rfl (fun A outer s H E => pas_cons (a_superX Fs r.c r.s r.m top hm (pa_cons (pe_var (i := 1) rfl (Or.inl rfl)) pa_nil) rfl rfl rfl rfl rfl) (pas_of (pss_one (ps_xst r.c (pe_var (i := 0) rfl (Or.inl rfl)) (pe_var (i := 1) rfl (Or.inl rfl)))))) (xb1 (r.f "word" (by simp)))) (Fs.bindsN hD fun _ _ _ _ _ us hl => by match us, hl with | [_, _], _ => rfl) (kbs1 (kb0S (ps := ["self", "word"]) Fs hD fun _ _ _ _ _ us hl => by match us, hl with | [_, _], _ => rfl) (kb0S (ps := ["self", "word"]) Fs hD fun _ _ _ _ _ us hl => by match us, hl with | [_, _], _ => rfl))

theorem rx_InvalidText {P : Program} {w : World} {K : PySem.W.Frag} {mg : Str → Option Value} {base : Heap} (hf : (P.main.file : Str) = fileK) (top : (P.main.scope.names.lookup ("super" : Str)).isSome = false) (hm : mg "super" = none) (c : SaysU Bk ds K) (r : XRow K mg "InvalidText" .ve ["at"]) (j : Nat) : CalX P w K mg base (He.ga K) (j + 1) "InvalidText" ["at"] := by
  have b := Bk_of c.b
  have bd : ∀ (i : Nat) {z : Bool}, (Bdd K)[i]? = some z → z = true := fun i z e => List.all_eq_true.mp b.2.2.1 z (List.mem_of_getElem? e)
  obtain ⟨fd, cc, cda, Fs, hD⟩ := funS_of (P := P) (d := ⟨("InvalidText", some "__init__"), "__init__", "InvalidText.__init__", defArgs st_InvalidText___init__, defBody st_InvalidText___init__, defScope st_InvalidText___init__, false⟩) hf (c.d 9) (bd 9 (by rfl))
  exact calX_of r (xinit_ok Fs sc_InvalidText___init__ rfl (fun A outer s H E => pas_cons (a_superX Fs r.c r.s r.m top hm (pa_cons (pe_var (i := 1) rfl (Or.inl rfl)) pa_nil) rfl rfl rfl rfl rfl) (pas_of (pss_one (ps_xst r.c (pe_var (i := 0) rfl (Or.inl rfl)) (pe_var (i := 1) rfl (Or.inl rfl)))))) (xb1 (r.f "at" (by simp)))) (Fs.bindsN hD fun _ _ _ _ _ us hl => by match us, hl with | [_, _], _ => rfl) (kbs1 (kb0S (ps := ["self", "at"]) Fs hD fun _ _ _ _ _ us hl => by match us, hl with | [_, _], _ => rfl) (kb0S (ps := ["self", "at"]) Fs hD fun _ _ _ _ _ us hl => by match us, hl with | [_, _], _ => rfl))

theorem rx_Refused {P : Program} {w : World} {K : PySem.W.Frag} {mg : Str → Option Value} {base : Heap} (hf : (P.main.file : Str) = fileK) (top : (P.main.scope.names.lookup ("super" : Str)).isSome = false) (hm : mg "super" = none) (c : SaysU Bk ds K) (r : XRow K mg "Refused" .ve ["at"]) (j : Nat) : CalX P w K mg base (He.ga K) (j + 1) "Refused" ["at"] := by
  have b := Bk_of c.b
  have bd : ∀ (i : Nat) {z : Bool}, (Bdd K)[i]? = some z → z = true := fun i z e => List.all_eq_true.mp b.2.2.1 z (List.mem_of_getElem? e)
  obtain ⟨fd, cc, cda, Fs, hD⟩ := funS_of (P := P) (d := ⟨("Refused", some "__init__"), "__init__", "Refused.__init__", defArgs st_Refused___init__, defBody st_Refused___init__, defScope st_Refused___init__, false⟩) hf (c.d 10) (bd 10 (by rfl))
  exact calX_of r (xinit_ok Fs sc_Refused___init__ rfl (fun A outer s H E => pas_cons (a_superX Fs r.c r.s r.m top hm (pa_cons (pe_var (i := 1) rfl (Or.inl rfl)) pa_nil) rfl rfl rfl rfl rfl) (pas_of (pss_one (ps_xst r.c (pe_var (i := 0) rfl (Or.inl rfl)) (pe_var (i := 1) rfl (Or.inl rfl)))))) (xb1 (r.f "at" (by simp)))) (Fs.bindsN hD fun _ _ _ _ _ us hl => by match us, hl with | [_, _], _ => rfl) (kbs1 (kb0S (ps := ["self", "at"]) Fs hD fun _ _ _ _ _ us hl => by match us, hl with | [_, _], _ => rfl) (kb0S (ps := ["self", "at"]) Fs hD fun _ _ _ _ _ us hl => by match us, hl with | [_, _], _ => rfl))

theorem rx_NoNode {P : Program} {w : World} {K : PySem.W.Frag} {mg : Str → Option Value} {base : Heap} (hf : (P.main.file : Str) = fileK) (top : (P.main.scope.names.lookup ("super" : Str)).isSome = false) (hm : mg "super" = none) (c : SaysU Bk ds K) (r : XRow K mg "NoNode" .ie ["at"]) (j : Nat) : CalX P w K mg base (He.ga K) (j + 1) "NoNode" ["at"] := by
  have b := Bk_of c.b
  have bd : ∀ (i : Nat) {z : Bool}, (Bdd K)[i]? = some z → z = true := fun i z e => List.all_eq_true.mp b.2.2.1 z (List.mem_of_getElem? e)
  obtain ⟨fd, cc, cda, Fs, hD⟩ := funS_of (P := P) (d := ⟨("NoNode", some "__init__"), "__init__", "NoNode.__init__", defArgs st_NoNode___init__, defBody st_NoNode___init__, defScope st_NoNode___init__, false⟩) hf (c.d 11) (bd 11 (by rfl))
  exact calX_of r (xinit_ok Fs sc_NoNode___init__ rfl (fun A outer s H E => pas_cons (a_superX Fs r.c r.s r.m top hm (pa_cons (pe_var (i := 1) rfl (Or.inl rfl)) pa_nil) rfl rfl rfl rfl rfl) (pas_of (pss_one (ps_xst r.c (pe_var (i := 0) rfl (Or.inl rfl)) (pe_var (i := 1) rfl (Or.inl rfl)))))) (xb1 (r.f "at" (by simp)))) (Fs.bindsN hD fun _ _ _ _ _ us hl => by match us, hl with | [_, _], _ => rfl) (kbs1 (kb0S (ps := ["self", "at"]) Fs hD fun _ _ _ _ _ us hl => by match us, hl with | [_, _], _ => rfl) (kb0S (ps := ["self", "at"]) Fs hD fun _ _ _ _ _ us hl => by match us, hl with | [_, _], _ => rfl))

theorem rx_Unanswered {P : Program} {w : World} {K : PySem.W.Frag} {mg : Str → Option Value} {base : Heap} (hf : (P.main.file : Str) = fileK) (top : (P.main.scope.names.lookup ("super" : Str)).isSome = false) (hm : mg "super" = none) (c : SaysU Bk ds K) (r : XRow K mg "Unanswered" .le ["at", "name"]) (j : Nat) : CalX P w K mg base (He.ga K) (j + 1) "Unanswered" ["at", "name"] := by
  have b := Bk_of c.b
  have bd : ∀ (i : Nat) {z : Bool}, (Bdd K)[i]? = some z → z = true := fun i z e => List.all_eq_true.mp b.2.2.1 z (List.mem_of_getElem? e)
  obtain ⟨fd, cc, cda, Fs, hD⟩ := funS_of (P := P) (d := ⟨("Unanswered", some "__init__"), "__init__", "Unanswered.__init__", defArgs st_Unanswered___init__, defBody st_Unanswered___init__, defScope st_Unanswered___init__, false⟩) hf (c.d 12) (bd 12 (by rfl))
  exact calX_of r (xinit_ok Fs sc_Unanswered___init__ rfl (fun A outer s H E => pas_cons (a_superX Fs r.c r.s r.m top hm (pa_cons (pe_var (i := 1) (x := "at") rfl (Or.inl rfl)) (pa_cons (pe_var (i := 2) (x := "name") rfl (Or.inl rfl)) pa_nil)) rfl rfl rfl rfl rfl) (pas_of (pss_cons (t := tXst K (He.ga K "Unanswered") "at" (tVar 0) (tVar 1)) (u := tXst K (He.ga K "Unanswered") "name" (tVar 0) (tVar 2)) (ps_xst (f := "at") r.c (pe_var (i := 0) (x := "self") rfl (Or.inl rfl)) (pe_var (i := 1) (x := "at") rfl (Or.inl rfl))) (pss_one (ps_xst (f := "name") r.c (pe_var (i := 0) (x := "self") rfl (Or.inl rfl)) (pe_var (i := 2) (x := "name") rfl (Or.inl rfl))))))) (xb2 (r.f "at" (by simp)) (r.f "name" (by simp)))) (Fs.bindsN hD fun _ _ _ _ _ us hl => by match us, hl with | [_, _, _], _ => rfl) (kbs2 (kb0S (ps := ["self", "at", "name"]) Fs hD fun _ _ _ _ _ us hl => by match us, hl with | [_, _, _], _ => rfl) (kb0S (ps := ["self", "at", "name"]) Fs hD fun _ _ _ _ _ us hl => by match us, hl with | [_, _, _], _ => rfl) (kb0S (ps := ["self", "at", "name"]) Fs hD fun _ _ _ _ _ us hl => by match us, hl with | [_, _, _], _ => rfl))
theorem oks_all {P : Program} {w : World} {K : PySem.W.Frag} {mg : Str → Option Value} {base : Heap} {h : Heap} (hf : (P.main.file : Str) = fileK) (top : (P.main.scope.names.lookup ("super" : Str)).isSome = false) (c : SaysU Bk ds K) (X : K.In h) (G : h.Ns mainGlobals mg) : ∀ k : Nat, Oks P w K mg base (4 * k) (Sv k) := by
  have b := Bk_of c.b
  have bd : ∀ (i : Nat) {z : Bool}, (Bdd K)[i]? = some z → z = true := fun i z e => List.all_eq_true.mp b.2.2.1 z (List.mem_of_getElem? e)
  have hF := Fx_of X G b.1
  have hX := Ox_of b.2.1
  have b_h0InvalidCommand : x0B K "InvalidCommand" = true := by have z := b.2.2.2.2.2.2.2; simp only [Bool.and_eq_true] at z; exact z.1.2
  have bxt : XtB K Xx = true := by have z := b.2.2.2.2.2.2.2; simp only [Bool.and_eq_true] at z; exact z.2
  have hE : HyX P w K mg base (He.ga K) Xx := hyx_of X G bxt (allC (fun r j => rx_InvalidTree hf top (hF.nog _ (by decide)) c r j) (allC (fun r j => rx_InvalidMoment hf top (hF.nog _ (by decide)) c r j) (allC (fun r j => rx_InvalidLimbs hf top (hF.nog _ (by decide)) c r j) (allC (fun r j => rx_InvalidText hf top (hF.nog _ (by decide)) c r j) (allC (fun r j => rx_Refused hf top (hF.nog _ (by decide)) c r j) (allC (fun r j => rx_NoNode hf top (hF.nog _ (by decide)) c r j) (allC (fun r j => rx_Unanswered hf top (hF.nog _ (by decide)) c r j) (by intro p hp; cases hp))))))))
  intro k
  induction k with
  | zero => exact oks0
  | succ k ih =>
    exact oksS hF hX (x0_of X G b_h0InvalidCommand) hE (hy_of hf c X G ih)
end Sm

namespace Sm
open PySem PySem.Spec PyProof.Rows L2
def loose0 : List PySem.Str := [PySem.Str.ofString "__name__", PySem.Str.ofString "TreeError", PySem.Str.ofString "InvalidTree", PySem.Str.ofString "InvalidMoment", PySem.Str.ofString "InvalidLimbs", PySem.Str.ofString "InvalidText", PySem.Str.ofString "InvalidCommand", PySem.Str.ofString "Refused", PySem.Str.ofString "NoNode", PySem.Str.ofString "Unanswered", PySem.Str.ofString "_law_deal", PySem.Str.ofString "_law_draw", PySem.Str.ofString "_law_pick", PySem.Str.ofString "_law_made", PySem.Str.ofString "_law_classes"]
def looseA : List PySem.Str := loose0
def asK : List Addr := ([3, 2, 24, 46, 67, 88, 109, 121, 142, 163, 185, 193, 200, 207, 214, 221, 226, 23, 45, 66, 87, 108, 120, 141, 162, 184, 192, 199, 206, 213] : List Addr) ++ ([220, 225, 43, 64, 85, 106, 139, 160, 182, 42, 31, 63, 52, 84, 73, 105, 94, 138, 127, 159, 148, 181, 170] : List Addr)
abbrev hk : PySem.W.Hook := hookA asK Bk ds
def ob (s : PySem.W.SharedT) : AlU := obsAG asK Bk ds (HandSHeadRun.getT s)
theorem ob_eq (s : PySem.W.SharedT) : ob s = hk.obs s.abs := obsAG_eq (HandSHeadRun.getT_eq s)
theorem run_f (w : World) : HandSHeadRun.RunEq Rw (PySem.W.view Rw.prog [16]) hk ob 20000 looseA (w.withFollow "special-get-raises" false) := by
  intro os
  kernel_rfl
theorem run_t (w : World) : HandSHeadRun.RunEq Rw (PySem.W.view Rw.prog [16]) hk ob 20000 looseA (w.withFollow "special-get-raises" true) := by
  intro os
  kernel_rfl
end Sm

namespace Pl
open PySem PySem.Spec PyProof.Rows L2 Sm
theorem le_size (n : Nat) : (n ≤ sizeLine) = (n ≤ 16777216) := rfl
theorem lt_size (n : Nat) : (n < sizeLine) = (n < 16777216) := rfl
theorem atI_nat {α : Type} {l : List α} {a : α} {i : Nat} (h : l[i]? = some a) : atI l (i : Int) = some a := by
  have hl : i < l.length := (List.getElem?_eq_some_iff.mp h).1
  unfold atI ixN
  rw [if_pos (by omega), if_pos (by omega)]
  simpa using h
theorem atI_0 {α : Type} (a : α) (l : List α) : atI (a :: l) 0 = some a := atI_nat (i := 0) rfl
theorem atI_1 {α : Type} (a b : α) (l : List α) : atI (a :: b :: l) 1 = some b := atI_nat (i := 1) rfl
theorem atI_2 {α : Type} (a b c : α) (l : List α) : atI (a :: b :: c :: l) 2 = some c := atI_nat (i := 2) rfl
theorem atI_l {α : Type} (l : List α) (a : α) : atI (l ++ [a]) (-1) = some a := by
  unfold atI ixN
  rw [if_neg (by omega), if_pos (by simp; omega), List.length_append, List.length_singleton, show ((-1 : Int) + ((l.length + 1 : Nat) : Int)).toNat = l.length by omega]
  simp
theorem atI_l2 {α : Type} (a b : α) : atI [a, b] (-1) = some b := atI_l [a] b
theorem atI_l3 {α : Type} (a b c : α) : atI [a, b, c] (-1) = some c := atI_l [a, b] c
theorem lt_int (i j : Int) (m : Sto) : cmpI (fun i j => decide (i < j)) (.int i) (.int j) m = some (.bl (decide (i < j))) := rfl
theorem gt_int (i j : Int) (m : Sto) : cmpI (fun i j => decide (j < i)) (.int i) (.int j) m = some (.bl (decide (j < i))) := rfl
theorem le_int (i j : Int) (m : Sto) : cmpI (fun i j => decide (i ≤ j)) (.int i) (.int j) m = some (.bl (decide (i ≤ j))) := rfl
theorem ge_int (i j : Int) (m : Sto) : cmpI (fun i j => decide (j ≤ i)) (.int i) (.int j) m = some (.bl (decide (j ≤ i))) := rfl
theorem sub_int (i j : Int) (m : Sto) : subW (.int i) (.int j) m = some (.int (i - j)) := rfl
theorem add_int (i j : Int) (m : Sto) : addW (.int i) (.int j) m = some (.int (i + j)) := rfl
theorem add_int2 (i j : Int) (m : Sto) : addW (.int i) (.int j) m = some (.int (i + j)) := rfl
theorem eqW_int (a b : Int) (m : Sto) : eqW (.int a) (.int b) m = some (.bl (decide (a = b))) := by
  simp [eqW, eqB, deref, toD, SeqAt.shaped, PyData.eqv, PyData.canLay0, PyData.depth]
  rfl
theorem int_int (i : Int) (m : Sto) : intW [.int i] m = some (.int i) := rfl
theorem neg1 (m : Sto) : negW (.int 1) m = some (.int (-1)) := rfl
end Pl

namespace Pl
open PySem PySem.Spec PyProof.Rows L2 Sm
/-- the source of draws stands at the places 0 and 1 of the store -/
def D (cs : List Int) (x : Int) (r : Sto) : Sto := .lst (cs.map .int) :: .lst [.ref 0, .int x] :: r
section
variable (cs : List Int) (x : Int) (r : Sto)
theorem D_get0 : (D cs x r)[(0 : Nat)]? = some (.lst (cs.map .int)) := rfl
theorem D_get1 : (D cs x r)[(1 : Nat)]? = some (.lst [.ref 0, .int x]) := rfl
theorem D_ix1 : ixW (.ref 1) (.int 0) (D cs x r) = some (.ref 0) := rfl
theorem D_ix2 : ixW (.ref 1) (.int 1) (D cs x r) = some (.int x) := rfl
theorem D_set0 (cs' : List Int) : (D cs x r).set 0 (.lst (cs'.map .int)) = D cs' x r := rfl
theorem D_set1 (y : Int) : (D cs x r).set 1 (.lst [.ref 0, .int y]) = D cs y r := rfl
theorem toDs_int : ∀ cs : List Int, toDs (cs.map .int) = some (cs.map .int)
  | [] => rfl
  | c :: cs => by simp [toDs, toD, toDs_int cs]
theorem lay_int : ∀ cs : List Int, PyData.canLayAll0 (cs.map PyData.int) = true
  | [] => rfl
  | c :: cs => by simp [PyData.canLayAll0, PyData.canLay0, lay_int cs]
theorem depth_int : ∀ cs : List Int, PyData.depthAll (cs.map PyData.int) ≤ 1
  | [] => by simp [PyData.depthAll]
  | c :: cs => by have := depth_int cs; simp [PyData.depthAll, PyData.depth]; omega
theorem D_ne : neW (.ref 0) (.lst []) (D cs x r) = some (.bl (decide (cs ≠ []))) := by
  have h := depth_int cs
  cases cs with
  | nil => simp [neW, eqB, deref, D, toW, toD, toDs, SeqAt.shaped, PyData.eqv, PyData.eqvAll, PyData.canLay0, PyData.canLayAll0, PyData.depth, PyData.depthAll]
  | cons c cs =>
    have e := lay_int (c :: cs)
    simp only [List.map_cons] at e h
    have h2 : 1 + PyData.depthAll (PyData.int c :: List.map PyData.int cs) ≤ 64 := by omega
    simp [neW, eqB, deref, D, toW, toD, toDs_int, toDs, SeqAt.shaped, PyData.eqv, PyData.eqvAll, PyData.canLay0, e, PyData.canLayAll0, PyData.depth, h2]
    exact ⟨by simp [PyData.canLayAll0, PyData.canLay0] at e; exact e, by omega, by simp [PyData.depthAll]⟩
end
theorem app_ne (c0 : List Int) (l : Int) : (c0 ++ [l] ≠ []) = True := by simp
theorem D_last (c0 : List Int) (l x : Int) (r : Sto) : ixW (.ref 0) (.int (-1)) (D (c0 ++ [l]) x r) = some (.int l) := by
  show atI ((c0 ++ [l]).map W.int) (-1) = _
  rw [List.map_append]
  exact atI_l _ _
theorem pop_last (c0 : List Int) (l : Int) : popS ((c0 ++ [l]).map W.int) [] = some (.int l, c0.map W.int) := by
  simp [popS]
abbrev drT : Ft := tAn (tBl (op2 neW (op2 ixW (rVar 0) (eC (.int 0))) (eL (nLst aNil)))) (tBl (op2 eqW (op2 ixW (op2 ixW (rVar 0) (eC (.int 0))) (op1 negW (eC (.int 1)))) (eC (.int 0))))
abbrev drB : Fs := sExp (eMt popS (op2 ixW (rVar 0) (eC (.int 0))) aNil)
theorem ix21 : ixN 2 1 = some 1 := rfl
theorem ix21s : ixN (0 + 1 + 1) 1 = some 1 := rfl
theorem dr_while (x : Int) (r : Sto) (v1 v2 : Sl) : ∀ (n : Nat) (cs : List Int), cs.length < n → ∃ cs', whW drT drB n [.val (.ref 1), v1, v2] (D cs x r) = .ok (.nx [.val (.ref 1), v1, v2]) (D cs' x r) ∧ cs'.length ≤ cs.length
  | 0, cs, h => by omega
  | n + 1, cs, h => by
    rcases List.eq_nil_or_concat cs with e | ⟨c0, l, e⟩
    · subst e
      refine ⟨[], ?_, Nat.le_refl _⟩
      simp (decide := true) only [runB, Sm.runI, bnd, lift, exS, sSeq, sSeqF, sNil, sSet, sSetN, sSetL, sIf, sRet, sRetN, sExp, sFor, sExt, sApp, sFrz, sPar, sPar3, sUnp, sSetIx, sBrk, sCnt, eVar, rVar, eC, op1, op2, eCall, eNew, aCons, aNil, aStar, eTup, eL, nLst, nRev, nLc, eBlt, eIf, eAnd, eOr, eNotV, tTru, tBl, tNt, tAn, tOrr, tYesM, truW, blW, eChain, iSeq, itW, iSeqR, itR, tupleR, iRng, bName, bTup, bAll, eMt, ePush, sParO, lVal, lOwn, lNil, putS, sTry, sRaise, eJoin, jsW, e1M, e2M, sAug, sSup, sFldS, sTree, wipeS, lenW, tupleW, frzb, toW, clsO, eSl, oSome, oNone, Sm.ret, Sm.bad, List.map_cons, List.map_nil, List.length_cons, List.length_nil, List.cons_append, List.nil_append, List.append_nil, List.replicate_succ, List.replicate_zero, List.set_cons_succ, List.set_cons_zero, List.getElem?_cons_succ, List.getElem?_cons_zero, List.length_append, List.length_map, if_true, if_false, reduceIte, Bool.true_and, Bool.and_true, Bool.not_true, Bool.not_false, Option.map_some, Option.map_none, Option.bind_some, Option.bind_none, le_size, lt_size, Nat.reduceLeDiff, Nat.reduceAdd, Nat.reduceSub, Nat.reducePow, Nat.zero_add, decide_eq_true_eq, Nat.reduceLT, gt_iff_lt, ge_iff_le, decide_true, decide_false, Bool.false_eq_true, Bool.or_true, Bool.true_or, Bool.or_false, Bool.false_or, Bool.false_and, Bool.and_false, or_true, true_or, and_true, true_and, or_false, false_or, and_false, false_and, and_self, not_false_eq_true, not_true_eq_false, whW, drT, D_ix1, D_ne, List.cons_ne_nil, ne_eq, not_true_eq_false]
    · rw [List.concat_eq_append] at e
      subst e
      by_cases hl : l = 0
      · have hlen : c0.length < n := by simp at h; omega
        obtain ⟨cs', e, q⟩ := dr_while x r v1 v2 n c0 hlen
        refine ⟨cs', ?_, by simp; omega⟩
        simp (decide := true) only [runB, Sm.runI, bnd, lift, exS, sSeq, sSeqF, sNil, sSet, sSetN, sSetL, sIf, sRet, sRetN, sExp, sFor, sExt, sApp, sFrz, sPar, sPar3, sUnp, sSetIx, sBrk, sCnt, eVar, rVar, eC, op1, op2, eCall, eNew, aCons, aNil, aStar, eTup, eL, nLst, nRev, nLc, eBlt, eIf, eAnd, eOr, eNotV, tTru, tBl, tNt, tAn, tOrr, tYesM, truW, blW, eChain, iSeq, itW, iSeqR, itR, tupleR, iRng, bName, bTup, bAll, eMt, ePush, sParO, lVal, lOwn, lNil, putS, sTry, sRaise, eJoin, jsW, e1M, e2M, sAug, sSup, sFldS, sTree, wipeS, lenW, tupleW, frzb, toW, clsO, eSl, oSome, oNone, Sm.ret, Sm.bad, List.map_cons, List.map_nil, List.length_cons, List.length_nil, List.cons_append, List.nil_append, List.append_nil, List.replicate_succ, List.replicate_zero, List.set_cons_succ, List.set_cons_zero, List.getElem?_cons_succ, List.getElem?_cons_zero, List.length_append, List.length_map, if_true, if_false, reduceIte, Bool.true_and, Bool.and_true, Bool.not_true, Bool.not_false, Option.map_some, Option.map_none, Option.bind_some, Option.bind_none, le_size, lt_size, Nat.reduceLeDiff, Nat.reduceAdd, Nat.reduceSub, Nat.reducePow, Nat.zero_add, decide_eq_true_eq, Nat.reduceLT, gt_iff_lt, ge_iff_le, decide_true, decide_false, Bool.false_eq_true, Bool.or_true, Bool.true_or, Bool.or_false, Bool.false_or, Bool.false_and, Bool.and_false, or_true, true_or, and_true, true_and, or_false, false_or, and_false, false_and, and_self, not_false_eq_true, not_true_eq_false, whW, drT, drB, D_ix1, D_ne, app_ne, neg1, D_last, eqW_int, hl, D_get0, pop_last, D_set0]
        exact e
      · refine ⟨c0 ++ [l], ?_, Nat.le_refl _⟩
        simp (decide := true) only [runB, Sm.runI, bnd, lift, exS, sSeq, sSeqF, sNil, sSet, sSetN, sSetL, sIf, sRet, sRetN, sExp, sFor, sExt, sApp, sFrz, sPar, sPar3, sUnp, sSetIx, sBrk, sCnt, eVar, rVar, eC, op1, op2, eCall, eNew, aCons, aNil, aStar, eTup, eL, nLst, nRev, nLc, eBlt, eIf, eAnd, eOr, eNotV, tTru, tBl, tNt, tAn, tOrr, tYesM, truW, blW, eChain, iSeq, itW, iSeqR, itR, tupleR, iRng, bName, bTup, bAll, eMt, ePush, sParO, lVal, lOwn, lNil, putS, sTry, sRaise, eJoin, jsW, e1M, e2M, sAug, sSup, sFldS, sTree, wipeS, lenW, tupleW, frzb, toW, clsO, eSl, oSome, oNone, Sm.ret, Sm.bad, List.map_cons, List.map_nil, List.length_cons, List.length_nil, List.cons_append, List.nil_append, List.append_nil, List.replicate_succ, List.replicate_zero, List.set_cons_succ, List.set_cons_zero, List.getElem?_cons_succ, List.getElem?_cons_zero, List.length_append, List.length_map, if_true, if_false, reduceIte, Bool.true_and, Bool.and_true, Bool.not_true, Bool.not_false, Option.map_some, Option.map_none, Option.bind_some, Option.bind_none, le_size, lt_size, Nat.reduceLeDiff, Nat.reduceAdd, Nat.reduceSub, Nat.reducePow, Nat.zero_add, decide_eq_true_eq, Nat.reduceLT, gt_iff_lt, ge_iff_le, decide_true, decide_false, Bool.false_eq_true, Bool.or_true, Bool.true_or, Bool.or_false, Bool.false_or, Bool.false_and, Bool.and_false, or_true, true_or, and_true, true_and, or_false, false_or, and_false, false_and, and_self, not_false_eq_true, not_true_eq_false, whW, drT, drB, D_ix1, D_ne, app_ne, neg1, D_last, eqW_int, hl]
def DD (r : Sto) (m : Sto) : Prop := ∃ cs x, m = D cs x r ∧ cs.length ≤ 63
theorem draw_ok (k : Nat) {r : Sto} {m : Sto} (h : DD r m) {n : Int} (h1 : 0 < n) (h2 : n < 1073741824) : ∃ d m', (Sv (k + 1)).f 1 [.ref 1, .int n] m = .ok (.int d) m' ∧ 0 ≤ d ∧ d < n ∧ DD r m' := by
  obtain ⟨cs, x, rfl, hc⟩ := h
  rw [Sf__law_draw]
  obtain ⟨cs', e, q⟩ := dr_while x r (.val (.int n)) .un 1000 cs (by omega)
  simp only [drT, drB] at e
  rcases List.eq_nil_or_concat cs' with e1 | ⟨c0, l, e1⟩
  · subst e1
    refine ⟨(x * 48271 + 7) % 2147483647 / 8 % n, D [] ((x * 48271 + 7) % 2147483647) r, ?_, Int.emod_nonneg _ (by omega), Int.emod_lt_of_pos _ h1, [], _, rfl, by simp⟩
    simp (decide := true) only [runB, Sm.runI, bnd, lift, exS, sSeq, sSeqF, sNil, sSet, sSetN, sSetL, sIf, sRet, sRetN, sExp, sFor, sExt, sApp, sFrz, sPar, sPar3, sUnp, sSetIx, sBrk, sCnt, eVar, rVar, eC, op1, op2, eCall, eNew, aCons, aNil, aStar, eTup, eL, nLst, nRev, nLc, eBlt, eIf, eAnd, eOr, eNotV, tTru, tBl, tNt, tAn, tOrr, tYesM, truW, blW, eChain, iSeq, itW, iSeqR, itR, tupleR, iRng, bName, bTup, bAll, eMt, ePush, sParO, lVal, lOwn, lNil, putS, sTry, sRaise, eJoin, jsW, e1M, e2M, sAug, sSup, sFldS, sTree, wipeS, lenW, tupleW, frzb, toW, clsO, eSl, oSome, oNone, Sm.ret, Sm.bad, List.map_cons, List.map_nil, List.length_cons, List.length_nil, List.cons_append, List.nil_append, List.append_nil, List.replicate_succ, List.replicate_zero, List.set_cons_succ, List.set_cons_zero, List.getElem?_cons_succ, List.getElem?_cons_zero, List.length_append, List.length_map, if_true, if_false, reduceIte, Bool.true_and, Bool.and_true, Bool.not_true, Bool.not_false, Option.map_some, Option.map_none, Option.bind_some, Option.bind_none, le_size, lt_size, Nat.reduceLeDiff, Nat.reduceAdd, Nat.reduceSub, Nat.reducePow, Nat.zero_add, decide_eq_true_eq, Nat.reduceLT, gt_iff_lt, ge_iff_le, decide_true, decide_false, Bool.false_eq_true, Bool.or_true, Bool.true_or, Bool.or_false, Bool.false_or, Bool.false_and, Bool.and_false, or_true, true_or, and_true, true_and, or_false, false_or, and_false, false_and, and_self, not_false_eq_true, not_true_eq_false, b__law_draw, N__law_draw, e, D_ix1, D_ne, D_ix2, ne_eq, not_true_eq_false, mulW, addW, intW, modW, D_get1, D_set1, fdivW, h1, ix21, ix21s]
  · rw [List.concat_eq_append] at e1
    subst e1
    refine ⟨l % n, D (c0 ++ [l / n]) x r, ?_, Int.emod_nonneg _ (by omega), Int.emod_lt_of_pos _ h1, _, _, rfl, by simp at q ⊢; omega⟩
    have hl : (c0.map W.int).length < 16777216 := by simp at q ⊢; omega
    simp only [List.length_map] at hl
    simp (decide := true) only [runB, Sm.runI, bnd, lift, exS, sSeq, sSeqF, sNil, sSet, sSetN, sSetL, sIf, sRet, sRetN, sExp, sFor, sExt, sApp, sFrz, sPar, sPar3, sUnp, sSetIx, sBrk, sCnt, eVar, rVar, eC, op1, op2, eCall, eNew, aCons, aNil, aStar, eTup, eL, nLst, nRev, nLc, eBlt, eIf, eAnd, eOr, eNotV, tTru, tBl, tNt, tAn, tOrr, tYesM, truW, blW, eChain, iSeq, itW, iSeqR, itR, tupleR, iRng, bName, bTup, bAll, eMt, ePush, sParO, lVal, lOwn, lNil, putS, sTry, sRaise, eJoin, jsW, e1M, e2M, sAug, sSup, sFldS, sTree, wipeS, lenW, tupleW, frzb, toW, clsO, eSl, oSome, oNone, Sm.ret, Sm.bad, List.map_cons, List.map_nil, List.length_cons, List.length_nil, List.cons_append, List.nil_append, List.append_nil, List.replicate_succ, List.replicate_zero, List.set_cons_succ, List.set_cons_zero, List.getElem?_cons_succ, List.getElem?_cons_zero, List.length_append, List.length_map, if_true, if_false, reduceIte, Bool.true_and, Bool.and_true, Bool.not_true, Bool.not_false, Option.map_some, Option.map_none, Option.bind_some, Option.bind_none, le_size, lt_size, Nat.reduceLeDiff, Nat.reduceAdd, Nat.reduceSub, Nat.reducePow, Nat.zero_add, decide_eq_true_eq, Nat.reduceLT, gt_iff_lt, ge_iff_le, decide_true, decide_false, Bool.false_eq_true, Bool.or_true, Bool.true_or, Bool.or_false, Bool.false_or, Bool.false_and, Bool.and_false, or_true, true_or, and_true, true_and, or_false, false_or, and_false, false_and, and_self, not_false_eq_true, not_true_eq_false, b__law_draw, N__law_draw, e, D_ix1, D_ne, app_ne, D_get0, pop_last, D_set0, appS, hl, fdivW, h1, h2, intW, modW]
    simp [D]
/-- Γ draws -/
def Draw (Γ : Gam) : Prop := ∀ (r m : Sto), DD r m → ∀ (n : Int), 0 < n → n < 1073741824 → ∃ d m', Γ.f 1 [.ref 1, .int n] m = .ok (.int d) m' ∧ 0 ≤ d ∧ d < n ∧ DD r m'
theorem draw_K {K : Nat} (hK : 1 ≤ K) : Draw (Sv K) := by
  obtain ⟨k, rfl⟩ : ∃ k, K = k + 1 := ⟨K - 1, by omega⟩
  exact fun r m h n => draw_ok k h (n := n)
end Pl

namespace Pl
open PySem PySem.Spec PyProof.Rows L2 Sm
theorem atI_in {α : Type} (l : List α) {d : Int} (h0 : 0 ≤ d) (h1 : d < l.length) : ∃ a, a ∈ l ∧ atI l d = some a := by
  obtain ⟨n, rfl⟩ := Int.eq_ofNat_of_zero_le h0
  have hn : n < l.length := by omega
  exact ⟨l[n], List.getElem_mem hn, atI_nat (by simp [hn])⟩
def Pick (Γ : Gam) : Prop := ∀ (r m : Sto), DD r m → ∀ (ws : List W), 0 < ws.length → ws.length < 1000000 → ∃ w m', Γ.f 2 [.ref 1, .lst ws] m = .ok w m' ∧ w ∈ ws ∧ DD r m'
theorem pick_K {K : Nat} (hK : 2 ≤ K) : Pick (Sv K) := by
  obtain ⟨k, rfl⟩ : ∃ k, K = k + 1 := ⟨K - 1, by omega⟩
  intro r m h ws h1 h2
  have HD := draw_K (K := k) (by omega)
  rw [Sf__law_pick]
  generalize Sv k = Γ at HD ⊢
  obtain ⟨d, m', e, d0, d1, q⟩ := HD _ _ h ((ws.length : Int)) (by omega) (by omega)
  obtain ⟨a, ha, ea⟩ := atI_in ws d0 d1
  refine ⟨a, m', ?_, ha, q⟩
  simp (decide := true) only [runB, Sm.runI, bnd, lift, exS, sSeq, sSeqF, sNil, sSet, sSetN, sSetL, sIf, sRet, sRetN, sExp, sFor, sExt, sApp, sFrz, sPar, sPar3, sUnp, sSetIx, sBrk, sCnt, eVar, rVar, eC, op1, op2, eCall, eNew, aCons, aNil, aStar, eTup, eL, nLst, nRev, nLc, eBlt, eIf, eAnd, eOr, eNotV, tTru, tBl, tNt, tAn, tOrr, tYesM, truW, blW, eChain, iSeq, itW, iSeqR, itR, tupleR, iRng, bName, bTup, bAll, eMt, ePush, sParO, lVal, lOwn, lNil, putS, sTry, sRaise, eJoin, jsW, e1M, e2M, sAug, sSup, sFldS, sTree, wipeS, lenW, tupleW, frzb, toW, clsO, eSl, oSome, oNone, Sm.ret, Sm.bad, List.map_cons, List.map_nil, List.length_cons, List.length_nil, List.cons_append, List.nil_append, List.append_nil, List.replicate_succ, List.replicate_zero, List.set_cons_succ, List.set_cons_zero, List.getElem?_cons_succ, List.getElem?_cons_zero, List.length_append, List.length_map, if_true, if_false, reduceIte, Bool.true_and, Bool.and_true, Bool.not_true, Bool.not_false, Option.map_some, Option.map_none, Option.bind_some, Option.bind_none, le_size, lt_size, Nat.reduceLeDiff, Nat.reduceAdd, Nat.reduceSub, Nat.reducePow, Nat.zero_add, decide_eq_true_eq, Nat.reduceLT, gt_iff_lt, ge_iff_le, decide_true, decide_false, Bool.false_eq_true, Bool.or_true, Bool.true_or, Bool.or_false, Bool.false_or, Bool.false_and, Bool.and_false, or_true, true_or, and_true, true_and, or_false, false_or, and_false, false_and, and_self, not_false_eq_true, not_true_eq_false, b__law_pick, N__law_pick, e, ixW, ea]
end Pl

namespace Pl
open PySem PySem.Spec PyProof.Rows L2 Sm
theorem Draw.wp {Γ : Gam} (H : Draw Γ) {r m : Sto} (h : DD r m) {n : Int} (h0 : 0 < n) (h1 : n < 1073741824) {Q : PQ W} {E : PX} (k : ∀ d m', 0 ≤ d → d < n → DD r m' → Q (.int d) m') : Wp (Γ.f 1 [.ref 1, .int n] m) Q E := by
  obtain ⟨d, m', e, a, b, c⟩ := H r m h n h0 h1
  exact Wp.to e (k d m' a b c)
theorem Pick.wp {Γ : Gam} (H : Pick Γ) {r m : Sto} (h : DD r m) {ws : List W} (h0 : 0 < ws.length) (h1 : ws.length < 1000000) {Q : PQ W} {E : PX} (k : ∀ w m', w ∈ ws → DD r m' → Q w m') : Wp (Γ.f 2 [.ref 1, .lst ws] m) Q E := by
  obtain ⟨d, m', e, a, c⟩ := H r m h ws h0 h1
  exact Wp.to e (k d m' a c)
theorem rng_nat (n : Nat) (h : n ≤ 100000) : rng1 [.int (n : Int)] = some ((List.range n).map fun i : Nat => .int i) := by
  simp only [rng1]
  rw [if_pos (by omega)]
  simp
theorem rngI {c : Int} {n : Nat} (hc : c = n) (h : n ≤ 100000) : rng1 [.int c] = some ((List.range n).map fun i : Nat => .int i) := by
  rw [hc]; exact rng_nat n h
end Pl

namespace Pl
open PySem PySem.Spec PyProof.Rows L2 Sm
theorem cut_int (ns : List Int) (lo hi : Option Int) : ∃ ys : List Int, cutW (ns.map .int) lo hi = ys.map .int ∧ ys.length ≤ ns.length := by
  unfold cutW
  rw [← List.map_drop, ← List.map_take]
  exact ⟨_, rfl, by simp; omega⟩
theorem abs_loop (m : Sto) (v0 v1 v2 v3 v4 : Sl) : ∀ ys : List Int, ∃ zs : List Int, zs.length = ys.length ∧ lcM (bName 4) tYesM (eBlt absW (aCons (rVar 4) aNil)) [v0, v1, v2, v3, v4] (ys.map .int) m = .ok (zs.map .int) m
  | [] => ⟨[], rfl, rfl⟩
  | y :: ys => by
    obtain ⟨zs, hl, e⟩ := abs_loop m v0 v1 v2 v3 v4 ys
    refine ⟨(if y < 0 then -y else y) :: zs, by simp [hl], ?_⟩
    simp (decide := true) only [runB, Sm.runI, bnd, lift, exS, sSeq, sSeqF, sNil, sSet, sSetN, sSetL, sIf, sRet, sRetN, sExp, sFor, sExt, sApp, sFrz, sPar, sPar3, sUnp, sSetIx, sBrk, sCnt, eVar, rVar, eC, op1, op2, eCall, eNew, aCons, aNil, aStar, eTup, eL, nLst, nRev, nLc, eBlt, eIf, eAnd, eOr, eNotV, tTru, tBl, tNt, tAn, tOrr, tYesM, truW, blW, eChain, iSeq, itW, iSeqR, itR, tupleR, iRng, bName, bTup, bAll, eMt, ePush, sParO, lVal, lOwn, lNil, putS, sTry, sRaise, eJoin, jsW, e1M, e2M, sAug, sSup, sFldS, sTree, wipeS, lenW, tupleW, frzb, toW, clsO, eSl, oSome, oNone, Sm.ret, Sm.bad, List.map_cons, List.map_nil, List.length_cons, List.length_nil, List.cons_append, List.nil_append, List.append_nil, List.replicate_succ, List.replicate_zero, List.set_cons_succ, List.set_cons_zero, List.getElem?_cons_succ, List.getElem?_cons_zero, List.length_append, List.length_map, if_true, if_false, reduceIte, Bool.true_and, Bool.and_true, Bool.not_true, Bool.not_false, Option.map_some, Option.map_none, Option.bind_some, Option.bind_none, le_size, lt_size, Nat.reduceLeDiff, Nat.reduceAdd, Nat.reduceSub, Nat.reducePow, Nat.zero_add, decide_eq_true_eq, Nat.reduceLT, gt_iff_lt, ge_iff_le, decide_true, decide_false, Bool.false_eq_true, Bool.or_true, Bool.true_or, Bool.or_false, Bool.false_or, Bool.false_and, Bool.and_false, or_true, true_or, and_true, true_and, or_false, false_or, and_false, false_and, and_self, not_false_eq_true, not_true_eq_false, lcM, absW]
    rw [e]
theorem mul_r (i j : Int) (m : Sto) (h : -(2 ^ 64) < j ∧ j < 2 ^ 64) : mulW (.int i) (.int j) m = some (.int (i * j)) := by
  simp only [mulW]
  rw [if_pos (.inr h)]
theorem mod_pos (i j : Int) (m : Sto) (h : 0 < j) : modW (.int i) (.int j) m = some (.int (i % j)) := by
  simp only [modW]
  rw [if_pos h]
theorem mix_loop (m : Sto) (v0 v1 v2 : Sl) : ∀ (ys : List Int) (x : Int) (u : Sl), ∃ x' u', forW (bName 4) (sSet 3 (op2 modW (eBlt intW (aCons (op2 addW (op2 mulW (rVar 3) (eC (.int 16807))) (op2 modW (eBlt intW (aCons (rVar 4) aNil)) (eC (.int 2147483629)))) aNil)) (eC (.int 2147483647)))) (ys.map .int) [v0, v1, v2, .val (.int x), u] m = .ok (.nx [v0, v1, v2, .val (.int x'), u']) m
  | [], x, u => ⟨x, u, rfl⟩
  | y :: ys, x, u => by
    obtain ⟨x', u', e⟩ := mix_loop m v0 v1 v2 ys ((x * 16807 + y % 2147483629) % 2147483647) (.val (.int y))
    refine ⟨x', u', ?_⟩
    simp (decide := true) only [runB, Sm.runI, bnd, lift, exS, sSeq, sSeqF, sNil, sSet, sSetN, sSetL, sIf, sRet, sRetN, sExp, sFor, sExt, sApp, sFrz, sPar, sPar3, sUnp, sSetIx, sBrk, sCnt, eVar, rVar, eC, op1, op2, eCall, eNew, aCons, aNil, aStar, eTup, eL, nLst, nRev, nLc, eBlt, eIf, eAnd, eOr, eNotV, tTru, tBl, tNt, tAn, tOrr, tYesM, truW, blW, eChain, iSeq, itW, iSeqR, itR, tupleR, iRng, bName, bTup, bAll, eMt, ePush, sParO, lVal, lOwn, lNil, putS, sTry, sRaise, eJoin, jsW, e1M, e2M, sAug, sSup, sFldS, sTree, wipeS, lenW, tupleW, frzb, toW, clsO, eSl, oSome, oNone, Sm.ret, Sm.bad, List.map_cons, List.map_nil, List.length_cons, List.length_nil, List.cons_append, List.nil_append, List.append_nil, List.replicate_succ, List.replicate_zero, List.set_cons_succ, List.set_cons_zero, List.getElem?_cons_succ, List.getElem?_cons_zero, List.length_append, List.length_map, if_true, if_false, reduceIte, Bool.true_and, Bool.and_true, Bool.not_true, Bool.not_false, Option.map_some, Option.map_none, Option.bind_some, Option.bind_none, le_size, lt_size, Nat.reduceLeDiff, Nat.reduceAdd, Nat.reduceSub, Nat.reducePow, Nat.zero_add, decide_eq_true_eq, Nat.reduceLT, gt_iff_lt, ge_iff_le, decide_true, decide_false, Bool.false_eq_true, Bool.or_true, Bool.true_or, Bool.or_false, Bool.false_or, Bool.false_and, Bool.and_false, or_true, true_or, and_true, true_and, or_false, false_or, and_false, false_and, and_self, not_false_eq_true, not_true_eq_false, forW, mul_r _ 16807 _ (by decide), int_int, mod_pos _ 2147483629 _ (by decide), add_int, mod_pos _ 2147483647 _ (by decide)]
    rw [e]
theorem pow18 (m : Sto) : powW (.int 10) (.int 18) m = some (.int 1000000000000000000) := by rfl
theorem big_loop (m : Sto) (v0 v1 v2 v3 v4 : Sl) : ∀ ys : List Int, ∃ zs : List Int, zs.length ≤ ys.length ∧ lcM (bName 4) (tBl (op2 (cmpI fun i j => decide (j ≤ i)) (rVar 4) (op2 powW (eC (.int 10)) (eC (.int 18))))) (eVar 4) [v0, v1, v2, v3, v4] (ys.map .int) m = .ok (zs.map .int) m
  | [] => ⟨[], Nat.le_refl _, rfl⟩
  | y :: ys => by
    obtain ⟨zs, hl, e⟩ := big_loop m v0 v1 v2 v3 v4 ys
    by_cases hy : 1000000000000000000 ≤ y
    · refine ⟨y :: zs, by simp [hl], ?_⟩
      simp (decide := true) only [runB, Sm.runI, bnd, lift, exS, sSeq, sSeqF, sNil, sSet, sSetN, sSetL, sIf, sRet, sRetN, sExp, sFor, sExt, sApp, sFrz, sPar, sPar3, sUnp, sSetIx, sBrk, sCnt, eVar, rVar, eC, op1, op2, eCall, eNew, aCons, aNil, aStar, eTup, eL, nLst, nRev, nLc, eBlt, eIf, eAnd, eOr, eNotV, tTru, tBl, tNt, tAn, tOrr, tYesM, truW, blW, eChain, iSeq, itW, iSeqR, itR, tupleR, iRng, bName, bTup, bAll, eMt, ePush, sParO, lVal, lOwn, lNil, putS, sTry, sRaise, eJoin, jsW, e1M, e2M, sAug, sSup, sFldS, sTree, wipeS, lenW, tupleW, frzb, toW, clsO, eSl, oSome, oNone, Sm.ret, Sm.bad, List.map_cons, List.map_nil, List.length_cons, List.length_nil, List.cons_append, List.nil_append, List.append_nil, List.replicate_succ, List.replicate_zero, List.set_cons_succ, List.set_cons_zero, List.getElem?_cons_succ, List.getElem?_cons_zero, List.length_append, List.length_map, if_true, if_false, reduceIte, Bool.true_and, Bool.and_true, Bool.not_true, Bool.not_false, Option.map_some, Option.map_none, Option.bind_some, Option.bind_none, le_size, lt_size, Nat.reduceLeDiff, Nat.reduceAdd, Nat.reduceSub, Nat.reducePow, Nat.zero_add, decide_eq_true_eq, Nat.reduceLT, gt_iff_lt, ge_iff_le, decide_true, decide_false, Bool.false_eq_true, Bool.or_true, Bool.true_or, Bool.or_false, Bool.false_or, Bool.false_and, Bool.and_false, or_true, true_or, and_true, true_and, or_false, false_or, and_false, false_and, and_self, not_false_eq_true, not_true_eq_false, lcM, pow18, ge_int, hy]
      rw [e]
    · refine ⟨zs, by simp; omega, ?_⟩
      simp (decide := true) only [runB, Sm.runI, bnd, lift, exS, sSeq, sSeqF, sNil, sSet, sSetN, sSetL, sIf, sRet, sRetN, sExp, sFor, sExt, sApp, sFrz, sPar, sPar3, sUnp, sSetIx, sBrk, sCnt, eVar, rVar, eC, op1, op2, eCall, eNew, aCons, aNil, aStar, eTup, eL, nLst, nRev, nLc, eBlt, eIf, eAnd, eOr, eNotV, tTru, tBl, tNt, tAn, tOrr, tYesM, truW, blW, eChain, iSeq, itW, iSeqR, itR, tupleR, iRng, bName, bTup, bAll, eMt, ePush, sParO, lVal, lOwn, lNil, putS, sTry, sRaise, eJoin, jsW, e1M, e2M, sAug, sSup, sFldS, sTree, wipeS, lenW, tupleW, frzb, toW, clsO, eSl, oSome, oNone, Sm.ret, Sm.bad, List.map_cons, List.map_nil, List.length_cons, List.length_nil, List.cons_append, List.nil_append, List.append_nil, List.replicate_succ, List.replicate_zero, List.set_cons_succ, List.set_cons_zero, List.getElem?_cons_succ, List.getElem?_cons_zero, List.length_append, List.length_map, if_true, if_false, reduceIte, Bool.true_and, Bool.and_true, Bool.not_true, Bool.not_false, Option.map_some, Option.map_none, Option.bind_some, Option.bind_none, le_size, lt_size, Nat.reduceLeDiff, Nat.reduceAdd, Nat.reduceSub, Nat.reducePow, Nat.zero_add, decide_eq_true_eq, Nat.reduceLT, gt_iff_lt, ge_iff_le, decide_true, decide_false, Bool.false_eq_true, Bool.or_true, Bool.true_or, Bool.or_false, Bool.false_or, Bool.false_and, Bool.and_false, or_true, true_or, and_true, true_and, or_false, false_or, and_false, false_and, and_self, not_false_eq_true, not_true_eq_false, lcM, pow18, ge_int, hy]
      rw [e]
theorem deal_K {K : Nat} (hK : 1 ≤ K) (ns : List Int) (hn : ns.length ≤ 63) : ∃ m, (Sv K).f 0 [.lst (ns.map .int), .int 0] [] = .ok (.ref 1) m ∧ DD [] m := by
  obtain ⟨k, rfl⟩ : ∃ k, K = k + 1 := ⟨K - 1, by omega⟩
  rw [Sf__law_deal]
  obtain ⟨ys, e0, l0⟩ := cut_int ns (some 0) (some 63)
  obtain ⟨zs, l1, e1⟩ := abs_loop [] (.val (.lst (ns.map .int))) (.val (.int 0)) .un .un .un ys
  obtain ⟨x, u, e2⟩ := mix_loop [] (.val (.lst (ns.map .int))) (.val (.int 0)) (.val (.lst (zs.map .int))) zs (48611719 + 13 * 0) .un
  obtain ⟨bs, l3, e3⟩ := big_loop [] (.val (.lst (ns.map .int))) (.val (.int 0)) (.val (.lst (zs.map .int))) (.val (.int x)) .un zs
  refine ⟨D bs.reverse x [], ?_, bs.reverse, x, rfl, by simp; omega⟩
  have z1 : zs.length ≤ 16777216 := by omega
  have z2 : bs.length ≤ 16777216 := by omega
  simp (decide := true) only [runB, Sm.runI, bnd, lift, exS, sSeq, sSeqF, sNil, sSet, sSetN, sSetL, sIf, sRet, sRetN, sExp, sFor, sExt, sApp, sFrz, sPar, sPar3, sUnp, sSetIx, sBrk, sCnt, eVar, rVar, eC, op1, op2, eCall, eNew, aCons, aNil, aStar, eTup, eL, nLst, nRev, nLc, eBlt, eIf, eAnd, eOr, eNotV, tTru, tBl, tNt, tAn, tOrr, tYesM, truW, blW, eChain, iSeq, itW, iSeqR, itR, tupleR, iRng, bName, bTup, bAll, eMt, ePush, sParO, lVal, lOwn, lNil, putS, sTry, sRaise, eJoin, jsW, e1M, e2M, sAug, sSup, sFldS, sTree, wipeS, lenW, tupleW, frzb, toW, clsO, eSl, oSome, oNone, Sm.ret, Sm.bad, List.map_cons, List.map_nil, List.length_cons, List.length_nil, List.cons_append, List.nil_append, List.append_nil, List.replicate_succ, List.replicate_zero, List.set_cons_succ, List.set_cons_zero, List.getElem?_cons_succ, List.getElem?_cons_zero, List.length_append, List.length_map, if_true, if_false, reduceIte, Bool.true_and, Bool.and_true, Bool.not_true, Bool.not_false, Option.map_some, Option.map_none, Option.bind_some, Option.bind_none, le_size, lt_size, Nat.reduceLeDiff, Nat.reduceAdd, Nat.reduceSub, Nat.reducePow, Nat.zero_add, decide_eq_true_eq, Nat.reduceLT, gt_iff_lt, ge_iff_le, decide_true, decide_false, Bool.false_eq_true, Bool.or_true, Bool.true_or, Bool.or_false, Bool.false_or, Bool.false_and, Bool.and_false, or_true, true_or, and_true, true_and, or_false, false_or, and_false, false_and, and_self, not_false_eq_true, not_true_eq_false, b__law_deal, N__law_deal, slW, e0, e1, z1, add_int, mul_r _ (0 : Int) _ (by decide), e2, e3, z2]
  simp [D]
end Pl

namespace Pl
open PySem PySem.Spec PyProof.Rows L2 Sm
theorem mapE {α β : Type} {f g : α → β} {l : List α} (h : l.map f = l.map g) {a : α} (ha : a ∈ l) : f a = g a := List.map_inj_left.mp h a ha
def NS : List Int := [0, 1, 2, 3, 4, 5, 6, 7, 8]
def TH (i : Nat) : List W := [.int 0, .int 3, .int (-7), .str "word", .str "", .non, .tup [], .ref i, .ref i, .tup [.str "a", .tup [.int 2]], .bl true, .int 100000000000000000000]
noncomputable def rst (Γ : Gam) : Fs := (sSeq (sUnp (bTup [(bName 8), (bName 9)]) (eCall 2 (Γ.f 3) [] (aCons (eVar 2) (aCons (eVar 6) aNil))))
    (sSeq (sIf (tOrr (tBl (op2 neW (eBlt reprW (aCons (rVar 9) aNil)) (eBlt reprW (aCons (rVar 6) aNil)))) (tBl (op2 neW (eCall 1 (Γ.f 4) [] (aCons (eVar 8) aNil)) (eL (nLc (iRng rng1 (aCons (eC (.int 8)) aNil)) [10] (bName 10) tYesM (op2 eqW (rVar 2) (rVar 10))))))) (sRet (eC (.bl false))) sNil)
    (sSeq (sExp (eMt appS (eVar 5) (aCons (eC (.str "later")) aNil)))
    (sSeq (sIf (tBl (op2 neW (eBlt reprW (aCons (rVar 9) aNil)) (eBlt reprW (aCons (rVar 6) aNil)))) (sRet (eC (.bl false))) sNil)
    (sSeq (sSetN 7 (nLst (aCons (eBlt (isxW Xx.xc Xx.kt) (aCons (rVar 8) (aCons (eC (.cls "TreeError")) aNil))) (aCons (eBlt (isxW Xx.xc Xx.kt) (aCons (rVar 8) (aCons (eC (.ty "ValueError")) aNil))) (aCons (eBlt (isxW Xx.xc Xx.kt) (aCons (rVar 8) (aCons (eC (.ty "IndexError")) aNil))) aNil)))))
    (sSeq (sApp 7 (eBlt (isxW Xx.xc Xx.kt) (aCons (rVar 8) (aCons (eC (.ty "LookupError")) aNil))))
    (sIf (tBl (op2 neW (rVar 7) (eL (nLst (aCons (op2 (cmpI fun i j => decide (i < j)) (rVar 2) (eC (.int 5))) (aCons (op2 (cmpI fun i j => decide (i < j)) (rVar 2) (eC (.int 5))) (aCons (op2 eqW (rVar 2) (eC (.int 5))) (aCons (op2 (cmpI fun i j => decide (j < i)) (rVar 2) (eC (.int 4))) aNil)))))))) (sRet (eC (.bl false))) sNil)))))))
def nxOf : Res Out → SS
  | .ok (.nx τ) _ => τ
  | _ => []

theorem t0 (v0 v1 v3 v4 v7 v8 v9 v10 : Sl) (a b : MO) : NS.map (fun d => (TH 2).map fun w => rst (Sv 44) [v0, v1, .val (.int 0), v3, v4, .val (.ref 2), .val w, v7, v8, v9, v10] [a, b, .lst [.str "a", .int d]]) = NS.map fun d => (TH 2).map fun w => .ok (.nx (v0 :: v1 :: (nxOf (rst (Sv 44) [v0, v1, .val (.int 0), v3, v4, .val (.ref 2), .val w, v7, v8, v9, v10] [a, b, .lst [.str "a", .int d]])).drop 2)) [a, b, .lst [.str "a", .int d, .str "later"]] := by kernel_rfl
theorem l0 (v0 v1 v3 v4 v7 v8 v9 v10 : Sl) (a b : MO) : NS.map (fun d => (TH 2).map fun w => ((nxOf (rst (Sv 44) [v0, v1, .val (.int 0), v3, v4, .val (.ref 2), .val w, v7, v8, v9, v10] [a, b, .lst [.str "a", .int d]])).drop 2).length) = NS.map fun d => (TH 2).map fun w => 9 := by kernel_rfl

theorem t1 (v0 v1 v3 v4 v7 v8 v9 v10 : Sl) (a b c0 : MO) : NS.map (fun d => (TH 3).map fun w => rst (Sv 44) [v0, v1, .val (.int 1), v3, v4, .val (.ref 3), .val w, v7, v8, v9, v10] [a, b, c0, .lst [.str "a", .int d]]) = NS.map fun d => (TH 3).map fun w => .ok (.nx (v0 :: v1 :: (nxOf (rst (Sv 44) [v0, v1, .val (.int 1), v3, v4, .val (.ref 3), .val w, v7, v8, v9, v10] [a, b, c0, .lst [.str "a", .int d]])).drop 2)) [a, b, c0, .lst [.str "a", .int d, .str "later"]] := by kernel_rfl
theorem l1 (v0 v1 v3 v4 v7 v8 v9 v10 : Sl) (a b c0 : MO) : NS.map (fun d => (TH 3).map fun w => ((nxOf (rst (Sv 44) [v0, v1, .val (.int 1), v3, v4, .val (.ref 3), .val w, v7, v8, v9, v10] [a, b, c0, .lst [.str "a", .int d]])).drop 2).length) = NS.map fun d => (TH 3).map fun w => 9 := by kernel_rfl

theorem t2 (v0 v1 v3 v4 v7 v8 v9 v10 : Sl) (a b c0 c1 : MO) : NS.map (fun d => (TH 4).map fun w => rst (Sv 44) [v0, v1, .val (.int 2), v3, v4, .val (.ref 4), .val w, v7, v8, v9, v10] [a, b, c0, c1, .lst [.str "a", .int d]]) = NS.map fun d => (TH 4).map fun w => .ok (.nx (v0 :: v1 :: (nxOf (rst (Sv 44) [v0, v1, .val (.int 2), v3, v4, .val (.ref 4), .val w, v7, v8, v9, v10] [a, b, c0, c1, .lst [.str "a", .int d]])).drop 2)) [a, b, c0, c1, .lst [.str "a", .int d, .str "later"]] := by kernel_rfl
theorem l2 (v0 v1 v3 v4 v7 v8 v9 v10 : Sl) (a b c0 c1 : MO) : NS.map (fun d => (TH 4).map fun w => ((nxOf (rst (Sv 44) [v0, v1, .val (.int 2), v3, v4, .val (.ref 4), .val w, v7, v8, v9, v10] [a, b, c0, c1, .lst [.str "a", .int d]])).drop 2).length) = NS.map fun d => (TH 4).map fun w => 9 := by kernel_rfl

theorem t3 (v0 v1 v3 v4 v7 v8 v9 v10 : Sl) (a b c0 c1 c2 : MO) : NS.map (fun d => (TH 5).map fun w => rst (Sv 44) [v0, v1, .val (.int 3), v3, v4, .val (.ref 5), .val w, v7, v8, v9, v10] [a, b, c0, c1, c2, .lst [.str "a", .int d]]) = NS.map fun d => (TH 5).map fun w => .ok (.nx (v0 :: v1 :: (nxOf (rst (Sv 44) [v0, v1, .val (.int 3), v3, v4, .val (.ref 5), .val w, v7, v8, v9, v10] [a, b, c0, c1, c2, .lst [.str "a", .int d]])).drop 2)) [a, b, c0, c1, c2, .lst [.str "a", .int d, .str "later"]] := by kernel_rfl
theorem l3 (v0 v1 v3 v4 v7 v8 v9 v10 : Sl) (a b c0 c1 c2 : MO) : NS.map (fun d => (TH 5).map fun w => ((nxOf (rst (Sv 44) [v0, v1, .val (.int 3), v3, v4, .val (.ref 5), .val w, v7, v8, v9, v10] [a, b, c0, c1, c2, .lst [.str "a", .int d]])).drop 2).length) = NS.map fun d => (TH 5).map fun w => 9 := by kernel_rfl

theorem t4 (v0 v1 v3 v4 v7 v8 v9 v10 : Sl) (a b c0 c1 c2 c3 : MO) : NS.map (fun d => (TH 6).map fun w => rst (Sv 44) [v0, v1, .val (.int 4), v3, v4, .val (.ref 6), .val w, v7, v8, v9, v10] [a, b, c0, c1, c2, c3, .lst [.str "a", .int d]]) = NS.map fun d => (TH 6).map fun w => .ok (.nx (v0 :: v1 :: (nxOf (rst (Sv 44) [v0, v1, .val (.int 4), v3, v4, .val (.ref 6), .val w, v7, v8, v9, v10] [a, b, c0, c1, c2, c3, .lst [.str "a", .int d]])).drop 2)) [a, b, c0, c1, c2, c3, .lst [.str "a", .int d, .str "later"]] := by kernel_rfl
theorem l4 (v0 v1 v3 v4 v7 v8 v9 v10 : Sl) (a b c0 c1 c2 c3 : MO) : NS.map (fun d => (TH 6).map fun w => ((nxOf (rst (Sv 44) [v0, v1, .val (.int 4), v3, v4, .val (.ref 6), .val w, v7, v8, v9, v10] [a, b, c0, c1, c2, c3, .lst [.str "a", .int d]])).drop 2).length) = NS.map fun d => (TH 6).map fun w => 9 := by kernel_rfl

theorem t5 (v0 v1 v3 v4 v7 v8 v9 v10 : Sl) (a b c0 c1 c2 c3 c4 : MO) : NS.map (fun d => (TH 7).map fun w => rst (Sv 44) [v0, v1, .val (.int 5), v3, v4, .val (.ref 7), .val w, v7, v8, v9, v10] [a, b, c0, c1, c2, c3, c4, .lst [.str "a", .int d]]) = NS.map fun d => (TH 7).map fun w => .ok (.nx (v0 :: v1 :: (nxOf (rst (Sv 44) [v0, v1, .val (.int 5), v3, v4, .val (.ref 7), .val w, v7, v8, v9, v10] [a, b, c0, c1, c2, c3, c4, .lst [.str "a", .int d]])).drop 2)) [a, b, c0, c1, c2, c3, c4, .lst [.str "a", .int d, .str "later"]] := by kernel_rfl
theorem l5 (v0 v1 v3 v4 v7 v8 v9 v10 : Sl) (a b c0 c1 c2 c3 c4 : MO) : NS.map (fun d => (TH 7).map fun w => ((nxOf (rst (Sv 44) [v0, v1, .val (.int 5), v3, v4, .val (.ref 7), .val w, v7, v8, v9, v10] [a, b, c0, c1, c2, c3, c4, .lst [.str "a", .int d]])).drop 2).length) = NS.map fun d => (TH 7).map fun w => 9 := by kernel_rfl

theorem t6 (v0 v1 v3 v4 v7 v8 v9 v10 : Sl) (a b c0 c1 c2 c3 c4 c5 : MO) : NS.map (fun d => (TH 8).map fun w => rst (Sv 44) [v0, v1, .val (.int 6), v3, v4, .val (.ref 8), .val w, v7, v8, v9, v10] [a, b, c0, c1, c2, c3, c4, c5, .lst [.str "a", .int d]]) = NS.map fun d => (TH 8).map fun w => .ok (.nx (v0 :: v1 :: (nxOf (rst (Sv 44) [v0, v1, .val (.int 6), v3, v4, .val (.ref 8), .val w, v7, v8, v9, v10] [a, b, c0, c1, c2, c3, c4, c5, .lst [.str "a", .int d]])).drop 2)) [a, b, c0, c1, c2, c3, c4, c5, .lst [.str "a", .int d, .str "later"]] := by kernel_rfl
theorem l6 (v0 v1 v3 v4 v7 v8 v9 v10 : Sl) (a b c0 c1 c2 c3 c4 c5 : MO) : NS.map (fun d => (TH 8).map fun w => ((nxOf (rst (Sv 44) [v0, v1, .val (.int 6), v3, v4, .val (.ref 8), .val w, v7, v8, v9, v10] [a, b, c0, c1, c2, c3, c4, c5, .lst [.str "a", .int d]])).drop 2).length) = NS.map fun d => (TH 8).map fun w => 9 := by kernel_rfl

end Pl

namespace Pl
open PySem PySem.Spec PyProof.Rows L2 Sm
theorem law_eq (Γ : Gam) : b_law Γ = (sSeq (sSet 1 (eCall 2 (Γ.f 0) [] (aCons (eVar 0) (aCons (eC (.int 0)) aNil))))
    (sSeq (sFor (iRng rng1 (aCons (eC (.int 7)) aNil)) (bName 2) (sSeq (sSet 5 (ePush (nLst (aCons (eC (.str "a")) (aCons (eCall 2 (Γ.f 1) [] (aCons (eVar 1) (aCons (eC (.int 9)) aNil))) aNil)))))
    (sSeq (sSet 6 (eCall 2 (Γ.f 2) [] (aCons (eVar 1) (aCons (eL (nLst (aCons (eC (.int 0)) (aCons (eC (.int 3)) (aCons (op2 subW (eC (.int 0)) (eC (.int 7))) (aCons (eC (.str "word")) (aCons (eC (.str "")) (aCons (eC .non) (aCons (eTup aNil) (aCons (eVar 5) (aCons (eVar 5) (aCons (eTup (aCons (eC (.str "a")) (aCons (eTup (aCons (eC (.int 2)) aNil)) aNil))) (aCons (eC (.bl true)) (aCons (op2 powW (eC (.int 10)) (eC (.int 20))) aNil)))))))))))))) aNil))))
    (rst Γ))))
    (sSeq (sSet 3 (eC (.exc "InvalidCommand" [] [])))
    (sSeq (sIf (tOrr (tBl (op2 neW (eCall 1 (Γ.f 4) [] (aCons (eVar 3) aNil)) (eL (nLc (iRng rng1 (aCons (eC (.int 8)) aNil)) [10] (bName 10) tYesM (op2 eqW (rVar 10) (eC (.int 7))))))) (tNt (tTru (eBlt (isxW Xx.xc Xx.kt) (aCons (rVar 3) (aCons (eC (.cls "TreeError")) aNil)))))) (sRet (eC (.bl false))) sNil)
    (sSeq (sSet 4 (eMkX "Unanswered" ["at", "name"] 2 [0, 1] (aApp (aCons (eC (.int 2)) (aCons (eC (.str "q")) aNil)) aNil)))
    (sRet (op2 eqW (eTup (aCons (op1 (xfW Xx.xa "at") (eVar 4)) (aCons (op1 (xfW Xx.xa "name") (eVar 4)) aNil))) (eTup (aCons (eC (.int 2)) (aCons (eC (.str "q")) aNil)))))))))) := rfl
theorem turn_ok {d : Int} {w : W} {r m : Sto} (hr : r.length < 7) (hd : d ∈ NS) (hw : w ∈ TH (r.length + 2)) (h : DD (r ++ [.lst [.str "a", .int d]]) m) (v0 v1 v3 v4 v7 v8 v9 v10 : Sl) :
    ∃ t : SS, t.length = 9 ∧ ∃ m', rst (Sv 44) [v0, v1, .val (.int (r.length : Int)), v3, v4, .val (.ref (r.length + 2)), .val w, v7, v8, v9, v10] m = .ok (.nx (v0 :: v1 :: t)) m' ∧ DD (r ++ [.lst [.str "a", .int d, .str "later"]]) m' := by
  obtain ⟨cs, x, rfl, hc⟩ := h
  have : r.length = 0 ∨ r.length = 1 ∨ r.length = 2 ∨ r.length = 3 ∨ r.length = 4 ∨ r.length = 5 ∨ r.length = 6 := by omega
  rcases this with l | l | l | l | l | l | l
  · match r, l with
    | [], _ =>
    have e := mapE (mapE (t0 v0 v1 v3 v4 v7 v8 v9 v10 (.lst (cs.map .int)) (.lst [.ref 0, .int x]) ) hd) hw
    have e2 := mapE (mapE (l0 v0 v1 v3 v4 v7 v8 v9 v10 (.lst (cs.map .int)) (.lst [.ref 0, .int x]) ) hd) hw
    exact ⟨_, e2, _, e, ⟨cs, x, rfl, hc⟩⟩
  · match r, l with
    | [c0], _ =>
    have e := mapE (mapE (t1 v0 v1 v3 v4 v7 v8 v9 v10 (.lst (cs.map .int)) (.lst [.ref 0, .int x]) c0) hd) hw
    have e2 := mapE (mapE (l1 v0 v1 v3 v4 v7 v8 v9 v10 (.lst (cs.map .int)) (.lst [.ref 0, .int x]) c0) hd) hw
    exact ⟨_, e2, _, e, ⟨cs, x, rfl, hc⟩⟩
  · match r, l with
    | [c0, c1], _ =>
    have e := mapE (mapE (t2 v0 v1 v3 v4 v7 v8 v9 v10 (.lst (cs.map .int)) (.lst [.ref 0, .int x]) c0 c1) hd) hw
    have e2 := mapE (mapE (l2 v0 v1 v3 v4 v7 v8 v9 v10 (.lst (cs.map .int)) (.lst [.ref 0, .int x]) c0 c1) hd) hw
    exact ⟨_, e2, _, e, ⟨cs, x, rfl, hc⟩⟩
  · match r, l with
    | [c0, c1, c2], _ =>
    have e := mapE (mapE (t3 v0 v1 v3 v4 v7 v8 v9 v10 (.lst (cs.map .int)) (.lst [.ref 0, .int x]) c0 c1 c2) hd) hw
    have e2 := mapE (mapE (l3 v0 v1 v3 v4 v7 v8 v9 v10 (.lst (cs.map .int)) (.lst [.ref 0, .int x]) c0 c1 c2) hd) hw
    exact ⟨_, e2, _, e, ⟨cs, x, rfl, hc⟩⟩
  · match r, l with
    | [c0, c1, c2, c3], _ =>
    have e := mapE (mapE (t4 v0 v1 v3 v4 v7 v8 v9 v10 (.lst (cs.map .int)) (.lst [.ref 0, .int x]) c0 c1 c2 c3) hd) hw
    have e2 := mapE (mapE (l4 v0 v1 v3 v4 v7 v8 v9 v10 (.lst (cs.map .int)) (.lst [.ref 0, .int x]) c0 c1 c2 c3) hd) hw
    exact ⟨_, e2, _, e, ⟨cs, x, rfl, hc⟩⟩
  · match r, l with
    | [c0, c1, c2, c3, c4], _ =>
    have e := mapE (mapE (t5 v0 v1 v3 v4 v7 v8 v9 v10 (.lst (cs.map .int)) (.lst [.ref 0, .int x]) c0 c1 c2 c3 c4) hd) hw
    have e2 := mapE (mapE (l5 v0 v1 v3 v4 v7 v8 v9 v10 (.lst (cs.map .int)) (.lst [.ref 0, .int x]) c0 c1 c2 c3 c4) hd) hw
    exact ⟨_, e2, _, e, ⟨cs, x, rfl, hc⟩⟩
  · match r, l with
    | [c0, c1, c2, c3, c4, c5], _ =>
    have e := mapE (mapE (t6 v0 v1 v3 v4 v7 v8 v9 v10 (.lst (cs.map .int)) (.lst [.ref 0, .int x]) c0 c1 c2 c3 c4 c5) hd) hw
    have e2 := mapE (mapE (l6 v0 v1 v3 v4 v7 v8 v9 v10 (.lst (cs.map .int)) (.lst [.ref 0, .int x]) c0 c1 c2 c3 c4 c5) hd) hw
    exact ⟨_, e2, _, e, ⟨cs, x, rfl, hc⟩⟩
end Pl

namespace Pl
open PySem PySem.Spec PyProof.Rows L2 Sm
noncomputable def fin (Γ : Gam) : Fs := (sSeq (sSet 3 (eC (.exc "InvalidCommand" [] [])))
    (sSeq (sIf (tOrr (tBl (op2 neW (eCall 1 (Γ.f 4) [] (aCons (eVar 3) aNil)) (eL (nLc (iRng rng1 (aCons (eC (.int 8)) aNil)) [10] (bName 10) tYesM (op2 eqW (rVar 10) (eC (.int 7))))))) (tNt (tTru (eBlt (isxW Xx.xc Xx.kt) (aCons (rVar 3) (aCons (eC (.cls "TreeError")) aNil)))))) (sRet (eC (.bl false))) sNil)
    (sSeq (sSet 4 (eMkX "Unanswered" ["at", "name"] 2 [0, 1] (aApp (aCons (eC (.int 2)) (aCons (eC (.str "q")) aNil)) aNil)))
    (sRet (op2 eqW (eTup (aCons (op1 (xfW Xx.xa "at") (eVar 4)) (aCons (op1 (xfW Xx.xa "name") (eVar 4)) aNil))) (eTup (aCons (eC (.int 2)) (aCons (eC (.str "q")) aNil))))))))
theorem law_eq2 (Γ : Gam) : b_law Γ = (sSeq (sSet 1 (eCall 2 (Γ.f 0) [] (aCons (eVar 0) (aCons (eC (.int 0)) aNil))))
    (sSeq (sFor (iRng rng1 (aCons (eC (.int 7)) aNil)) (bName 2) (sSeq (sSet 5 (ePush (nLst (aCons (eC (.str "a")) (aCons (eCall 2 (Γ.f 1) [] (aCons (eVar 1) (aCons (eC (.int 9)) aNil))) aNil)))))
    (sSeq (sSet 6 (eCall 2 (Γ.f 2) [] (aCons (eVar 1) (aCons (eL (nLst (aCons (eC (.int 0)) (aCons (eC (.int 3)) (aCons (op2 subW (eC (.int 0)) (eC (.int 7))) (aCons (eC (.str "word")) (aCons (eC (.str "")) (aCons (eC .non) (aCons (eTup aNil) (aCons (eVar 5) (aCons (eVar 5) (aCons (eTup (aCons (eC (.str "a")) (aCons (eTup (aCons (eC (.int 2)) aNil)) aNil))) (aCons (eC (.bl true)) (aCons (op2 powW (eC (.int 10)) (eC (.int 20))) aNil)))))))))))))) aNil))))
    (rst Γ))))
    (fin Γ))) := rfl
theorem fin_ok (v0 v1 v2 v3 v4 v5 v6 v7 v8 v9 v10 : Sl) (m : Sto) : fin (Sv 44) [v0, v1, v2, v3, v4, v5, v6, v7, v8, v9, v10] m = .ok (.rt (.bl true)) m := by kernel_rfl
theorem law_plainS (ns : List Int) (hn : ns.length ≤ 63) : ∃ m', (Sv 45).f 5 [.lst (ns.map .int)] [] = .ok (.bl true) m' := by
  have HP : Pick (Sv 44) := pick_K (by omega)
  have HD : Draw (Sv 44) := draw_K (by omega)
  obtain ⟨m0, e0, h0⟩ := deal_K (K := 44) (by omega) ns hn
  have TO := @turn_ok
  have FN := fin_ok
  rw [Sf_law]
  generalize Sv 44 = Γ at e0 HP HD TO FN ⊢
  have key : Wp (runB N_law.length (b_law Γ) [.lst (ns.map .int)] []) (fun w _ => w = .bl true) (fun _ _ => False) := by
    simp (decide := true) only [wps0, wps1, wps2, wps3, wps4, wps5, wps6, wps7, wps8, wps9, wps10, wps11, if_true, if_false, List.map_cons, List.map_nil, List.length_cons, List.length_nil, List.cons_append, List.nil_append, List.append_nil, List.replicate_succ, List.replicate_zero, List.set_cons_succ, List.set_cons_zero, List.getElem?_cons_succ, List.getElem?_cons_zero, List.length_append, List.length_map, List.reverse_cons, List.reverse_nil, Option.map_some, Option.map_none, Option.bind_some, Option.bind_none, Nat.zero_add, decide_eq_true_eq, decide_true, decide_false, Bool.true_and, Bool.and_true, Bool.not_true, Bool.not_false, Bool.false_eq_true, Bool.or_true, Bool.true_or, Bool.or_false, Bool.false_or, Bool.false_and, Bool.and_false, Bool.not_not, and_true, true_and, not_false_eq_true, not_true_eq_false, toW, putS, bName, bTup, bAll, itW, seqW, wipeS, Nat.reduceLeDiff, Nat.reduceAdd, Nat.reduceSub, Nat.reduceLT, law_eq2, N_law, e0, rngI (c := 7) (n := 7) rfl (by omega)]
    refine Wp.forI (fun l τ m => ∃ r, DD r m ∧ r.length + l.length = 7 ∧ l = ((List.range 7).drop r.length).map (fun i : Nat => W.int i) ∧ ∃ t : SS, t.length = 9 ∧ τ = .val (.lst (ns.map .int)) :: .val (.ref 1) :: t) ?_ ?_ _ _ _ ⟨[], h0, by simp, by simp, _, rfl, rfl⟩
    · rintro x xs τ m ⟨r, h, hl, hx, t, ht, rfl⟩
      match t, ht with
      | [v2, v3, v4, v5, v6, v7, v8, v9, v10], _ =>
      have hr : r.length < 7 := by simp at hl; omega
      obtain ⟨rfl, hxs⟩ : x = .int (r.length : Int) ∧ xs = ((List.range 7).drop (r.length + 1)).map (fun i : Nat => W.int i) := by
        rw [List.drop_eq_getElem_cons (by simpa using hr), List.map_cons, List.cons.injEq] at hx
        simpa using hx
      simp (decide := true) only [wps0, wps1, wps2, wps3, wps4, wps5, wps6, wps7, wps8, wps9, wps10, wps11, if_true, if_false, List.map_cons, List.map_nil, List.length_cons, List.length_nil, List.cons_append, List.nil_append, List.append_nil, List.replicate_succ, List.replicate_zero, List.set_cons_succ, List.set_cons_zero, List.getElem?_cons_succ, List.getElem?_cons_zero, List.length_append, List.length_map, List.reverse_cons, List.reverse_nil, Option.map_some, Option.map_none, Option.bind_some, Option.bind_none, Nat.zero_add, decide_eq_true_eq, decide_true, decide_false, Bool.true_and, Bool.and_true, Bool.not_true, Bool.not_false, Bool.false_eq_true, Bool.or_true, Bool.true_or, Bool.or_false, Bool.false_or, Bool.false_and, Bool.and_false, Bool.not_not, and_true, true_and, not_false_eq_true, not_true_eq_false, toW, putS, bName, bTup, bAll, itW, seqW, wipeS, Nat.reduceLeDiff, Nat.reduceAdd, Nat.reduceSub, Nat.reduceLT]
      refine HD.wp h (by omega) (by omega) fun d m1 d0 d1 h1 => ?_
      have hd : d ∈ NS := by
        have : d = 0 ∨ d = 1 ∨ d = 2 ∨ d = 3 ∨ d = 4 ∨ d = 5 ∨ d = 6 ∨ d = 7 ∨ d = 8 := by omega
        simpa [NS] using this
      obtain ⟨cs, xx, rfl, hc⟩ := h1
      have hlen : (D cs xx r).length = r.length + 2 := rfl
      have h2 : DD (r ++ [.lst [.str "a", .int d]]) (D cs xx r ++ [.lst [.str "a", .int d]]) := ⟨cs, xx, rfl, hc⟩
      have p20 : ∀ m, powW (.int 10) (.int 20) m = some (.int 100000000000000000000) := fun m => by kernel_rfl
      simp (decide := true) only [wps0, wps1, wps2, wps3, wps4, wps5, wps6, wps7, wps8, wps9, wps10, wps11, if_true, if_false, List.map_cons, List.map_nil, List.length_cons, List.length_nil, List.cons_append, List.nil_append, List.append_nil, List.replicate_succ, List.replicate_zero, List.set_cons_succ, List.set_cons_zero, List.getElem?_cons_succ, List.getElem?_cons_zero, List.length_append, List.length_map, List.reverse_cons, List.reverse_nil, Option.map_some, Option.map_none, Option.bind_some, Option.bind_none, Nat.zero_add, decide_eq_true_eq, decide_true, decide_false, Bool.true_and, Bool.and_true, Bool.not_true, Bool.not_false, Bool.false_eq_true, Bool.or_true, Bool.true_or, Bool.or_false, Bool.false_or, Bool.false_and, Bool.and_false, Bool.not_not, and_true, true_and, not_false_eq_true, not_true_eq_false, toW, putS, bName, bTup, bAll, itW, seqW, wipeS, Nat.reduceLeDiff, Nat.reduceAdd, Nat.reduceSub, Nat.reduceLT, hlen, sub_int, p20, le_size]
      refine HP.wp h2 (by simp) (by simp) fun w m3 hw h3 => ?_
      have hw' : w ∈ TH (r.length + 2) := hw
      obtain ⟨t, ht, m4, e4, h4⟩ := TO hr hd hw' h3 (.val (.lst (ns.map .int))) (.val (.ref 1)) v3 v4 v7 v8 v9 v10
      simp (decide := true) only [wps0, wps1, wps2, wps3, wps4, wps5, wps6, wps7, wps8, wps9, wps10, wps11, if_true, if_false, List.map_cons, List.map_nil, List.length_cons, List.length_nil, List.cons_append, List.nil_append, List.append_nil, List.replicate_succ, List.replicate_zero, List.set_cons_succ, List.set_cons_zero, List.getElem?_cons_succ, List.getElem?_cons_zero, List.length_append, List.length_map, List.reverse_cons, List.reverse_nil, Option.map_some, Option.map_none, Option.bind_some, Option.bind_none, Nat.zero_add, decide_eq_true_eq, decide_true, decide_false, Bool.true_and, Bool.and_true, Bool.not_true, Bool.not_false, Bool.false_eq_true, Bool.or_true, Bool.true_or, Bool.or_false, Bool.false_or, Bool.false_and, Bool.and_false, Bool.not_not, and_true, true_and, not_false_eq_true, not_true_eq_false, toW, putS, bName, bTup, bAll, itW, seqW, wipeS, Nat.reduceLeDiff, Nat.reduceAdd, Nat.reduceSub, Nat.reduceLT]
      refine Wp.to e4 ?_
      simp (decide := true) only [wps0, wps1, wps2, wps3, wps4, wps5, wps6, wps7, wps8, wps9, wps10, wps11, if_true, if_false, List.map_cons, List.map_nil, List.length_cons, List.length_nil, List.cons_append, List.nil_append, List.append_nil, List.replicate_succ, List.replicate_zero, List.set_cons_succ, List.set_cons_zero, List.getElem?_cons_succ, List.getElem?_cons_zero, List.length_append, List.length_map, List.reverse_cons, List.reverse_nil, Option.map_some, Option.map_none, Option.bind_some, Option.bind_none, Nat.zero_add, decide_eq_true_eq, decide_true, decide_false, Bool.true_and, Bool.and_true, Bool.not_true, Bool.not_false, Bool.false_eq_true, Bool.or_true, Bool.true_or, Bool.or_false, Bool.false_or, Bool.false_and, Bool.and_false, Bool.not_not, and_true, true_and, not_false_eq_true, not_true_eq_false, toW, putS, bName, bTup, bAll, itW, seqW, wipeS, Nat.reduceLeDiff, Nat.reduceAdd, Nat.reduceSub, Nat.reduceLT]
      exact ⟨_, h4, by simp at hl ⊢; omega, by rw [hxs]; simp, t, ht, rfl⟩
    · rintro τ m ⟨r, h, _, _, t, ht, rfl⟩
      match t, ht with
      | [v2, v3, v4, v5, v6, v7, v8, v9, v10], _ =>
      simp (decide := true) only [wps0, wps1, wps2, wps3, wps4, wps5, wps6, wps7, wps8, wps9, wps10, wps11, if_true, if_false, List.map_cons, List.map_nil, List.length_cons, List.length_nil, List.cons_append, List.nil_append, List.append_nil, List.replicate_succ, List.replicate_zero, List.set_cons_succ, List.set_cons_zero, List.getElem?_cons_succ, List.getElem?_cons_zero, List.length_append, List.length_map, List.reverse_cons, List.reverse_nil, Option.map_some, Option.map_none, Option.bind_some, Option.bind_none, Nat.zero_add, decide_eq_true_eq, decide_true, decide_false, Bool.true_and, Bool.and_true, Bool.not_true, Bool.not_false, Bool.false_eq_true, Bool.or_true, Bool.true_or, Bool.or_false, Bool.false_or, Bool.false_and, Bool.and_false, Bool.not_not, and_true, true_and, not_false_eq_true, not_true_eq_false, toW, putS, bName, bTup, bAll, itW, seqW, wipeS, Nat.reduceLeDiff, Nat.reduceAdd, Nat.reduceSub, Nat.reduceLT]
      refine Wp.to (FN _ _ _ _ _ _ _ _ _ _ _ _) ?_
      simp (decide := true) only [wps0, wps1, wps2, wps3, wps4, wps5, wps6, wps7, wps8, wps9, wps10, wps11, if_true, if_false, List.map_cons, List.map_nil, List.length_cons, List.length_nil, List.cons_append, List.nil_append, List.append_nil, List.replicate_succ, List.replicate_zero, List.set_cons_succ, List.set_cons_zero, List.getElem?_cons_succ, List.getElem?_cons_zero, List.length_append, List.length_map, List.reverse_cons, List.reverse_nil, Option.map_some, Option.map_none, Option.bind_some, Option.bind_none, Nat.zero_add, decide_eq_true_eq, decide_true, decide_false, Bool.true_and, Bool.and_true, Bool.not_true, Bool.not_false, Bool.false_eq_true, Bool.or_true, Bool.true_or, Bool.or_false, Bool.false_or, Bool.false_and, Bool.and_false, Bool.not_not, and_true, true_and, not_false_eq_true, not_true_eq_false, toW, putS, bName, bTup, bAll, itW, seqW, wipeS, Nat.reduceLeDiff, Nat.reduceAdd, Nat.reduceSub, Nat.reduceLT]
  obtain ⟨a, m, e, rfl⟩ := key.out
  exact ⟨m, e⟩
end Pl
namespace Sm
theorem law_plain (ns : List Int) (hn : ns.length ≤ 63) : ∃ m', (Sv 45).f 5 [.lst (ns.map .int)] [] = .ok (.bl true) m' := Pl.law_plainS ns hn
end Sm

namespace Sm
open PySem PySem.Spec PyProof.Rows L2
theorem law_facts {P : Program} {w : World} {K : PySem.W.Frag} {h : Heap} {mg : Str → Option Value} {f : Addr} (hf : (P.main.file : Str) = fileK) (top : (P.main.scope.names.lookup ("super" : Str)).isSome = false) (X : K.In h) (G : h.Ns mainGlobals mg) (hfa : mg ("law" : Str) = some (.ref f)) (c : SaysU Bk ds K) :
    ∃ fd : FuncData, (∀ (s : Shared) (v : Value), BindsTo s fd ⟨[v], []⟩ [("_law_script", v)]) ∧ ∀ base : Heap, K.In base → base.Ns mainGlobals mg → FnOk P w K mg base (CX P w) (4 * 45) f fd ["_law_script"] (spF ⟨K, He.ga K⟩ 1 ((Sv 45).f 5)) := by
  have b := Bk_of c.b
  have bd : ∀ (i : Nat) {z : Bool}, (Bdd K)[i]? = some z → z = true := fun i z e => List.all_eq_true.mp b.2.2.1 z (List.mem_of_getElem? e)
  obtain ⟨fd, Fd⟩ := funD_of (d := ⟨("law", none), "law", "law", defArgs st_law, defBody st_law, defScope st_law, false⟩) (c.d 5) (bd 5 (by rfl))
  have e := hfa.symm.trans (He.glo_ok X G (List.all_eq_true.mp b.2.2.2.2.2.1 "law" (by decide)))
  cases e
  have bb := FunD.bindsA (ps := ["_law_script"]) Fd fun _ _ _ _ _ _ us hl => match us, hl with | [_], _ => rfl
  exact ⟨fd, fun s v => bb s [v] rfl, fun base _ _ => (oks_all hf top c X G 45).o5 fd Fd⟩
end Sm
open PySem PySem.W PySem.Calls PyProof.Rows
theorem PySem.Challenge.cw_deedtrees_k01_errors_and_what_they_keep_holds : PySem.Challenge.rw_deedtrees_k01_errors_and_what_they_keep.Holds := by
  w_on; o_law
  refine HandSHeadRun.head_any (r := OpenLaw.row PySem.Challenge.rw_deedtrees_k01_errors_and_what_they_keep) (q := view (OpenLaw.row PySem.Challenge.rw_deedtrees_k01_errors_and_what_they_keep).prog [16]) (H := Sm.hk) (ob := Sm.ob) (M := 20000) (loose := Sm.looseA) (d := HandSHeadRun.topDef (OpenLaw.row PySem.Challenge.rw_deedtrees_k01_errors_and_what_they_keep).prog 16) (kwd := []) Sm.ob_eq
    (by kernel_rfl) (fun s => by kernel_rfl) (fun w => PySem.W.byRow2 "special-get-raises" Sm.run_f Sm.run_t w) (by kernel_rfl) (by kernel_rfl) (by kernel_rfl) (by rfl) (by first | assumption | decide +kernel) (by decide +kernel) ⟨rfl, rfl, rfl, rfl, rfl, by decide +kernel⟩ ?hw ?hc
  case hw => w_witness2
  case hc =>
    refine Sm.walk_G (l := PySem.Challenge.rw_deedtrees_k01_errors_and_what_they_keep) (n := 63) (k := 4 * 45) (x := "_law_script") (cx := L2.CX0) rfl (by decide) (by kernel_rfl) ⟨⟨rfl, by decide, by decide⟩, rfl⟩ ?F (fun _ _ _ _ z => z)
    intro w mg fa h Y G hmg0
    obtain ⟨K, KX, c⟩ := Y
    have hmg : mg ("law" : PySem.Str) = some (.ref fa) := by
      have e : (HandSHeadRun.topDef (OpenLaw.row PySem.Challenge.rw_deedtrees_k01_errors_and_what_they_keep).prog 16).name = ("law" : PySem.Str) := by kernel_rfl
      rw [← e]
      exact hmg0
    obtain ⟨fd, hb, hF⟩ := Sm.law_facts (P := (PySem.Challenge.rw_deedtrees_k01_errors_and_what_they_keep).prog) (w := w) (by kernel_rfl) (by kernel_rfl) KX G hmg c
    exact ⟨K, fd, fun vs H Q _ => Sm.spF ⟨K, He.ga K⟩ 1 ((Sm.Sv 45).f 5) vs H Q fun _ _ _ => False, KX, hb, fun H a ns hl hO hS => Sm.law_end hO hS (Sm.rd_of (Sm.Bk_of c.b).2.2.2.2.2.2.1 hS) (Sm.law_plain ns hl), fun base h1 h2 => Sm.noX (hF base h1 h2)⟩

