import PyProof.Rows.All
import Wide.All
import OpenK.AllK
import Wide.FinOn
import PySem.Challenge.RW_xm0961_01
set_option Elab.async false
set_option maxRecDepth 100000
set_option maxHeartbeats 0
set_option linter.all false
namespace Mine
section
open PySem PySem.W PySem.W.X PySem.Calls PySem.Spec PyProof.Rows
noncomputable def den : Code → Sem Fin := PySem.W.Fast.tw11892475500146522536 PySem.W.Fast.tw14364793385576792824
theorem den_eq : denote table = den := by
  rw [table_eq_tree, PySem.W.Fast.te11892475500146522536, PySem.W.Fast.te14364793385576792824]; rfl
end
section
open PySem PySem.W PySem.W.X PySem.W.ZRun PySem.Calls PySem.Spec PyProof.Rows
noncomputable def goT (thr ok : Thread → Bool) (st : SharedT → Thread → Option (SharedT × Thread)) : Nat → SharedT → Thread → Option SharedT
  | 0, _, _ => none
  | n + 1, s, t => match thr t with
    | true => some s
    | false => match ok t with
      | false => none
      | true => match st s t with
        | some (s', t') => goT thr ok st n s' t'
        | none => none
theorem goT_of {tb : String → Option Builtin} {p : Program} {w : World} {n₀ : Nat} {ann : Option Value} : ∀ {n : Nat} {s s' : SharedT} {t : Thread},
    goT through (stepOk n₀ ann) (stepT (denote tb) p w) n s t = some s' → topRun tb p w n₀ ann n s.abs t = some s'.abs
  | 0, _, _, _, h => by cases h
  | n + 1, s, s', t, h => by
    unfold goT at h
    unfold topRun
    cases ht : through t with
    | true => rw [ht] at h; cases h; rfl
    | false =>
      rw [ht] at h
      cases hk : stepOk n₀ ann t with
      | false => rw [hk] at h; cases h
      | true =>
        rw [hk] at h
        cases hs : stepT (denote tb) p w s t with
        | none => rw [hs] at h; cases h
        | some r => obtain ⟨s₂, t₂⟩ := r; rw [hs] at h; rw [stepT_spec hs]; exact goT_of h
noncomputable def grow : List Obj → BT → Nat → BT
  | [], t, _ => t
  | o :: l, t, n => grow l (t.ins n o) (n + 1)
noncomputable def growOk : List Obj → BT → Nat → Bool
  | [], _, _ => true
  | o :: l, t, n => match ((t.ins n o).get n).isSome with
    | true => growOk l (t.ins n o) (n + 1)
    | false => false
theorem grow_abs {life : Life} : ∀ (l : List Obj) (t : BT) (n : Nat), growOk l t n = true → absHeap (grow l t n) (n + l.length) life = ⟨((absHeap t n life).objs.toList ++ l).toArray, life⟩
  | [], t, n, _ => by simp [grow, absHeap]
  | o :: l, t, n, h => by
    unfold growOk at h
    cases hi : ((t.ins n o).get n).isSome with
    | false => rw [hi] at h; cases h
    | true =>
      rw [hi] at h
      have := grow_abs (life := life) l (t.ins n o) (n + 1) h
      rw [absHeap_ins hi] at this
      unfold grow
      rw [List.length_cons, show n + (l.length + 1) = n + 1 + l.length by omega, this]
      simp [Heap.push]
noncomputable def bootT (P : Params) : BT := grow (boot_heap P).objs.toList .nil 0
noncomputable def bootS (w : World) (m₀ : Nat) (os : OsState) : SharedT := ⟨bootT w.params, m₀, (boot_heap w.params).life, ⟨[]⟩, boot_drawn, boot_toks, os⟩
noncomputable def theRun (p : Program) (m₀ : Nat) (ann : Option Value) (N : Nat) (w : World) (os : OsState) : Option SharedT :=
  goT through (Fast.tw6613529449190102663 m₀ ann) (Fast.tw10156331382660048174 den p w) N (bootS w m₀ os) (topStub p)
theorem left_run {p q : Program} {loose : List Str} {Xt : Shared → Bool} {α : Type} {Yf : Shared → α} {Ya : World → α} {N m₀ : Nat} {ann : Option Value}
    (e : opening p = plainProg p.main.scope.names) (hN : Nat.ble 600 N = true) (f : ∀ s, fenceModules? p s = some s)
    (z : ∀ w : World, ((boot_heap w.params).isNs mainGlobals && (Array.mk (α := GenState) []).size == 0, (boot_heap w.params).objs.size, (boot_heap w.params).nsMap mainGlobals "__annotations__", growOk (boot_heap w.params).objs.toList .nil 0) = (true, m₀, ann, true))
    (ha : ∀ (w : World) (os : OsState), (theRun p m₀ ann N w os).map (fun s =>
          ((staticsOk (Fast.tw5923862056798008813 p.main.body) (boot_heap w.params) s.abs.heap && namesBound p s.abs.heap && gensDone s.abs && laidKept (boot_heap w.params) s.abs.heap),
            seen ((recsOf q).map (·.name)) (ownsOf q) [] { s.abs with gens := #[] }, s.abs.heap.bltView, tabsOk q s.abs, pinSeenD q (drecsOf q) s.abs)) =
        some (true, expectedOf q, bltViewBooted, true, pinGoodD (drecsOf q)))
    (hb : ∀ (w : World) (os : OsState), (theRun p m₀ ann N w os).map (fun s =>
          ((s.abs.heap.keysOk (looseW q loose) ((recsOf q).map (·.name)) ((litsOf q).map (·.1)) ((clssOf q (looseW q loose)).map (·.name)) && s.abs.heap.accountedOkI (Fast.tw5923862056798008813 p.main.body) && s.abs.heap.isNs mainGlobals && s.abs.heap.isNs builtinsNs && tablesOk q s.abs.heap && Xt s.abs && (s.abs.gens.size == 0)),
            plainSeenD q loose s.abs, wideSeen q s.abs, clsSeenW q loose s.abs)) =
        some (true, plainGoodD q loose, wideGood q, clsGoodW q loose))
    (hc : ∀ (w : World) (os : OsState), (theRun p m₀ ann N w os).map (fun s => plainSeenE q (looseW q loose) s.abs) = some (plainGoodE q (looseW q loose)))
    (hy : ∀ (w : World) (os : OsState), (theRun p m₀ ann N w os).map (fun s => Yf s.abs) = some (Ya w)) : LeftO p q loose Xt Yf Ya N := fun w => by
  obtain ⟨⟨hh, gs, d, k, os⟩, e1, e2⟩ := Option.map_eq_some_iff.mp (boot_open e hN f w)
  obtain ⟨rfl, rfl, rfl, rfl⟩ : hh = boot_heap w.params ∧ gs = ⟨[]⟩ ∧ d = boot_drawn ∧ k = boot_toks := by simpa using e2
  have z' := z w
  simp only [Prod.mk.injEq] at z'
  obtain ⟨z1, z2, z3, z4⟩ := z'
  obtain ⟨s, h1, ha⟩ := Option.map_eq_some_iff.mp (ha w os)
  have hb := hb w os
  have hc := hc w os
  have hy := hy w os
  rw [h1] at hb hc hy
  have hb := Option.some.inj hb
  have hc := Option.some.inj hc
  have hy := Option.some.inj hy
  rw [← Fast.te5923862056798008813] at ha hb
  unfold theRun at h1
  rw [← Fast.te10156331382660048174, ← Fast.te6613529449190102663, ← den_eq, table_eq_tree] at h1
  obtain ⟨a1, a2⟩ := Prod.mk.inj ha
  obtain ⟨a2, a3⟩ := Prod.mk.inj a2
  obtain ⟨a3, a4⟩ := Prod.mk.inj a3
  obtain ⟨a4, a5⟩ := Prod.mk.inj a4
  obtain ⟨b1, b2⟩ := Prod.mk.inj hb
  obtain ⟨b2, b3⟩ := Prod.mk.inj b2
  obtain ⟨b3, b4⟩ := Prod.mk.inj b3
  have r := goT_of h1
  have b : (bootS w m₀ os).abs = ⟨boot_heap w.params, ⟨[]⟩, boot_drawn, boot_toks, os⟩ := by
    have g := grow_abs (life := (boot_heap w.params).life) _ _ _ z4
    have : 0 + (boot_heap w.params).objs.toList.length = m₀ := by rw [← z2]; simp
    rw [this] at g
    unfold bootS SharedT.abs bootT
    dsimp only
    rw [g]
    congr 1
  rw [b] at r
  unfold openEnds
  rw [e1]
  show (topFrom treeTable p w N _).map _ = _
  unfold topFrom
  dsimp only
  rw [z1, z2, z3, r]
  simp only [Option.bind_some]
  rw [a1]
  refine congrArg some (Prod.ext ?_ hy)
  unfold openSeen openGood
  simp only [if_true]
  refine Prod.ext a2 (Prod.ext a3 (Prod.ext b1 (Prod.ext a4 (Prod.ext a5 (Prod.ext hc (Prod.ext b2 (Prod.ext b3 b4)))))))
theorem left_at {p q q' : Program} {loose : List Str} {R : WRecords} {α : Type} {Yf : Shared → α} {Ya : World → α} {N m₀ : Nat} {ann : Option Value}
    (hq : q = q') (e : opening p = plainProg p.main.scope.names) (hN : Nat.ble 600 N = true) (f : ∀ s, fenceModules? p s = some s)
    (z : ∀ w : World, ((boot_heap w.params).isNs mainGlobals && (Array.mk (α := GenState) []).size == 0, (boot_heap w.params).objs.size, (boot_heap w.params).nsMap mainGlobals "__annotations__", growOk (boot_heap w.params).objs.toList .nil 0) = (true, m₀, ann, true))
    (ha : ∀ (w : World) (os : OsState), (theRun p m₀ ann N w os).map (fun s =>
          ((staticsOk (Fast.tw5923862056798008813 p.main.body) (boot_heap w.params) s.abs.heap && namesBound p s.abs.heap && gensDone s.abs && laidKept (boot_heap w.params) s.abs.heap),
            seen ((recsOf q').map (·.name)) (ownsOf q') [] { s.abs with gens := #[] }, s.abs.heap.bltView, tabsOk q' s.abs, pinSeenD q' (drecsOf q') s.abs)) =
        some (true, expectedOf q', bltViewBooted, true, pinGoodD (drecsOf q')))
    (hb : ∀ (w : World) (os : OsState), (theRun p m₀ ann N w os).map (fun s =>
          ((s.abs.heap.keysOk (looseW q' loose) ((recsOf q').map (·.name)) ((litsOf q').map (·.1)) ((clssOf q' (looseW q' loose)).map (·.name)) && s.abs.heap.accountedOkI (Fast.tw5923862056798008813 p.main.body) && s.abs.heap.isNs mainGlobals && s.abs.heap.isNs builtinsNs && tablesOk q' s.abs.heap && (xlAt q' [] s.abs && recOk R s.abs) && (s.abs.gens.size == 0)),
            plainSeenD q' loose s.abs, wideSeen q' s.abs, clsSeenW q' loose s.abs)) =
        some (true, plainGoodD q' loose, wideGood q', clsGoodW q' loose))
    (hc : ∀ (w : World) (os : OsState), (theRun p m₀ ann N w os).map (fun s => plainSeenE q' (looseW q' loose) s.abs) = some (plainGoodE q' (looseW q' loose)))
    (hy : ∀ (w : World) (os : OsState), (theRun p m₀ ann N w os).map (fun s => Yf s.abs) = some (Ya w)) : LeftO p q loose (fun s => xlAt q [] s && recOk R s) Yf Ya N := by
  subst hq
  exact left_run e hN f z ha hb hc hy
open PySem.Challenge
noncomputable def myp : Program := rw_xm0961_01.row.prog
noncomputable def myq : Program := view rw_xm0961_01.row.prog [1, 2, 3, 4, 5, 6, 7, 8, 9, 10, 11, 12, 13, 14, 15, 16, 17, 18, 19, 20, 21, 22, 23, 24, 25, 26, 27, 28, 30, 31, 32, 33, 34, 35, 36, 37, 38, 39, 40, 41, 43, 44, 45, 47, 48, 49, 50, 52, 53, 54, 55, 56, 57, 58, 59, 60, 61, 62, 63, 64, 65, 66, 67, 68, 69, 70, 71, 73, 74, 75, 76, 77, 78, 79, 80, 82, 84, 85, 86, 87, 88, 89, 90, 91, 92, 94, 95]
noncomputable def myl : List Str := [Str.ofString "SnobolError", Str.ofString "plain_count"]
theorem my_e : opening rw_xm0961_01.row.prog = plainProg rw_xm0961_01.row.prog.main.scope.names := by kernel_rfl
theorem my_f : ∀ s, fenceModules? rw_xm0961_01.row.prog s = some s := fun s => by rfl
theorem my_z : ∀ w : World, ((boot_heap w.params).isNs mainGlobals && (Array.mk (α := GenState) []).size == 0, (boot_heap w.params).objs.size, (boot_heap w.params).nsMap mainGlobals "__annotations__", growOk (boot_heap w.params).objs.toList .nil 0) = (true, 11, some (.ref 6), true) := fun w => by kernel_rfl
theorem my_a (w : World) (os : OsState) : (theRun rw_xm0961_01.row.prog 11 (some (.ref 6)) 9162 w os).map (fun s =>
          ((staticsOk (Fast.tw5923862056798008813 rw_xm0961_01.row.prog.main.body) (boot_heap w.params) s.abs.heap && namesBound rw_xm0961_01.row.prog s.abs.heap && gensDone s.abs && laidKept (boot_heap w.params) s.abs.heap),
            seen ((recsOf myq).map (·.name)) (ownsOf myq) [] { s.abs with gens := #[] }, s.abs.heap.bltView, tabsOk myq s.abs, pinSeenD myq (drecsOf myq) s.abs)) =
        some (true, expectedOf myq, bltViewBooted, true, pinGoodD (drecsOf myq)) := by kernel_rfl
theorem my_b (w : World) (os : OsState) : (theRun rw_xm0961_01.row.prog 11 (some (.ref 6)) 9162 w os).map (fun s =>
          ((s.abs.heap.keysOk (looseW myq myl) ((recsOf myq).map (·.name)) ((litsOf myq).map (·.1)) ((clssOf myq (looseW myq myl)).map (·.name)) && s.abs.heap.accountedOkI (Fast.tw5923862056798008813 rw_xm0961_01.row.prog.main.body) && s.abs.heap.isNs mainGlobals && s.abs.heap.isNs builtinsNs && tablesOk myq s.abs.heap && (xlAt myq [] s.abs && recOk rw_xm0961_01.row.records s.abs) && (s.abs.gens.size == 0)),
            plainSeenD myq myl s.abs, wideSeen myq s.abs, clsSeenW myq myl s.abs)) =
        some (true, plainGoodD myq myl, wideGood myq, clsGoodW myq myl) := by kernel_rfl
theorem my_c (w : World) (os : OsState) : (theRun rw_xm0961_01.row.prog 11 (some (.ref 6)) 9162 w os).map (fun s => plainSeenE myq (looseW myq myl) s.abs) = some (plainGoodE myq (looseW myq myl)) := by kernel_rfl
end
section
open PySem PySem.W PySem.W.X PySem.W.ZRun PySem.Calls PySem.Spec PyProof.Rows
noncomputable def Walk (kt : Params → KT) : Prop := ∀ (w : World) (s : Shared) (ns : List Int) (vs : List Value),
  (kt w.params).Holds s.heap 1 0 → s.heap.NoLimit → s.heap.objs.size = 661 → s.heap.get? 660 = some { cls := .type "list", data := .seq vs.toArray } → IntsAre vs ns → ns.length ≤ 63 → s.gens = #[] →
  ∀ (Q E : Value → Shared → Prop), (∀ s', OldK s.heap s'.heap → s'.os = s.os → s'.gens = #[] → Q (.bool true) s') →
  wpAny (model PySem.Challenge.rw_xm0961_01.row.prog w) callerA (call (.ref 659) [.ref 660]) Q E s
open PySem.Challenge in
theorem sa0 : namesResolve rw_xm0961_01.row.prog = true := by kernel_rfl
open PySem.Challenge in
theorem sa1 : looksOpen rw_xm0961_01.row.prog = true := by unfold looksOpen; rw [sa0]; kernel_rfl
open PySem.Challenge in
theorem sa2 : rw_xm0961_01.row.wellSaid = true := by unfold OpenRow.wellSaid OpenRow.partSaid; rw [sa1]; kernel_rfl
open PySem.Challenge in
theorem my_said : rw_xm0961_01.wellSaid = true := by unfold OpenLaw.wellSaid; rw [sa2]; kernel_rfl
local macro_rules | `(tactic| k_head) => `(tactic| (have said := sa2; z_head))
local macro_rules
  | `(tactic| refine $f:ident $args*) => do
    if (f.getId.eraseMacroScopes).toString.endsWith "holds_openX" then
      `(tactic| (refine' $f:ident $args*; (case hl => exact left_at (q' := myq) (loose := myl) (by kernel_rfl) my_e rfl my_f my_z my_a my_b my_c (fun w os => by kernel_rfl))))
    else Lean.Macro.throwUnsupported
open_top hd for PySem.Challenge.rw_xm0961_01.row
noncomputable def kt0 : Params → KT := hd.ktop_1212
theorem topW (walk : Walk kt0) : PySem.Challenge.rw_xm0961_01.Holds := by
  refine holds_law my_said fun _ => hd ?g
  case g =>
    k_fill
    intro w s₀ s₁ mg mb G y fa o pm cd doc dV kV ho hd hcd hD hmg hg args vals as L hpre hlay hrd hwl hlo
    z_open y L KX ZH ZN ZT
    refine Ground.open G ?_
    intro T B D TE TW
    wrow_args hpre hlay hrd hwl hlo
    obtain ⟨hat, hsz⟩ := script_at L
    have htk := script_toks L ZT
    rw [ZN] at hat hsz
    subst hat
    x_fa T KX hmg
    all_lens
    z_lists L
    z_lens
    refine walk w s₁ _ _ ZH T.nolimit (by omega) (by assumption) (by assumption) (by omega) (by assumption) _ _ ?_
    intro s' hK hos hgens
    refine ⟨.inl ⟨_, _, [], rfl, fun _ => rfl, ReadsW.bool true, ?_, fun _ => ⟨List.nodup_nil, fun _ hm => (nomatch hm)⟩⟩, hK, hos, ?_⟩
    · kernel_rfl
    · rw [hgens]; exact AllBare.empty
end
section
open PySem PySem.W PySem.W.X PySem.Calls PySem.Spec PyProof.Rows
noncomputable def bindQ : FuncData → Args → Sem (List (Str × Value)) := PySem.W.Fast.tw9782568553167038054
theorem bindQ_eq : @bindArgs = bindQ := PySem.W.Fast.te9782568553167038054
noncomputable def envQ (scope : Scope) (globals : Addr) (closure : List (Str × Addr)) (binds : List (Str × Value)) (qual : Str)
    (func : Option Addr) (code : Value) (around : Option Env) (builtins : Addr) : Sem Env := PySem.W.Fast.tw11113344188204177931 scope globals closure binds qual func code around builtins
theorem envQ_eq : @newFunctionEnv = envQ := PySem.W.Fast.te11113344188204177931
structure En where
  a : Addr
  o : Obj
  m : Bool
inductive Wt where
  | gv (r : Tok → Value) (nt : Nat)
  | rd (i : Nat) (r : Tok → Value) (nt : Nat)
  | up (i : Nat) (o' : Obj) (r : Value) (nt : Nat)
  | mk (i : Nat) (o' : Obj)
inductive Oc where
  | gv (N : Nat) (l : List Value) (r : Tok → Value) (nt : Nat)
  | rd (N : Nat) (l : List Value) (a : Addr) (o : Obj) (r : Tok → Value) (nt : Nat)
  | up (N : Nat) (l : List Value) (a : Addr) (o o' : Obj) (r : Value) (nt : Nat)
  | mk (N : Nat) (l : List Value) (a : Addr) (o o' : Obj)
structure St where
  n : Nat
  t : Nat
  L : List En
  hs : List Nat
  ws : List (Nat × Wt)
  ob : List (Nat × Nat)
  oc : List Oc
structure PV where
  prog : Program
  P : Params
  kt : KT
  n₁ : Nat
noncomputable def nth (l : List En) : Nat → Option En :=
  @List.rec En (fun _ => Nat → Option En) (fun _ => none) (fun e _ ih i => @Nat.rec (fun _ => Option En) (some e) (fun j _ => ih j) i) l
noncomputable def upd (f : Obj → Obj) (l : List En) : Nat → List En :=
  @List.rec En (fun _ => Nat → List En) (fun _ => []) (fun e l ih i => @Nat.rec (fun _ => List En) (⟨e.a, f e.o, e.m⟩ :: l) (fun j _ => e :: ih j) i) l
theorem nth_eq (l : List En) (i : Nat) : nth l i = l[i]? := by
  induction l generalizing i with
  | nil => rfl
  | cons e l ih => cases i with
    | zero => rfl
    | succ i => exact ih i
theorem upd_split (f : Obj → Obj) (l : List En) (i : Nat) (e : En) (h : l[i]? = some e) :
    ∃ p q, l = p ++ e :: q ∧ upd f l i = p ++ ⟨e.a, f e.o, e.m⟩ :: q := by
  induction l generalizing i with
  | nil => simp at h
  | cons x l ih => cases i with
    | zero => simp at h; subst h; exact ⟨[], l, rfl, rfl⟩
    | succ i =>
      simp at h
      obtain ⟨p, q, h1, h2⟩ := ih i h
      refine ⟨x :: p, q, by rw [h1]; rfl, ?_⟩
      show x :: upd f l i = _
      rw [h2]; rfl
inductive Out where
  | bad (i : Nat)
  | ret (r : Result) (st : St)
  | tail (c : Code) (st : St)
  | stop (m : Nat) (hd : Option Value) (c : Code) (st : St) (k : Result → St → Out)
structure Vw extends PV where
  w : World
  hT : Heap
  h₀ : Heap
  mu : List Addr
  im : List Addr
  A0 : Around
  d₀ : Nat
  u₀ : Nat
  gens : Array GenState
  drawn : Drawn
  os : OsState
noncomputable def quietQ : Code → Bool := PySem.W.ZFast.zw17772548960776305114
theorem quietQ_eq : Code.quiet = quietQ := PySem.W.ZFast.ze17772548960776305114
noncomputable def callerQ : Code → Bool := PySem.W.ZFast.zw2167841511373827401
theorem callerQ_eq : Code.isCaller = callerQ := PySem.W.ZFast.ze2167841511373827401
theorem den_builtin {id : String} {args : Args} {b : Builtin} (hb : entryFor table id = some b) : denote table (.builtin id args) = b args := by
  show (match entryFor table id with | some b => b args | none => unsupported ((withoutEnding? id "#data").getD id)) = _
  rw [hb]
noncomputable def extNo (self it : Value) : Sem Fin := typeOf it >>= fun t => match t == .type "list" with
  | true => Builtin.List.listItems it >>= fun xs => Builtin.List.listItems self >>= fun mine => match !mine.isEmpty && Nat.blt sizeLine (mine.size + xs.size) with
    | true => unsupported "long"
    | false => Builtin.List.listUpdate self (· ++ xs) >>= fun _ => ret .none
  | false => unsupported "no list"
noncomputable def isListQ (t : Value) : Bool := match t with
  | .type n => PySem.W.S.eqLit 1970563693 n
  | _ => false
theorem isListQ_eq (t : Value) : (t == Value.type "list") = isListQ t := by
  cases t with
  | type n =>
    show _ = PySem.W.S.eqLit 1970563693 n
    rw [← PySem.W.S.eqLit_eq "list" 1970563693 (by decide +kernel), Bool.eq_iff_iff, beq_iff_eq, beq_iff_eq]
    exact ⟨fun h => by injection h, fun h => by rw [h]⟩
  | _ => exact beq_eq_false_iff_ne.mpr (by intro h; cases h)
noncomputable def extQ (self it : Value) : Sem Fin := (PySem.W.Fast.tw14684505520029207082 it).bind fun t => match isListQ t with
  | true => (PySem.W.Fast.tw10557518346328741659 it).bind fun xs => (PySem.W.Fast.tw10557518346328741659 self).bind fun mine => match !mine.isEmpty && Nat.blt sizeLine (mine.size + xs.size) with
    | true => .unsupported "long"
    | false => (PySem.W.Fast.tw2060155186595164805 self (· ++ xs)).bind fun _ => PySem.W.Fast.tw6905046200447255374 .none
  | false => .unsupported "no list"
theorem extQ_eq (self it : Value) : extNo self it = extQ self it := by
  unfold extNo extQ
  rw [← PySem.W.Fast.te14684505520029207082, ← PySem.W.Fast.te10557518346328741659, ← PySem.W.Fast.te2060155186595164805, ← PySem.W.Fast.te6905046200447255374]
  refine congrArg (Sem.bind (typeOf it)) (funext fun t => ?_)
  rw [isListQ_eq]
  cases isListQ t <;> rfl
noncomputable def isTupQ (t : Value) : Bool := match t with
  | .type n => PySem.W.S.eqLit 439922816629 n
  | _ => false
theorem isTupQ_eq {t : Value} (h : isTupQ t = true) : t = Value.type "tuple" := by
  cases t with
  | type n =>
    have h : PySem.W.S.eqLit 439922816629 n = true := h
    rw [← PySem.W.S.eqLit_eq "tuple" 439922816629 (by decide +kernel)] at h
    rw [beq_iff_eq.mp h]
  | _ => cases h
noncomputable def strIn (x : Str) (l : List Value) : Option Bool :=
  @List.rec Value (fun _ => Option Bool) (some false) (fun v _ ih => match v with
    | .str y _ => match ih with
      | some b => some (Fast.sEq y x || b)
      | none => none
    | _ => none) l
theorem strIn_eq {x : Str} : ∀ {l : List Value} {b : Bool}, strIn x l = some b → ∃ ys, StrsAre l ys ∧ ys.any (· == x) = b
  | [], b, h => by cases h; exact ⟨[], .nil, rfl⟩
  | v :: l, b, h => by
    cases v with
    | str y t =>
      have h1 : (match strIn x l with
        | some b => some (Fast.sEq y x || b)
        | none => none) = some b := h
      cases hb : strIn x l with
      | none => rw [hb] at h1; cases h1
      | some b' =>
        rw [hb] at h1
        cases h1
        obtain ⟨ys, h2, h3⟩ := strIn_eq hb
        refine ⟨y :: ys, .cons y t h2, ?_⟩
        rw [List.any_cons, h3]
        congr 1
        rw [Bool.eq_iff_iff, beq_iff_eq, Fast.sEq_iff]
    | _ => cases h
noncomputable def inQ (a : Addr) (x : Str) : Sem Fin := .load a none fun o => match isTupQ o.cls with
  | true => match o.data with
    | .seq items _ => match strIn x items.toList with
      | some b => .pure (.done (.ret (.bool b)))
      | none => .unsupported "in"
    | _ => .unsupported "in"
  | false => .unsupported "in"
theorem entry_in : entryFor table "tuple.__contains__" = some Builtin.«tuple.__contains__» := entryFor_of_fast (by kernel_rfl)
theorem own_in {prog : Program} {w : World} {A : Around} {a : Addr} {x : Str} {u : Tok} {Q : Fin → Shared → Prop} {E : Value → Shared → Prop} {s : Shared} (k : wpOwn (model prog w) A (.builtin "tuple.__contains__" ⟨[.ref a, .str x u], []⟩) (inQ a x) Q E s) :
    wpOwn (model prog w) A (.builtin "tuple.__contains__" ⟨[.ref a, .str x u], []⟩) (denote table (.builtin "tuple.__contains__" ⟨[.ref a, .str x u], []⟩)) Q E s := by
  intro Γ p hc hΓ
  have k' := k Γ p hc hΓ
  rw [den_builtin entry_in]
  unfold inQ at k'
  rw [Sem.wp] at k'
  obtain ⟨o, ho, k'⟩ := k'
  split at k'
  · rename_i ht
    split at k'
    · rename_i items n hd
      split at k'
      · rename_i b hb
        obtain ⟨ys, h1, h2⟩ := strIn_eq hb
        rw [Sem.wp] at k'
        have hIn : Γ.In (A.under Γ.code) := hΓ.in
        have z := @tuple_contains_strs prog w (A.under Γ.code) E s a items ys x u Q ⟨o, ho, isTupQ_eq ht, n, hd⟩ h1 (by rw [h2]; exact k')
        exact z Γ p hIn
      · exact k'.elim
    · exact k'.elim
  · exact k'.elim
noncomputable def subIn (c : Code) : Option (Sem Fin) := match c with
  | .builtin id ⟨[.ref a, .str x _], []⟩ => match PySem.W.S.eqLit 8395601325623592240556648632771639105386101 id with
    | true => some (inQ a x)
    | false => none
  | _ => none
noncomputable def subExt (c : Code) : Option (Sem Fin) := match c with
  | .builtin id ⟨[a, b], []⟩ => match PySem.W.S.eqLit 122627580493480924277926509 id with
    | true => some (extQ a b)
    | false => none
  | _ => none
noncomputable def subQ (c : Code) : Option (Sem Fin) := match subExt c with
  | some t => some t
  | none => subIn c
theorem entry_extend : entryFor table "list.extend" = some Builtin.«list.extend» := entryFor_of_fast (by kernel_rfl)
theorem own_ext {prog : Program} {w : World} {A : Around} {a b : Value} {Q : Fin → Shared → Prop} {E : Value → Shared → Prop} {s : Shared} (k : wpOwn (model prog w) A (.builtin "list.extend" ⟨[a, b], []⟩) (extQ a b) Q E s) :
    wpOwn (model prog w) A (.builtin "list.extend" ⟨[a, b], []⟩) (denote table (.builtin "list.extend" ⟨[a, b], []⟩)) Q E s := by
  intro Γ p hc hΓ
  have k' := k Γ p hc hΓ
  rw [← extQ_eq] at k'
  rw [den_builtin entry_extend]
  unfold extNo at k'
  have e2 : Builtin.«list.extend» ⟨[a, b], []⟩ = Builtin.List.listExtendWith a b .none := by
    unfold Builtin.«list.extend» selfAndOne noKeywords
    simp
  rw [e2]
  unfold Builtin.List.listExtendWith
  rw [Sem.wp_bind'] at k' ⊢
  refine Sem.wp_mono _ _ _ (fun t p₁ s₁ k₁ => ?_) (fun _ _ _ h => h) p s k'
  cases q : t == Value.type "list" with
  | false => rw [q] at k₁; exact k₁.elim
  | true =>
    rw [q] at k₁
    simp only [Bool.true_or, Bool.or_true, if_true]
    rw [Sem.wp_bind'] at k₁ ⊢
    refine Sem.wp_mono _ _ _ (fun xs p₂ s₂ k₂ => ?_) (fun _ _ _ h => h) p₁ s₁ k₁
    rw [Sem.wp_bind'] at k₂ ⊢
    refine Sem.wp_mono _ _ _ (fun mine p₃ s₃ k₃ => ?_) (fun _ _ _ h => h) p₂ s₂ k₂
    have e : (!mine.isEmpty && Builtin.List.listTooLong (mine.size + xs.size)) = (!mine.isEmpty && Nat.blt sizeLine (mine.size + xs.size)) := by
      have e0 : ∀ n, Builtin.List.listTooLong n = Nat.blt sizeLine n := fun n => by
        unfold Builtin.List.listTooLong
        rw [Bool.eq_iff_iff, decide_eq_true_eq]
        exact ⟨fun h => Nat.ble_eq_true_of_le h, fun h => Nat.le_of_ble_eq_true h⟩
      rw [e0]
    rw [e]
    cases q2 : (!mine.isEmpty && Nat.blt sizeLine (mine.size + xs.size)) with
    | true => rw [q2] at k₃; exact k₃.elim
    | false =>
      rw [q2] at k₃
      simp only [Bool.false_eq_true, if_false]
      exact k₃
theorem subExt_ok {prog : Program} {w : World} {c : Code} {t : Sem Fin} (h : subExt c = some t) {A : Around} {Q : Fin → Shared → Prop} {E : Value → Shared → Prop} {s : Shared} (k : wpOwn (model prog w) A c t Q E s) : wpOwn (model prog w) A c (denote table c) Q E s := by
  unfold subExt at h
  split at h
  · rename_i id a b
    cases hid : PySem.W.S.eqLit 122627580493480924277926509 id with
    | false => rw [hid] at h; cases h
    | true =>
      rw [hid] at h
      have h := Option.some.inj h
      subst h
      rw [← PySem.W.S.eqLit_eq "list.extend" 122627580493480924277926509 (by decide +kernel)] at hid
      have hid := beq_iff_eq.mp hid
      subst hid
      exact @own_ext prog w A a b Q E s k
  · cases h
theorem subIn_ok {prog : Program} {w : World} {c : Code} {t : Sem Fin} (h : subIn c = some t) {A : Around} {Q : Fin → Shared → Prop} {E : Value → Shared → Prop} {s : Shared} (k : wpOwn (model prog w) A c t Q E s) : wpOwn (model prog w) A c (denote table c) Q E s := by
  unfold subIn at h
  split at h
  · rename_i id a x u
    cases hid : PySem.W.S.eqLit 8395601325623592240556648632771639105386101 id with
    | false => rw [hid] at h; cases h
    | true =>
      rw [hid] at h
      have h := Option.some.inj h
      subst h
      rw [← PySem.W.S.eqLit_eq "tuple.__contains__" 8395601325623592240556648632771639105386101 (by decide +kernel)] at hid
      have hid := beq_iff_eq.mp hid
      subst hid
      exact @own_in prog w A a x u Q E s k
  · cases h
theorem subQ_ok {prog : Program} {w : World} {c : Code} {t : Sem Fin} (h : subQ c = some t) {A : Around} {Q : Fin → Shared → Prop} {E : Value → Shared → Prop} {s : Shared} (k : wpOwn (model prog w) A c t Q E s) : wpOwn (model prog w) A c (denote table c) Q E s := by
  unfold subQ at h
  cases q : subExt c with
  | some t' => rw [q] at h; cases h; exact subExt_ok q k
  | none => rw [q] at h; exact subIn_ok h k
noncomputable abbrev RunTy := Nat → Option Value → Code → Sem Fin → (Result → St → Out) → St → Out
noncomputable def callNo (a : Addr) (fd : FuncData) (args : Args) (body : List Stmt) : Sem Fin :=
  (bindQ fd args).bind fun binds => (envQ fd.scope fd.globals fd.closure binds (fd.qualname ++ ".<locals>.") (some a) fd.code none fd.builtins).bind fun env => .pure (.again (.func body env))
noncomputable def defOkQ (n₁ : Nat) (kt : KT) (fd : FuncData) : Bool := match fd.scope.isCoroutine with
  | true => false
  | false => match fd.scope.isGenerator with
    | true => false
    | false => match fd.code with
      | .ref c => match Nat.blt c n₁ with
        | false => false
        | true => match kt.get c with
          | some o => match o.data with
            | .fields vs => match (vs.toList.drop 1).head? with
              | some v => match v with
                | .str q _ => Fast.sEq q fd.qualname
                | _ => false
              | none => false
            | _ => false
          | none => false
      | _ => false
noncomputable def step (V : PV) (ih : RunTy) (m : Nat) (hd : Option Value) (c : Code) (t : Sem Fin) (κ : Result → St → Out) (st : St) : Out := match t with
  | .pure fin => match fin with
    | .done f => κ (.ok f) st
    | .again c' => match quietQ c' with
      | false => .bad 1
      | true => match st.hs with
        | [] => .bad 2
        | x :: hs => match Nat.beq x 0 with
          | true => ih m hd c' (den c') κ ⟨st.n, st.t, st.L, hs, st.ws, st.ob, st.oc⟩
          | false => match Nat.beq x 1 with
            | true => .stop m hd c' ⟨st.n, st.t, st.L, hs, st.ws, st.ob, st.oc⟩ κ
            | false => match Nat.beq x 2 with
              | true => match subQ c' with
                | some t' => ih m hd c' t' κ ⟨st.n, st.t, st.L, hs, st.ws, st.ob, st.oc⟩
                | none => .bad 43
              | false => match Nat.beq x 4 with
                | true => match Nat.beq m 0 with
                  | true => .tail c' ⟨st.n, st.t, st.L, hs, st.ws, st.ob, st.oc⟩
                  | false => .bad 52
                | false => match st.ws with
                  | [] => .bad 44
                  | p :: ws => match c' with
                    | .builtin id ⟨l, []⟩ => match PySem.W.S.eqLit p.1 id with
                      | false => .bad 53
                      | true => match p.2 with
                        | .gv r nt => κ (.ok (.ret (r st.t))) ⟨st.n, Nat.add st.t nt, st.L, hs, ws, st.ob, .gv p.1 l r nt :: st.oc⟩
                        | .rd i r nt => match nth st.L i with
                          | none => .bad 45
                          | some e => κ (.ok (.ret (r st.t))) ⟨st.n, Nat.add st.t nt, st.L, hs, ws, st.ob, .rd p.1 l e.a e.o r nt :: st.oc⟩
                        | .up i o' r nt => match nth st.L i with
                          | none => .bad 46
                          | some e => match e.m with
                            | false => .bad 47
                            | true => match o'.isFreed with
                              | true => .bad 48
                              | false => κ (.ok (.ret r)) ⟨st.n, Nat.add st.t nt, upd (fun _ => o') st.L i, hs, ws, st.ob, .up p.1 l e.a e.o o' r nt :: st.oc⟩
                        | .mk i o' => match nth st.L i with
                          | none => .bad 49
                          | some e => match o'.isFreed with
                            | true => .bad 51
                            | false => κ (.ok (.ret (.ref st.n))) ⟨Nat.succ st.n, st.t, ⟨st.n, o', true⟩ :: st.L, hs, ws, st.ob, .mk p.1 l e.a e.o o' :: st.oc⟩
                    | _ => .bad 54
  | .raise e => κ (.error e) st
  | .rule _ k => ih m hd c (k ()) κ st
  | .at _ k => ih m hd c (k ()) κ st
  | .point _ k => ih m hd c (k ()) κ st
  | .ask k => ih m hd c (k ⟨V.prog, V.P⟩) κ st
  | .load a _ k => match st.hs with
    | [] => .bad 3
    | x :: hs => match Nat.beq x 0 with
      | true => match Nat.blt a V.n₁ with
        | true => match V.kt.get a with
          | some o => ih m hd c (k o) κ ⟨st.n, st.t, st.L, hs, st.ws, st.ob, st.oc⟩
          | none => .bad 4
        | false => .bad 5
      | false => match nth st.L (Nat.pred x) with
        | some e => ih m hd c (k e.o) κ ⟨st.n, st.t, st.L, hs, st.ws, (e.a, a) :: st.ob, st.oc⟩
        | none => .bad 6
  | .loadIfAlive a k => match st.hs with
    | [] => .bad 7
    | x :: hs => match Nat.beq x 0 with
      | true => match Nat.blt a V.n₁ with
        | true => match V.kt.get a with
          | some o => ih m hd c (k (some o)) κ ⟨st.n, st.t, st.L, hs, st.ws, st.ob, st.oc⟩
          | none => .bad 8
        | false => .bad 9
      | false => match nth st.L (Nat.pred x) with
        | some e => ih m hd c (k (some e.o)) κ ⟨st.n, st.t, st.L, hs, st.ws, (e.a, a) :: st.ob, st.oc⟩
        | none => .bad 10
  | .alloc o k => match o.isFreed with
    | true => .bad 11
    | false => ih m hd c (k st.n) κ ⟨Nat.succ st.n, st.t, ⟨st.n, o, true⟩ :: st.L, st.hs, st.ws, st.ob, st.oc⟩
  | .update a _ f k => match st.hs with
    | [] => .bad 12
    | x :: hs => match nth st.L (Nat.pred x) with
      | some e => match e.m with
        | false => .bad 13
        | true => match (f e.o).isFreed with
          | true => .bad 14
          | false => ih m hd c (k ()) κ ⟨st.n, st.t, upd f st.L (Nat.pred x), hs, st.ws, (e.a, a) :: st.ob, st.oc⟩
      | none => .bad 15
  | .fresh k => ih m hd c (k st.t) κ ⟨st.n, Nat.succ st.t, st.L, st.hs, st.ws, st.ob, st.oc⟩
  | .handled own k => match own with
    | true => .bad 16
    | false => ih m hd c (k hd) κ st
  | .call c' h _ _ k => match h with
    | some _ => .bad 17
    | none => match callerQ c with
      | true => .bad 18
      | false => match st.hs with
        | [] => .bad 19
        | x :: hs => match Nat.beq x 0 with
          | true => ih (Nat.succ m) hd c' (den c') (fun r st => ih m hd c (k r) κ st) ⟨st.n, st.t, st.L, hs, st.ws, st.ob, st.oc⟩
          | false => match Nat.beq x 1 with
            | true => .stop (Nat.succ m) hd c' ⟨st.n, st.t, st.L, hs, st.ws, st.ob, st.oc⟩ (fun r st => ih m hd c (k r) κ st)
            | false => match c' with
              | .call f args => match f with
                | .ref a => match Nat.blt a V.n₁ with
                  | false => .bad 20
                  | true => match V.kt.get a with
                    | none => .bad 21
                    | some o => match o.data with
                      | .func fd => match fd.body with
                        | .stmts body => match defOkQ V.n₁ V.kt fd with
                          | false => .bad 22
                          | true => match Nat.ble m 80 with
                            | false => .bad 23
                            | true => ih (Nat.succ m) hd c' (callNo a fd args body) (fun r st => ih m hd c (k r) κ st) ⟨st.n, st.t, st.L, hs, st.ws, st.ob, st.oc⟩
                        | .expr _ => .bad 24
                      | _ => .bad 25
                | _ => .bad 26
              | _ => .bad 27
  | .unsupported _ => .bad 30
  | .finish _ => .bad 31
  | .register .. => .bad 32
  | .choose .. => .bad 33
  | .os .. => .bad 34
  | .newGen .. => .bad 35
  | .genState .. => .bad 36
  | .resume .. => .bad 37
  | .yield .. => .bad 38
  | .stack _ => .bad 39
  | .fork .. => .bad 40
  | .thread _ => .bad 41
  | .await .. => .bad 42
noncomputable def run (V : PV) (n : Nat) : RunTy := @Nat.rec (fun _ => RunTy) (fun _ _ _ _ _ _ => .bad 0) (fun _ ih => step V ih) n
theorem run_succ (V : PV) (n : Nat) : run V (n + 1) = step V (run V n) := rfl
structure Vw.Ok (V : Vw) : Prop where
  params : V.w.params = V.P
  kt : V.kt.Holds V.hT 1 0
  lim : V.hT.NoLimit
  stat : cStatics < V.n₁
  depth : V.d₀ ≤ 500
noncomputable def Apart (x y : En) : Prop := (x.m || y.m) = true → x.a ≠ y.a
structure Sat (V : Vw) (st : St) (s : Shared) : Prop where
  size : s.heap.objs.size = st.n
  toks : s.toks = st.t
  base : V.n₁ ≤ V.h₀.objs.size
  grow : V.h₀.objs.size ≤ st.n
  led : ∀ e ∈ st.L, s.heap.get? e.a = some e.o
  nodup : st.L.Pairwise Apart
  low : ∀ e ∈ st.L, e.m = true → V.n₁ ≤ e.a
  may : ∀ e ∈ st.L, e.m = true → e.a ∈ V.mu ∨ V.h₀.objs.size ≤ e.a
  imm : ∀ e ∈ st.L, e.m = false → e.a ∈ V.im ∨ V.h₀.objs.size ≤ e.a ∨ isTupQ e.o.cls = true
  top : ∀ b, b < V.n₁ → s.heap.get? b = V.hT.get? b
  keep : ∀ b o, V.h₀.get? b = some o → b ∉ V.mu → s.heap.get? b = some o
  gens : s.gens = V.gens
  drawn : s.drawn = V.drawn
  os : s.os = V.os
structure AOk (V : Vw) (m : Nat) (hd : Option Value) (A : Around) : Prop where
  handled : A.handled = hd
  depth : A.depth ≤ V.d₀ + 5 * m
  units : A.units ≤ V.u₀ + 10 * m
  zero : m = 0 → A = V.A0
noncomputable def ObOk (l : List (Nat × Nat)) : Prop := l.map Prod.fst = l.map Prod.snd
theorem ObOk.cons {p : Nat × Nat} {l} (h : ObOk (p :: l)) : p.1 = p.2 ∧ ObOk l := by
  unfold ObOk at h
  simp only [List.map_cons, List.cons.injEq] at h
  exact h
noncomputable def OcOk1 (prog : Program) (w : World) : Oc → Prop
  | .gv N l r nt => ∀ id, PySem.code id = N → ∀ A R s, R (.ok (.ret (r s.toks))) { s with toks := s.toks + nt } → codeAny (model prog w) A (.builtin id ⟨l, []⟩) R s
  | .rd N l a o r nt => ∀ id, PySem.code id = N → ∀ A R (s : Shared), s.heap.get? a = some o → R (.ok (.ret (r s.toks))) { s with toks := s.toks + nt } → codeAny (model prog w) A (.builtin id ⟨l, []⟩) R s
  | .up N l a o o' r nt => ∀ id, PySem.code id = N → ∀ A R (s : Shared), s.heap.get? a = some o → (∀ f, f o = o' → R (.ok (.ret r)) { s with heap := s.heap.update a f, toks := s.toks + nt }) → codeAny (model prog w) A (.builtin id ⟨l, []⟩) R s
  | .mk N l a o o' => ∀ id, PySem.code id = N → ∀ A R (s : Shared), s.heap.get? a = some o → R (.ok (.ret (.ref s.heap.objs.size))) { s with heap := s.heap.push o' } → codeAny (model prog w) A (.builtin id ⟨l, []⟩) R s
noncomputable def OcOk (prog : Program) (w : World) : List Oc → Prop
  | [] => True
  | x :: l => OcOk1 prog w x ∧ OcOk prog w l
noncomputable def Ok2 (V : Vw) (st : St) : Prop := ObOk st.ob ∧ OcOk V.prog V.w st.oc
theorem Ok2.cons {V n t L hs ws p ob oc} (h : Ok2 V ⟨n, t, L, hs, ws, p :: ob, oc⟩) : p.1 = p.2 ∧ ∀ n t L hs ws, Ok2 V ⟨n, t, L, hs, ws, ob, oc⟩ :=
  ⟨h.1.cons.1, fun _ _ _ _ _ => ⟨h.1.cons.2, h.2⟩⟩
noncomputable abbrev Vw.re (V : Vw) (h : Heap) (mu im : List Addr) : Vw := { V with h₀ := h, mu := mu, im := im }
theorem Vw.Ok.re {V : Vw} (O : V.Ok) (h mu im) : (V.re h mu im).Ok := ⟨O.params, O.kt, O.lim, O.stat, O.depth⟩
theorem AOk.re {V : Vw} {m hd A} (a : AOk V m hd A) (h mu im) : AOk (V.re h mu im) m hd A := ⟨a.handled, a.depth, a.units, a.zero⟩
noncomputable def Holds (V : Vw) (R : Result → Shared → Prop) : Out → Prop
  | .bad _ => False
  | .ret r st => Ok2 V st ∧ ∀ s, Sat V st s → R r s
  | .tail c st => Ok2 V st ∧ ∀ s, Sat V st s → codeAny (model V.prog V.w) V.A0 c R s
  | .stop m hd c st k => Ok2 V st ∧ ∀ A s, AOk V m hd A → Sat V st s → codeAny (model V.prog V.w) A c (fun r s' => ∃ h mu im st', Sat (V.re h mu im) st' s' ∧ Holds (V.re h mu im) R (k r st')) s
noncomputable def postN (V : Vw) (A : Around) (R : Result → Shared → Prop) (fin : Fin) (s' : Shared) : Prop := match fin with
  | .done f => R (.ok f) s'
  | .again c' => c'.quiet = true ∧ s'.heap.NoLimit ∧ codeAny (model V.prog V.w) A c' R s'
theorem postN_C {V : Vw} {A : Around} {R : Result → Shared → Prop} {fin : Fin} {s' : Shared} (h : postN V A R fin s') : postC V.prog V.w A R fin s' := by
  cases fin with
  | done f => exact h
  | again c' => exact ⟨h.1, h.2.2⟩
theorem noLimit_of {h h₀ : Heap} (e : h.get? cStatics = h₀.get? cStatics) (l : h₀.NoLimit) : h.NoLimit := by
  obtain ⟨mc, ⟨o, es, ep, ho, hd, hk, hf⟩, hn⟩ := l
  exact ⟨mc, ⟨o, es, ep, e.trans ho, hd, hk, hf⟩, hn⟩
section
variable {V : Vw} {st : St} {s : Shared}
theorem Sat.noLimit (O : V.Ok) (S : Sat V st s) : s.heap.NoLimit := noLimit_of (S.top _ O.stat) O.lim
theorem Sat.ofTop (O : V.Ok) (S : Sat V st s) {a : Addr} {o : Obj} (hb : Nat.blt a V.n₁ = true) (e : V.kt.get a = some o) : s.heap.get? a = some o := by
  have z := KT.Holds.get O.kt e
  rw [Nat.one_mul, Nat.add_zero] at z
  rw [S.top a (blt_true hb)]; exact z
theorem Sat.ofNth (S : Sat V st s) {i : Nat} {e : En} (h : nth st.L i = some e) : s.heap.get? e.a = some e.o := by
  rw [nth_eq] at h
  exact S.led e (List.mem_of_getElem? h)
theorem Sat.hints (S : Sat V st s) (hs ws ob oc) : Sat V ⟨st.n, st.t, st.L, hs, ws, ob, oc⟩ s := ⟨S.size, S.toks, S.base, S.grow, S.led, S.nodup, S.low, S.may, S.imm, S.top, S.keep, S.gens, S.drawn, S.os⟩
theorem Sat.fresh (S : Sat V st s) : Sat V ⟨st.n, Nat.succ st.t, st.L, st.hs, st.ws, st.ob, st.oc⟩ { s with toks := s.toks + 1 } :=
  ⟨S.size, by show s.toks + 1 = _; rw [S.toks], S.base, S.grow, S.led, S.nodup, S.low, S.may, S.imm, S.top, S.keep, S.gens, S.drawn, S.os⟩
theorem Sat.freshN (S : Sat V st s) (k : Nat) : Sat V ⟨st.n, Nat.add st.t k, st.L, st.hs, st.ws, st.ob, st.oc⟩ { s with toks := s.toks + k } :=
  ⟨S.size, by show s.toks + k = _; rw [S.toks]; rfl, S.base, S.grow, S.led, S.nodup, S.low, S.may, S.imm, S.top, S.keep, S.gens, S.drawn, S.os⟩
theorem Sat.alloc (S : Sat V st s) {o : Obj} (hf : o.isFreed = false) : Sat V ⟨Nat.succ st.n, st.t, ⟨st.n, o, true⟩ :: st.L, st.hs, st.ws, st.ob, st.oc⟩ { s with heap := s.heap.push o } := by
  have hlt : ∀ e ∈ st.L, e.a < st.n := fun e he => S.size ▸ Heap.lt_size (S.led e he)
  refine ⟨by show (s.heap.push o).objs.size = _; rw [Heap.size_push, S.size], S.toks, S.base, Nat.le_succ_of_le S.grow, ?_, ?_, ?_, ?_, ?_, fun b hb => ?_, fun b o' h1 h2 => Heap.get?_push_of_some _ (S.keep b o' h1 h2), S.gens, S.drawn, S.os⟩
  · intro e he
    rcases List.mem_cons.mp he with rfl | he
    · show (s.heap.push o).get? st.n = some o
      rw [← S.size]; exact Heap.get?_push_size _ hf
    · exact Heap.get?_push_of_some _ (S.led e he)
  · refine List.pairwise_cons.mpr ⟨fun b hb _ => ?_, S.nodup⟩
    exact Nat.ne_of_gt (hlt b hb)
  · intro e he
    rcases List.mem_cons.mp he with rfl | he
    · exact fun _ => Nat.le_trans S.base S.grow
    · exact S.low e he
  · intro e he hm
    rcases List.mem_cons.mp he with rfl | he
    · exact .inr S.grow
    · exact S.may e he hm
  · intro e he hm
    rcases List.mem_cons.mp he with rfl | he
    · cases hm
    · exact S.imm e he hm
  · show (s.heap.push o).get? b = _
    rw [← S.top b hb]
    cases q : s.heap.get? b with
    | some o' => exact Heap.get?_push_of_some _ q
    | none =>
      have hlt2 : b < s.heap.objs.size := by
        rw [S.size]; exact Nat.lt_of_lt_of_le hb (Nat.le_trans S.base S.grow)
      unfold Heap.get? Heap.push at *
      simp only [Array.getElem?_push, Nat.ne_of_lt hlt2, if_false]
      exact q
theorem Sat.update (S : Sat V st s) {i : Nat} {e : En} {f : Obj → Obj} (h : nth st.L i = some e) (hm : e.m = true) (hf : (f e.o).isFreed = false) :
    Sat V ⟨st.n, st.t, upd f st.L i, st.hs, st.ws, st.ob, st.oc⟩ { s with heap := s.heap.update e.a f } := by
  have hs : Heap.SameBut e.a s.heap (s.heap.update e.a f) := Heap.SameBut.update ..
  have ho := S.ofNth h
  have hn : (s.heap.update e.a f).get? e.a = some (f e.o) := by
    first | exact Heap.get?_update_self f ho hf | exact Heap.get?_update_self _ ho hf
  rw [nth_eq] at h
  obtain ⟨p, q, hL, hU⟩ := upd_split f st.L i e h
  have hmem : e ∈ st.L := List.mem_of_getElem? h
  have nd := S.nodup
  rw [hL, List.pairwise_append] at nd
  obtain ⟨nd1, nd2, nd3⟩ := nd
  rw [List.pairwise_cons] at nd2
  have ne : ∀ x ∈ p ++ q, x.a ≠ e.a := by
    intro x hx
    rcases List.mem_append.mp hx with hx | hx
    · exact nd3 x hx e (List.mem_cons_self ..) (by rw [hm, Bool.or_true])
    · exact (nd2.1 x hx (by rw [hm, Bool.true_or])).symm
  have nd' : (upd f st.L i).Pairwise Apart := by
    rw [hU, List.pairwise_append]
    refine ⟨nd1, List.pairwise_cons.mpr ⟨fun x hx => nd2.1 x hx, nd2.2⟩, fun x hx y hy => ?_⟩
    rcases List.mem_cons.mp hy with rfl | hy
    · exact nd3 x hx e (List.mem_cons_self ..)
    · exact nd3 x hx y (List.mem_cons_of_mem _ hy)
  have old : ∀ x ∈ upd f st.L i, (x ∈ p ++ q) ∨ x = ⟨e.a, f e.o, e.m⟩ := by
    intro x hx
    rw [hU] at hx
    rcases List.mem_append.mp hx with hx | hx
    · exact .inl (List.mem_append_left _ hx)
    · rcases List.mem_cons.mp hx with hx | hx
      · exact .inr hx
      · exact .inl (List.mem_append_right _ hx)
  have sub : ∀ x ∈ p ++ q, x ∈ st.L := by
    intro x hx
    rw [hL]
    rcases List.mem_append.mp hx with hx | hx
    · exact List.mem_append_left _ hx
    · exact List.mem_append_right _ (List.mem_cons_of_mem _ hx)
  have hmu := S.may e hmem hm
  refine ⟨by show (s.heap.update e.a f).objs.size = _; rw [hs.1, S.size], S.toks, S.base, S.grow, ?_, nd', ?_, ?_, ?_, fun b hb => ?_, fun b o' h1 h2 => ?_, S.gens, S.drawn, S.os⟩
  · intro x hx
    rcases old x hx with hx | rfl
    · exact (hs.2 _ (ne x hx)).trans (S.led x (sub x hx))
    · exact hn
  · intro x hx
    rcases old x hx with hx | rfl
    · exact S.low x (sub x hx)
    · exact fun _ => S.low e hmem hm
  · intro x hx hxm
    rcases old x hx with hx | rfl
    · exact S.may x (sub x hx) hxm
    · exact hmu
  · intro x hx hxm
    rcases old x hx with hx | rfl
    · exact S.imm x (sub x hx) hxm
    · first | cases hxm | exact absurd (hm.symm.trans hxm) (by decide)
  · have : b ≠ e.a := Nat.ne_of_lt (Nat.lt_of_lt_of_le hb (S.low e hmem hm))
    exact (hs.2 b this).trans (S.top b hb)
  · have : b ≠ e.a := by
      intro hbe
      subst hbe
      rcases hmu with hmu | hmu
      · exact h2 hmu
      · exact absurd (Heap.lt_size h1) (Nat.not_lt.mpr hmu)
    exact (hs.2 b this).trans (S.keep b o' h1 h2)
end
theorem upd_const {f : Obj → Obj} {o : Obj} : ∀ {l : List En} {i : Nat} {e : En}, nth l i = some e → f e.o = o → upd f l i = upd (fun _ => o) l i
  | [], _, _, h, _ => by cases h
  | x :: l, 0, e, h, q => by
    have h : some x = some e := h
    cases h
    show (⟨x.a, f x.o, x.m⟩ : En) :: l = ⟨x.a, o, x.m⟩ :: l
    rw [q]
  | x :: l, i + 1, e, h, q => by
    have h : nth l i = some e := h
    show x :: upd f l i = x :: upd (fun _ => o) l i
    rw [upd_const h q]
theorem caller_weight {c : Code} (h : callerQ c = false) : c.weight ≤ 5 := by
  rw [← callerQ_eq] at h
  have hf : c.frames ≤ 3 := by
    unfold Code.frames
    split <;> first | decide | (split <;> decide)
  unfold Code.weight
  rw [h]
  split <;> split <;> simp <;> omega
theorem units_le (c : Code) : c.cUnits ≤ 10 := by
  have hf : c.frames ≤ 3 := by
    unfold Code.frames
    split <;> first | decide | (split <;> decide)
  unfold Code.cUnits
  split <;> omega
theorem AOk.under {V : Vw} {m : Nat} {hd : Option Value} {A : Around} {c : Code} (h : AOk V m hd A) (hc : callerQ c = false) : AOk V (Nat.succ m) hd ((A.under c).mark none) := by
  have h1 := caller_weight hc
  have h2 := units_le c
  have h3 := h.depth
  have h4 := h.units
  refine ⟨?_, ?_, ?_, fun h => nomatch h⟩
  · show (none : Option Value).or A.handled = hd
    rw [h.handled]; rfl
  · show A.depth + c.weight ≤ _
    rw [Nat.succ_eq_add_one]; omega
  · show A.units + c.cUnits ≤ _
    rw [Nat.succ_eq_add_one]; omega
theorem call_user {V : Vw} (O : V.Ok) {st : St} {s : Shared} (S : Sat V st s) {A : Around} {R : Result → Shared → Prop} {a : Addr} {o : Obj} {fd : FuncData} {args : Args} {body : List Stmt}
    (ho : s.heap.get? a = some o) (hd : o.data = .func fd) (hb : fd.body = .stmts body) (hok : defOkQ V.n₁ V.kt fd = true) (hA : A.depth < recursionLimit) 
    (H : wpOwn (model V.prog V.w) A (.call (.ref a) args) (callNo a fd args body) (postN V A R) (postE R) s) :
    codeAny (model V.prog V.w) A (.call (.ref a) args) R s := by
  unfold defOkQ at hok
  split at hok
  · cases hok
  rename_i hco
  split at hok
  · cases hok
  rename_i hgen
  split at hok
  · rename_i cd hc
    split at hok
    · cases hok
    rename_i hcd
    split at hok
    · rename_i oc hoc
      split at hok
      · rename_i vs hdc
        split at hok
        · rename_i v hv
          split at hok
          · rename_i q tq
            have hq : q = fd.qualname := Fast.sEq_iff.mp hok
            have hvs : vs[1]? = some (.str q tq) := by
              rw [← hv, ← Array.getElem?_toList]
              cases vs.toList with
              | nil => rfl
              | cons x l => cases l <;> rfl
            have hoc' : s.heap.get? cd = some oc := S.ofTop O hcd hoc
            have hdepth : (A.under (.call (.ref a) args)).depth < recursionLimit := by
              show A.depth + (Code.call (.ref a) args).weight < _
              exact hA
            refine codeAny_of_own ?_
            show wpOwn _ A _ (callAny (.ref a) args) _ _ s
            simp only [callAny]
            refine wpOwn_bind (wpOwn_of_wpAny (wpAny_load ho ?_))
            simp only [hd, callFunction, hco, hgen, hb, hc]
            refine wpOwn_bind (m := field (.ref cd) 1) (wpOwn_of_wpAny (wpAny_field hoc' hdc hvs (wpOwn_bind (wpOwn_of_wpAny (wpAny_pure ?_)))))
            intro Γ p hΓc hΓ
            have key := H Γ p hΓc hΓ
            unfold callNo at key
            rw [← bindQ_eq, ← envQ_eq, ← hq, hc] at key
            change Sem.wp _ _ (bindArgs fd args >>= fun binds => newFunctionEnv fd.scope fd.globals fd.closure binds (q ++ ".<locals>.") (some a) (.ref cd) none fd.builtins >>= fun env => pure (PySem.Fin.again (.func body env))) _ _ p s at key
            rw [Sem.wp_bind'] at key ⊢
            refine Sem.wp_mono _ _ _ (fun binds p₁ s₁ k₁ => ?_) (fun _ _ _ h => h) p s key
            rw [Sem.wp_bind'] at k₁ ⊢
            refine Sem.wp_mono _ _ _ (fun env p₂ s₂ k₂ => ?_) (fun _ _ _ h => h) p₁ s₁ k₁
            have k₃ : postN V A R (.again (.func body env)) s₂ := k₂
            have fin : wpAny (model V.prog V.w) (A.under (.call (.ref a) args)) (enterFrame >>= fun _ => (pure (PySem.Fin.again (.func body env)) : Sem PySem.Fin)) (fun fin s' =>
                match fin with
                | .done f => R (.ok f) s'
                | .again c' => c'.quiet = true ∧ codeAny (model V.prog V.w) A c' R s') (fun e s' => R (.error e) s') s₂ :=
              wpAny_bind (wpAny_enterFrame k₃.2.1 hdepth (wpAny_pure (And.intro k₃.1 k₃.2.2)))
            exact fin Γ p₂ (hΓc ▸ hΓ.in)
          · cases hok
        · cases hok
      · cases hok
    · cases hok
  · cases hok
theorem own_code {V : Vw} {A : Around} {c : Code} {R : Result → Shared → Prop} {s : Shared} (h : wpOwn (model V.prog V.w) A c (den c) (postN V A R) (postE R) s) : codeAny (model V.prog V.w) A c R s := by
  refine y_code _ _ _ _ _ _ ?_
  rw [den_eq]
  exact wpOwn_mono h (fun _ _ h => postN_C h) fun _ _ h => h
theorem run_sound' (R : Result → Shared → Prop) : ∀ n (V : Vw) (O : V.Ok) m hd c t κ st, Holds V R (run V.toPV n m hd c t κ st) → ∀ Rκ : Result → Shared → Prop,
    (m = 0 → Rκ = R) →
    (∀ h mu im r st', Holds (V.re h mu im) R (κ r st') → Ok2 V st' ∧ ∀ s, Sat (V.re h mu im) st' s → Rκ r s) →
    Ok2 V st ∧ ∀ A s, AOk V m hd A → Sat V st s → wpOwn (model V.prog V.w) A c t (postN V A Rκ) (postE Rκ) s := by
  intro n
  induction n with
  | zero => intro V O m hd c t κ st H; exact H.elim
  | succ n ih =>
    intro V O m hd c t κ st H Rκ h0 hκ
    rw [run_succ] at H
    have skim1 : ∀ t', Holds V R (run V.toPV n m hd c t' κ st) → (∀ A s, wpOwn (model V.prog V.w) A c t' (postN V A Rκ) (postE Rκ) s → wpOwn (model V.prog V.w) A c t (postN V A Rκ) (postE Rκ) s) →
        Ok2 V st ∧ ∀ A s, AOk V m hd A → Sat V st s → wpOwn (model V.prog V.w) A c t (postN V A Rκ) (postE Rκ) s := fun t' h g =>
      have z := ih V O _ _ _ _ _ _ h Rκ h0 hκ
      ⟨z.1, fun A s a b => g A s (z.2 A s a b)⟩
    cases t with
    | pure fin =>
      cases fin with
      | done f =>
        have z := hκ V.h₀ V.mu V.im _ _ H
        exact ⟨z.1, fun A s _ S => y_pure _ _ _ _ _ _ _ _ _ (z.2 s S)⟩
      | again c' =>
        simp only [step] at H
        split at H
        · exact H.elim
        rename_i hq
        rw [← quietQ_eq] at hq
        split at H
        · exact H.elim
        split at H
        · have z := ih V O _ _ _ _ _ _ H Rκ h0 hκ
          exact ⟨z.1, fun A s a S => y_pure _ _ _ _ _ _ _ _ _ ⟨hq, S.noLimit O, own_code (z.2 A s a (S.hints _ _ _ _))⟩⟩
        split at H
        · simp only [Holds] at H
          exact ⟨H.1, fun A s a S => y_pure _ _ _ _ _ _ _ _ _ ⟨hq, S.noLimit O, codeAny_mono (H.2 A s a (S.hints _ _ _ _)) fun r s' ⟨h', mu', im', st', S', hh⟩ => (hκ h' mu' im' _ _ hh).2 s' S'⟩⟩
        split at H
        · split at H
          · rename_i t' ht
            have z := ih V O _ _ _ _ _ _ H Rκ h0 hκ
            exact ⟨z.1, fun A s a S => y_pure _ _ _ _ _ _ _ _ _ ⟨hq, S.noLimit O, y_code _ _ _ _ _ _ (wpOwn_mono (subQ_ok ht (z.2 A s a (S.hints _ _ _ _))) (fun _ _ h => postN_C h) fun _ _ h => h)⟩⟩
          · exact H.elim
        · split at H
          · split at H
            · rename_i h4 hm0
              have hm0 : m = 0 := Nat.eq_of_beq_eq_true hm0
              have hR := h0 hm0
              simp only [Holds] at H
              refine ⟨H.1, fun A s a S => y_pure _ _ _ _ _ _ _ _ _ ⟨hq, S.noLimit O, ?_⟩⟩
              rw [hR, a.zero hm0]
              exact H.2 s (S.hints _ _ _ _)
            · exact H.elim
          split at H
          · exact H.elim
          rename_i p ws hws
          split at H
          · rename_i id l
            split at H
            · exact H.elim
            rename_i hid
            have hid : PySem.code id = p.1 := by
              unfold PySem.W.S.eqLit at hid
              rw [← PySem.W.S.code_S] at hid
              exact Nat.eq_of_beq_eq_true hid
            cases hwt : p.2 with
            | gv r nt =>
              rw [hwt] at H
              have z := hκ V.h₀ V.mu V.im _ _ H
              refine ⟨⟨z.1.1, z.1.2.2⟩, fun A s a S => y_pure _ _ _ _ _ _ _ _ _ ⟨hq, S.noLimit O, z.1.2.1 _ hid _ _ _ ?_⟩⟩
              rw [S.toks]
              exact z.2 _ (by have f := S.freshN nt; rw [S.toks] at f; exact f.hints _ _ _ _)
            | rd i r nt =>
              rw [hwt] at H
              simp only at H
              split at H
              · exact H.elim
              rename_i e he
              have z := hκ V.h₀ V.mu V.im _ _ H
              refine ⟨⟨z.1.1, z.1.2.2⟩, fun A s a S => y_pure _ _ _ _ _ _ _ _ _ ⟨hq, S.noLimit O, z.1.2.1 _ hid _ _ _ (S.ofNth he) ?_⟩⟩
              rw [S.toks]
              exact z.2 _ (by have f := S.freshN nt; rw [S.toks] at f; exact f.hints _ _ _ _)
            | up i o' r nt =>
              rw [hwt] at H
              simp only at H
              split at H
              · exact H.elim
              rename_i e he
              split at H
              · exact H.elim
              rename_i hm
              split at H
              · exact H.elim
              rename_i hf
              have z := hκ V.h₀ V.mu V.im _ _ H
              refine ⟨⟨z.1.1, z.1.2.2⟩, fun A s a S => y_pure _ _ _ _ _ _ _ _ _ ⟨hq, S.noLimit O, z.1.2.1 _ hid _ _ _ (S.ofNth he) fun f hfo => ?_⟩⟩
              have u := S.update he hm (f := f) (by rw [hfo]; exact hf)
              rw [upd_const he hfo] at u
              have u := u.freshN nt
              exact z.2 _ (u.hints _ _ _ _)
            | mk i o' =>
              rw [hwt] at H
              simp only at H
              split at H
              · exact H.elim
              rename_i e he
              split at H
              · exact H.elim
              rename_i hf
              have z := hκ V.h₀ V.mu V.im _ _ H
              refine ⟨⟨z.1.1, z.1.2.2⟩, fun A s a S => y_pure _ _ _ _ _ _ _ _ _ ⟨hq, S.noLimit O, z.1.2.1 _ hid _ _ _ (S.ofNth he) ?_⟩⟩
              rw [S.size]
              exact z.2 _ ((S.alloc hf).hints _ _ _ _)
          · exact H.elim
    | raise e =>
      have z := hκ V.h₀ V.mu V.im _ _ H
      exact ⟨z.1, fun A s _ S => y_raise _ _ _ _ _ _ _ _ _ (z.2 s S)⟩
    | rule tag k => exact skim1 _ H fun A s h => y_skim _ _ _ _ _ _ _ _ _ 1 h
    | «at» q k => exact skim1 _ H fun A s h => y_skim _ _ _ _ _ _ _ _ _ 1 h
    | point l k => exact skim1 _ H fun A s h => y_skim _ _ _ _ _ _ _ _ _ 1 h
    | ask k => exact skim1 _ H fun A s h => y_skim _ _ _ _ _ _ _ _ _ 1 (by rw [← O.params] at h; exact h)
    | load a q k =>
      simp only [step] at H
      split at H
      · exact H.elim
      split at H
      · split at H
        · rename_i hb
          split at H
          · rename_i o e
            have z := ih V O _ _ _ _ _ _ H Rκ h0 hκ
            exact ⟨z.1, fun A s a' S => y_load _ _ _ _ _ _ _ _ _ _ _ _ _ _ _ _ (S.ofTop O hb e) (z.2 A s a' (S.hints _ _ _ _))⟩
          · exact H.elim
        · exact H.elim
      · split at H
        · rename_i e he
          have z := ih V O _ _ _ _ _ _ H Rκ h0 hκ
          have zo := z.1.cons
          refine ⟨zo.2 _ _ _ _ _, fun A s a' S => y_load _ _ _ _ _ _ _ _ _ _ _ _ _ _ _ (o := e.o) ?_ (z.2 A s a' (S.hints _ _ _ _))⟩
          have := S.ofNth he
          rw [show e.a = a from zo.1] at this
          exact this
        · exact H.elim
    | loadIfAlive a k =>
      simp only [step] at H
      split at H
      · exact H.elim
      split at H
      · split at H
        · rename_i hb
          split at H
          · rename_i o e
            have z := ih V O _ _ _ _ _ _ H Rκ h0 hκ
            exact ⟨z.1, fun A s a' S => y_alive _ _ _ _ _ _ _ _ _ _ _ _ _ _ _ (S.ofTop O hb e) (z.2 A s a' (S.hints _ _ _ _))⟩
          · exact H.elim
        · exact H.elim
      · split at H
        · rename_i e he
          have z := ih V O _ _ _ _ _ _ H Rκ h0 hκ
          have zo := z.1.cons
          refine ⟨zo.2 _ _ _ _ _, fun A s a' S => y_alive _ _ _ _ _ _ _ _ _ _ _ _ _ _ (o := e.o) ?_ (z.2 A s a' (S.hints _ _ _ _))⟩
          have := S.ofNth he
          rw [show e.a = a from zo.1] at this
          exact this
        · exact H.elim
    | alloc o k =>
      simp only [step] at H
      split at H
      · exact H.elim
      rename_i hf
      have z := ih V O _ _ _ _ _ _ H Rκ h0 hκ
      refine ⟨z.1, fun A s a S => ?_⟩
      exact wpOwn_bind (m := alloc o) (f := k) (wpOwn_of_wpAny (wpAny_alloc (by rw [S.size]; exact z.2 A _ a (S.alloc hf))))
    | update a q f k =>
      simp only [step] at H
      split at H
      · exact H.elim
      split at H
      · rename_i e he
        split at H
        · exact H.elim
        rename_i hm
        split at H
        · exact H.elim
        rename_i hf
        have z := ih V O _ _ _ _ _ _ H Rκ h0 hκ
        have zo := z.1.cons
        refine ⟨zo.2 _ _ _ _ _, fun A s a' S => ?_⟩
        have ho := S.ofNth he
        have hu := (S.update he hm hf).hints
        rw [show e.a = a from zo.1] at ho hu
        exact wpOwn_bind (m := updatePart a q f) (f := k) (wpOwn_of_wpAny (wpAny_updatePart ho (z.2 A _ a' (hu _ _ _ _))))
      · exact H.elim
    | fresh k =>
      have z := ih V O _ _ _ _ _ _ H Rκ h0 hκ
      refine ⟨z.1, fun A s a S => ?_⟩
      have w := z.2 A _ a S.fresh
      rw [← S.toks] at w
      exact wpOwn_bind (m := fresh) (f := k) (wpOwn_of_wpAny (wpAny_fresh w))
    | handled own k =>
      cases own with
      | true => exact H.elim
      | false =>
        have z := ih V O _ _ _ _ _ _ H Rκ h0 hκ
        exact ⟨z.1, fun A s a S => y_handled _ _ _ _ _ _ _ _ _ (by rw [a.handled]; exact z.2 A s a S)⟩
    | call c' h g l k =>
      cases h with
      | some _ => exact H.elim
      | none =>
        have hnb : (none : Option Value) ≠ some byPass := by intro x; cases x
        simp only [step] at H
        split at H
        · exact H.elim
        rename_i hc
        split at H
        · exact H.elim
        have back : ∀ A, AOk V m hd A → ∀ h mu im r st', Holds (V.re h mu im) R (run V.toPV n m hd c (k r) κ st') → Ok2 V st' ∧ ∀ s, Sat (V.re h mu im) st' s → postR V.prog V.w A c (postN V A Rκ) (postE Rκ) k r s := fun A a h mu im r st' hh =>
          have z := ih (V.re h mu im) (O.re h mu im) _ _ _ _ _ _ hh Rκ h0 (fun h2 mu2 im2 => hκ h2 mu2 im2)
          ⟨z.1, fun s S => z.2 A s (a.re h mu im) S⟩
        have back1 : ∀ h mu im r st', Holds (V.re h mu im) R (run V.toPV n m hd c (k r) κ st') → Ok2 V st' := fun h mu im r st' hh => (ih (V.re h mu im) (O.re h mu im) _ _ _ _ _ _ hh Rκ h0 (fun h2 mu2 im2 => hκ h2 mu2 im2)).1
        split at H
        · have z1 := (ih V O _ _ _ _ _ _ H (fun _ _ => True) (fun h => nomatch h) fun h' mu' im' r st' h => ⟨back1 h' mu' im' r st' h, fun _ _ => trivial⟩).1
          refine ⟨z1, fun A s a S => ?_⟩
          have z := ih V O _ _ _ _ _ _ H (postR V.prog V.w A c (postN V A Rκ) (postE Rκ) k) (fun h => nomatch h) (back A a)
          exact y_call _ _ _ _ _ _ _ _ _ _ _ _ _ hnb (own_code (z.2 _ s (a.under hc) (S.hints _ _ _ _)))
        · split at H
          · simp only [Holds] at H
            refine ⟨H.1, fun A s a S => ?_⟩
            exact y_call _ _ _ _ _ _ _ _ _ _ _ _ _ hnb (codeAny_mono (H.2 _ s (a.under hc) (S.hints _ _ _ _)) fun r s' ⟨h', mu', im', st', S', hh⟩ => (back A a h' mu' im' r st' hh).2 s' S')
          · split at H
            · split at H
              · rename_i f args a
                split at H
                · exact H.elim
                rename_i hb
                split at H
                · exact H.elim
                rename_i o ho
                split at H
                · rename_i fd hd'
                  split at H
                  · rename_i body hbody
                    split at H
                    · exact H.elim
                    rename_i hok
                    split at H
                    · exact H.elim
                    rename_i hm
                    have z1 := (ih V O _ _ _ _ _ _ H (fun _ _ => True) (fun h => nomatch h) fun h' mu' im' r st' h => ⟨back1 h' mu' im' r st' h, fun _ _ => trivial⟩).1
                    refine ⟨z1, fun A s a' S => ?_⟩
                    have z := ih V O _ _ _ _ _ _ H (postR V.prog V.w A c (postN V A Rκ) (postE Rκ) k) (fun h => nomatch h) (back A a')
                    have a2 := a'.under hc
                    refine y_call _ _ _ _ _ _ _ _ _ _ _ _ _ hnb (call_user O S (S.ofTop O hb ho) hd' hbody hok ?_ (z.2 _ s a2 (S.hints _ _ _ _)))
                    have h5 := a2.depth
                    have h6 := O.depth
                    have h7 : m ≤ 80 := Nat.le_of_ble_eq_true hm
                    rw [Nat.succ_eq_add_one] at h5
                    show _ < 1000
                    omega
                  · exact H.elim
                · exact H.elim
              · exact H.elim
            · exact H.elim
    | unsupported => exact H.elim
    | finish => exact H.elim
    | register => exact H.elim
    | choose => exact H.elim
    | os => exact H.elim
    | newGen => exact H.elim
    | genState => exact H.elim
    | resume => exact H.elim
    | yield => exact H.elim
    | stack => exact H.elim
    | fork => exact H.elim
    | thread => exact H.elim
    | await => exact H.elim
theorem run_sound {V : Vw} (O : V.Ok) (R : Result → Shared → Prop) (n m hd c t κ st) (H : Holds V R (run V.toPV n m hd c t κ st)) (Rκ : Result → Shared → Prop)
    (h0 : m = 0 → Rκ = R)
    (hκ : ∀ h mu im r st', Holds (V.re h mu im) R (κ r st') → Ok2 V st' ∧ ∀ s, Sat (V.re h mu im) st' s → Rκ r s) :
    Ok2 V st ∧ ∀ A s, AOk V m hd A → Sat V st s → wpOwn (model V.prog V.w) A c t (postN V A Rκ) (postE Rκ) s := run_sound' R n V O m hd c t κ st H Rκ h0 hκ
noncomputable def notTup (o : Obj) : Bool := !isTupQ o.cls
noncomputable def picks (is : List Nat) (L : List En) : List En :=
  @List.rec Nat (fun _ => Nat → List En → List En) (fun _ _ => []) (fun i _ ih k L => match L.drop (i - k) with
    | e :: l => ⟨e.a, e.o, e.m && notTup e.o⟩ :: ih (i + 1) l
    | [] => []) is 0 L
noncomputable def Out.fin (is : List Nat) (o : Out) : Option (Result × Nat × Nat × List En × List Oc × List Nat) := match o with
  | .ret r st => some (r, st.n, st.t, picks is st.L, st.oc, st.ob.map Prod.fst)
  | _ => none
noncomputable def Out.ftail (is : List Nat) (o : Out) : Option (Code × Nat × Nat × List En × List Oc × List Nat) := match o with
  | .tail c st => some (c, st.n, st.t, picks is st.L, st.oc, st.ob.map Prod.fst)
  | _ => none
noncomputable def Out.snds (o : Out) : List Nat := match o with
  | .tail _ st => st.ob.map Prod.snd
  | .ret _ st => st.ob.map Prod.snd
  | .stop _ _ _ st _ => st.ob.map Prod.snd
  | _ => []
noncomputable def Out.fstop (is : List Nat) (o : Out) : Option (Nat × Option Value × Code × Nat × Nat × List En × List Oc × List Nat) := match o with
  | .stop m hd c st _ => some (m, hd, c, st.n, st.t, picks is st.L, st.oc, st.ob.map Prod.fst)
  | _ => none
noncomputable def outK (o : Out) : Result → St → Out := match o with
  | .stop _ _ _ _ k => k
  | _ => fun _ _ => .bad 50
noncomputable def hn (len n : Nat) : List Nat := @Nat.rec (fun _ => Nat → List Nat) (fun _ => []) (fun _ ih n => Nat.mod n 1000 :: ih (Nat.div n 1000)) len n
end
section
open PySem PySem.W PySem.W.X PySem.Calls PySem.Spec PyProof.Rows
structure Cx where
  w : World
  hT : Heap
  pv : PV
  gens : Array GenState
  drawn : Drawn
  os : OsState
structure Cx.Ok (X : Cx) : Prop where
  params : X.w.params = X.pv.P
  kt : X.pv.kt.Holds X.hT 1 0
  lim : X.hT.NoLimit
  stat : cStatics < X.pv.n₁
noncomputable abbrev Cx.M (X : Cx) : Model := model X.pv.prog X.w
structure Good (X : Cx) (s : Shared) : Prop where
  size : X.pv.n₁ ≤ s.heap.objs.size
  top : ∀ b, b < X.pv.n₁ → s.heap.get? b = X.hT.get? b
  gens : s.gens = X.gens
  drawn : s.drawn = X.drawn
  os : s.os = X.os
structure Inv (X : Cx) (s : Shared) (L : List En) : Prop where
  good : Good X s
  get : ∀ e ∈ L, s.heap.get? e.a = some e.o
  ap : L.Pairwise Apart
  low : ∀ e ∈ L, e.m = true → X.pv.n₁ ≤ e.a
  nt : ∀ e ∈ L, e.m = true → notTup e.o = true
structure Tr (L : List En) (s s' : Shared) : Prop where
  keep : ∀ b o, s.heap.get? b = some o → (∀ e ∈ L, e.m = true → e.a ≠ b) → s'.heap.get? b = some o
  size : s.heap.objs.size ≤ s'.heap.objs.size
theorem Tr.refl {L s} : Tr L s s := ⟨fun _ _ h _ => h, Nat.le_refl _⟩
noncomputable abbrev tup (l : List Value) : Obj := { cls := .type "tuple", data := .seq ⟨l⟩ 0 }
theorem notTup_tup (l) (b : Bool) (h : b = true → notTup (tup l) = true) : b = false := by
  cases b with
  | false => rfl
  | true => exact absurd (h rfl) (by show ¬ (!PySem.W.S.eqLit 439922816629 "tuple") = true; rw [← PySem.W.S.eqLit_eq "tuple" 439922816629 (by decide +kernel)]; simp)
theorem Inv.tup {X s L s' a l} (I : Inv X s L) (T : Tr L s s') (h : s.heap.get? a = some (tup l)) : s'.heap.get? a = some (tup l) := by
  refine T.keep a _ h fun e he hm ea => ?_
  have h1 := I.get e he
  rw [ea, h] at h1
  have h2 := I.nt e he hm
  rw [← Option.some.inj h1] at h2
  have := notTup_tup l true (fun _ => h2)
  cases this
theorem Inv.sub {X s L L'} (I : Inv X s L) (h : L'.Sublist L) : Inv X s L' :=
  ⟨I.good, fun e he => I.get e (h.subset he), I.ap.sublist h, fun e he => I.low e (h.subset he), fun e he => I.nt e (h.subset he)⟩
theorem Apart.symm {x y : En} (h : Apart x y) : Apart y x := fun q e => h (by rw [Bool.or_comm]; exact q) e.symm
theorem Inv.perm {X s L L'} (I : Inv X s L) (h : L'.Perm L) : Inv X s L' :=
  ⟨I.good, fun e he => I.get e (h.subset he), (List.Perm.pairwise_iff (fun {_ _} => Apart.symm) h).mpr I.ap, fun e he => I.low e (h.subset he), fun e he => I.nt e (h.subset he)⟩
theorem Inv.addT {X s L a l} (I : Inv X s L) (h : s.heap.get? a = some (Mine.tup l)) : Inv X s (⟨a, Mine.tup l, false⟩ :: L) := by
  refine ⟨I.good, fun e he => ?_, List.pairwise_cons.mpr ⟨fun e he hm ea => ?_, I.ap⟩, fun e he hm => ?_, fun e he hm => ?_⟩
  · rcases List.mem_cons.mp he with rfl | he
    · exact h
    · exact I.get e he
  · have hm : e.m = true := hm
    have ea : a = e.a := ea
    have h1 := I.get e he
    rw [← ea, h] at h1
    have h2 := I.nt e he hm
    rw [← Option.some.inj h1] at h2
    have := notTup_tup l true (fun _ => h2)
    cases this
  · rcases List.mem_cons.mp he with rfl | he
    · cases hm
    · exact I.low e he hm
  · rcases List.mem_cons.mp he with rfl | he
    · cases hm
    · exact I.nt e he hm
noncomputable def Cx.V (X : Cx) (s : Shared) (L : List En) (A : Around) (d u : Nat) : Vw :=
  { toPV := X.pv, w := X.w, hT := X.hT, h₀ := s.heap, mu := (L.filter (·.m)).map (·.a), im := (L.filter (!·.m)).map (·.a), A0 := A, d₀ := d, u₀ := u, gens := X.gens, drawn := X.drawn, os := X.os }
theorem Cx.Ok.view {X : Cx} (h : X.Ok) {s L A d u} (hd : d ≤ 500) : (X.V s L A d u).Ok := ⟨h.params, h.kt, h.lim, h.stat, hd⟩
structure AB (d u : Nat) (A : Around) : Prop where
  handled : A.handled = none
  depth : A.depth ≤ d
  units : A.units ≤ u
theorem AB.ok {X : Cx} {s L A d u} (h : AB d u A) : AOk (X.V s L A d u) 0 none A :=
  ⟨h.handled, by show A.depth ≤ d + 5 * 0; have := h.depth; omega, by show A.units ≤ u + 10 * 0; have := h.units; omega, fun _ => rfl⟩
theorem AB.of {X : Cx} {s L A A' d u m} (h : AOk (X.V s L A d u) m none A') : AB (d + 5 * m) (u + 10 * m) A' := ⟨h.handled, h.depth, h.units⟩
theorem AB.mono {d u d' u' A} (h : AB d u A) (hd : d ≤ d') (hu : u ≤ u') : AB d' u' A := ⟨h.handled, Nat.le_trans h.depth hd, Nat.le_trans h.units hu⟩
theorem Inv.sat' {X s L s' L' A d u} (I0 : Good X s) (T : Tr L s s') (I : Inv X s' L') (hm : ∀ e ∈ L', e.m = true → (∃ x ∈ L, x.m = true ∧ x.a = e.a) ∨ s.heap.objs.size ≤ e.a)
    (hi : ∀ e ∈ L', e.m = false → (∃ x ∈ L, x.m = false ∧ x.a = e.a) ∨ s.heap.objs.size ≤ e.a ∨ isTupQ e.o.cls = true) (hs ws ob oc) : Sat (X.V s L A d u) ⟨s'.heap.objs.size, s'.toks, L', hs, ws, ob, oc⟩ s' := by
  refine ⟨rfl, rfl, I0.size, T.size, I.get, I.ap, I.low, fun e he h => ?_, fun e he h => ?_, I.good.top, fun b o hb hn => T.keep b o hb fun e he hem ea => hn ?_, I.good.gens, I.good.drawn, I.good.os⟩
  · rcases hm e he h with ⟨x, hx, h1, h2⟩ | h
    · exact .inl (List.mem_map.mpr ⟨x, List.mem_filter.mpr ⟨hx, h1⟩, h2⟩)
    · exact .inr h
  · rcases hi e he h with ⟨x, hx, h1, h2⟩ | h
    · exact .inl (List.mem_map.mpr ⟨x, List.mem_filter.mpr ⟨hx, by simp [h1]⟩, h2⟩)
    · exact .inr h
  · exact List.mem_map.mpr ⟨e, List.mem_filter.mpr ⟨he, hem⟩, ea⟩
theorem Inv.sat {X s L A d u} (I : Inv X s L) (hs ws ob oc) : Sat (X.V s L A d u) ⟨s.heap.objs.size, s.toks, L, hs, ws, ob, oc⟩ s :=
  Inv.sat' I.good .refl I (fun e he h => .inl ⟨e, he, h, rfl⟩) (fun e he h => .inl ⟨e, he, h, rfl⟩) hs ws ob oc
noncomputable def weak (e : En) : En := ⟨e.a, e.o, e.m && notTup e.o⟩
theorem picks_sub : ∀ (is : List Nat) (L : List En), ∃ L1 : List En, L1.Sublist L ∧ picks is L = L1.map weak := by
  have key : ∀ (is : List Nat) (k : Nat) (L : List En), ∃ L1 : List En, L1.Sublist L ∧ @List.rec Nat (fun _ => Nat → List En → List En) (fun _ _ => []) (fun i _ ih k L => match L.drop (i - k) with
    | e :: l => ⟨e.a, e.o, e.m && notTup e.o⟩ :: ih (i + 1) l
    | [] => []) is k L = L1.map weak := by
    intro is
    induction is with
    | nil => exact fun _ _ => ⟨[], List.nil_sublist _, rfl⟩
    | cons i is ih =>
      intro k L
      cases q : L.drop (i - k) with
      | nil =>
        refine ⟨[], List.nil_sublist _, ?_⟩
        show (match L.drop (i - k) with | e :: l => _ | [] => []) = _
        rw [q]; rfl
      | cons e l =>
        obtain ⟨L1, h1, h2⟩ := ih (i + 1) l
        refine ⟨e :: L1, ?_, ?_⟩
        · have : (e :: L1).Sublist (L.drop (i - k)) := by rw [q]; exact h1.cons_cons e
          exact this.trans (List.drop_sublist _ _)
        · show (match L.drop (i - k) with | e :: l => _ | [] => []) = _
          rw [q]
          show weak e :: _ = _
          rw [List.map_cons]
          exact congrArg _ h2
  exact fun is L => key is 0 L
theorem Apart.weak {x y : En} (h : Apart x y) : Apart (weak x) (weak y) := fun q => h (by
  cases hx : x.m <;> cases hy : y.m <;> simp_all [Mine.weak])
theorem Sat.inv {X s L H A d u st s'} (S : Sat (X.V s L A d u) st s') (I : Inv X s (L ++ H)) (is : List Nat) : Inv X s' (picks is st.L ++ H) ∧ Tr L s s' := by
  have T : Tr L s s' := ⟨fun b o hb hn => S.keep b o hb fun hm => by
    obtain ⟨e, he, ea⟩ := List.mem_map.mp hm
    obtain ⟨he, hem⟩ := List.mem_filter.mp he
    exact hn e he hem ea, by rw [S.size]; exact S.grow⟩
  obtain ⟨L1, h1, h2⟩ := picks_sub is st.L
  rw [h2]
  have hL := List.pairwise_append.mp I.ap
  have gH : ∀ y ∈ H, s'.heap.get? y.a = some y.o := fun y hy => T.keep _ _ (I.get y (List.mem_append_right _ hy)) fun e he hem => hL.2.2 e he y hy (by rw [hem, Bool.true_or])
  refine ⟨⟨⟨by rw [S.size]; exact Nat.le_trans S.base S.grow, S.top, S.gens, S.drawn, S.os⟩, fun e he => ?_, List.pairwise_append.mpr ⟨?_, hL.2.1, ?_⟩, fun e he hm => ?_, fun e he hm => ?_⟩, T⟩
  · rcases List.mem_append.mp he with he | he
    · obtain ⟨x, hx, rfl⟩ := List.mem_map.mp he
      exact S.led x (h1.subset hx)
    · exact gH e he
  · rw [List.pairwise_map]
    exact (S.nodup.sublist h1).imp fun h => h.weak
  · intro x' hx' y hy hm
    obtain ⟨x, hx, rfl⟩ := List.mem_map.mp hx'
    have hx := h1.subset hx
    show x.a ≠ y.a
    have hlt : y.a < s.heap.objs.size := Heap.lt_size (I.get y (List.mem_append_right _ hy))
    cases hxm : x.m with
    | true =>
      rcases S.may x hx hxm with h | h
      · obtain ⟨e, he, ea⟩ := List.mem_map.mp h
        obtain ⟨he, hem⟩ := List.mem_filter.mp he
        rw [← ea]
        exact hL.2.2 e he y hy (by rw [show e.m = true from hem, Bool.true_or])
      · have h : s.heap.objs.size ≤ x.a := h
        exact fun e => absurd (Nat.lt_of_lt_of_le hlt h) (by show ¬ y.a < x.a; rw [show x.a = y.a from e]; exact Nat.lt_irrefl _)
    | false =>
      have hym : y.m = true := by
        unfold weak at hm
        simpa [hxm] using hm
      rcases S.imm x hx hxm with h | h | h
      · obtain ⟨e, he, ea⟩ := List.mem_map.mp h
        obtain ⟨he, hem⟩ := List.mem_filter.mp he
        rw [← ea]
        exact hL.2.2 e he y hy (by rw [hym, Bool.or_true])
      · have h : s.heap.objs.size ≤ x.a := h
        exact fun e => absurd (Nat.lt_of_lt_of_le hlt h) (by show ¬ y.a < x.a; rw [show x.a = y.a from e]; exact Nat.lt_irrefl _)
      · intro e
        have h1 := S.led x hx
        rw [show x.a = y.a from e, gH y hy] at h1
        have h2 : y.o = x.o := Option.some.inj h1
        have h3 := I.nt y (List.mem_append_right _ hy) hym
        unfold notTup at h3
        rw [h2, h] at h3
        cases h3
  · rcases List.mem_append.mp he with he | he
    · obtain ⟨x, hx, rfl⟩ := List.mem_map.mp he
      unfold weak at hm
      exact S.low x (h1.subset hx) (by cases hxm : x.m <;> simp_all)
    · exact I.low e (List.mem_append_right _ he) hm
  · rcases List.mem_append.mp he with he | he
    · obtain ⟨x, hx, rfl⟩ := List.mem_map.mp he
      unfold weak at hm ⊢
      dsimp only at *
      exact (Bool.and_eq_true_iff.mp hm).2
    · exact I.nt e (List.mem_append_right _ he) hm
section
variable {X : Cx} {s : Shared} {L H : List En} {A : Around} {d u : Nat} {R : Result → Shared → Prop} {o : Out} {is : List Nat} {n t : Nat} {L' : List En} {oc : List Oc}
theorem ob_ok {l : List (Nat × Nat)} (h : l.map Prod.fst = l.map Prod.snd) : ObOk l := h
theorem holds_ret {r : Result} (I : Inv X s (L ++ H)) (e : o.fin is = some (r, n, t, L', oc, o.snds)) (hoc : OcOk X.pv.prog X.w oc)
    (K : ∀ s', Inv X s' (L' ++ H) → Tr L s s' → s'.heap.objs.size = n → s'.toks = t → R r s') : Holds (X.V s L A d u) R o := by
  cases o with
  | ret r' st =>
    simp only [Out.fin, Out.snds, Option.some.injEq, Prod.mk.injEq] at e
    obtain ⟨rfl, hn, ht, rfl, rfl, e6⟩ := e
    exact ⟨⟨e6, hoc⟩, fun s' S => K s' (S.inv I is).1 (S.inv I is).2 (by rw [S.size, hn]) (by rw [S.toks, ht])⟩
  | bad i => cases e
  | tail c st => cases e
  | stop m hd c st k => cases e
theorem holds_tail {c : Code} (I : Inv X s (L ++ H)) (e : o.ftail is = some (c, n, t, L', oc, o.snds)) (hoc : OcOk X.pv.prog X.w oc)
    (K : ∀ s', Inv X s' (L' ++ H) → Tr L s s' → s'.heap.objs.size = n → s'.toks = t → codeAny X.M A c R s') : Holds (X.V s L A d u) R o := by
  cases o with
  | tail c' st =>
    simp only [Out.ftail, Out.snds, Option.some.injEq, Prod.mk.injEq] at e
    obtain ⟨rfl, hn, ht, rfl, rfl, e6⟩ := e
    exact ⟨⟨e6, hoc⟩, fun s' S => K s' (S.inv I is).1 (S.inv I is).2 (by rw [S.size, hn]) (by rw [S.toks, ht])⟩
  | bad i => cases e
  | ret c st => cases e
  | stop m hd c st k => cases e
theorem holds_stop {m : Nat} {hd : Option Value} {c : Code} (I : Inv X s (L ++ H)) (e : o.fstop is = some (m, hd, c, n, t, L', oc, o.snds)) (hoc : OcOk X.pv.prog X.w oc)
    (K : ∀ A' s', AOk (X.V s L A d u) m hd A' → Inv X s' (L' ++ H) → Tr L s s' → s'.heap.objs.size = n → s'.toks = t →
      codeAny X.M A' c (fun r s'' => ∃ h mu im st'', Sat ((X.V s L A d u).re h mu im) st'' s'' ∧ Holds ((X.V s L A d u).re h mu im) R (outK o r st'')) s') : Holds (X.V s L A d u) R o := by
  cases o with
  | stop m' hd' c' st k =>
    simp only [Out.fstop, Out.snds, Option.some.injEq, Prod.mk.injEq] at e
    obtain ⟨rfl, rfl, rfl, hn, ht, rfl, rfl, e6⟩ := e
    exact ⟨⟨e6, hoc⟩, fun A' s' hA S => K A' s' hA (S.inv I is).1 (S.inv I is).2 (by rw [S.size, hn]) (by rw [S.toks, ht])⟩
  | bad i => cases e
  | ret c st => cases e
  | tail c st => cases e
end
noncomputable def postM (X : Cx) (A : Around) (R : Result → Shared → Prop) (fin : Fin) (s' : Shared) : Prop := match fin with
  | .done f => R (.ok f) s'
  | .again c' => c'.quiet = true ∧ s'.heap.NoLimit ∧ codeAny X.M A c' R s'
section
variable {X : Cx} {s : Shared} {L : List En} {A : Around} {d u : Nat} {R : Result → Shared → Prop} {hs : List Nat} {ws : List (Nat × Wt)}
noncomputable abbrev st0 (s : Shared) (L : List En) (hs : List Nat) (ws : List (Nat × Wt)) : St := ⟨s.heap.objs.size, s.toks, L, hs, ws, [], []⟩
theorem run_tree (O : X.Ok) (hd : d ≤ 500) {n : Nat} {c : Code} {t : Sem Fin} (hA : AB d u A) (I : Inv X s L) (h : Holds (X.V s L A d u) R (run X.pv n 0 none c t .ret (st0 s L hs ws))) :
    wpOwn X.M A c t (postM X A R) (postE R) s :=
  (run_sound (V := X.V s L A d u) (O.view hd) R n 0 none c t .ret _ h R (fun _ => rfl) fun _ _ _ r st' h' => h').2 A s hA.ok (I.sat _ _ _ _)
theorem run_code (O : X.Ok) (hd : d ≤ 500) {n : Nat} {c : Code} (hA : AB d u A) (I : Inv X s L) (h : Holds (X.V s L A d u) R (run X.pv n 0 none c (den c) .ret (st0 s L hs ws))) :
    codeAny X.M A c R s := own_code (V := X.V s L A d u) (run_tree O hd hA I h)
end
noncomputable def FinI (o : Out) (is : List Nat) (r : Result) (n t : Nat) (L : List En) (oc : List Oc) : Prop := o.fin is = some (r, n, t, L, oc, o.snds)
noncomputable def FinT (o : Out) (is : List Nat) (c : Code) (n t : Nat) (L : List En) (oc : List Oc) : Prop := o.ftail is = some (c, n, t, L, oc, o.snds)
noncomputable def FinS (o : Out) (is : List Nat) (m : Nat) (hd : Option Value) (c : Code) (n t : Nat) (L : List En) (oc : List Oc) : Prop := o.fstop is = some (m, hd, c, n, t, L, oc, o.snds)
end
section
open PySem PySem.W PySem.W.X PySem.Calls PySem.Spec PyProof.Rows
noncomputable def execsQ : List Stmt → Env → Sem Flow := PySem.W.Fast.tw12563942051412417395
theorem execsQ_eq : @execs = execsQ := PySem.W.Fast.te12563942051412417395
noncomputable def evalQ : PySem.Expr → Env → Sem Value := PySem.W.Fast.tw14044960220447912780
theorem evalQ_eq : @eval = evalQ := PySem.W.Fast.te14044960220447912780
noncomputable def isTrueQ : PySem.Expr → Env → Sem Value → Sem Bool := PySem.W.Fast.tw15418851999007992765
theorem isTrueQ_eq : @PySem.isTrue = isTrueQ := PySem.W.Fast.te15418851999007992765
noncomputable def execsT (b : List Stmt) (env : Env) : Sem Fin := (execsQ b env).bind fun f => .pure (.done f)
noncomputable def evalT (e : PySem.Expr) (env : Env) : Sem Fin := (evalQ e env).bind fun v => .pure (.done (.ret v))
noncomputable def testT (e : PySem.Expr) (b : List Stmt) (env : Env) : Sem Fin := (isTrueQ e env (evalQ e env)).bind fun t => match t with
  | true => execsT b env
  | false => .pure (.done .brk)
section
variable {X : Cx} {M : Model} {A : Around} {c : Code} {R : Result → Shared → Prop} {s : Shared} {env : Env}
theorem own_execsT {b : List Stmt} (h : wpOwn M A c (execsT b env) (postM X A R) (postE R) s) :
    wpOwn M A c (execs b env) (fun f s' => R (.ok f) s') (fun e s' => R (.error e) s') s := by
  intro Γ p hc hΓ
  have k := h Γ p hc hΓ
  unfold execsT at k
  rw [← execsQ_eq] at k
  change Sem.wp _ _ (execs b env >>= fun f => (pure (PySem.Fin.done f) : Sem PySem.Fin)) _ _ p s at k
  rw [Sem.wp_bind'] at k
  exact k
theorem own_evalT {e : PySem.Expr} (h : wpOwn M A c (evalT e env) (postM X A R) (postE R) s) :
    wpOwn M A c (eval e env) (fun v s' => R (.ok (.ret v)) s') (fun e s' => R (.error e) s') s := by
  intro Γ p hc hΓ
  have k := h Γ p hc hΓ
  unfold evalT at k
  rw [← evalQ_eq] at k
  change Sem.wp _ _ (eval e env >>= fun v => (pure (PySem.Fin.done (.ret v)) : Sem PySem.Fin)) _ _ p s at k
  rw [Sem.wp_bind'] at k
  exact k
theorem wp_execs_append {Γ : PySem.Ctx} {b₁ b₂ : List Stmt} {Q : Flow → Pos → Shared → Prop} {E : Value → Pos → Shared → Prop} {p : Pos}
    (h : Sem.wp M Γ (execs b₁ env) (fun f p' s' => match f with | .next => Sem.wp M Γ (execs b₂ env) Q E p' s' | f => Q f p' s') E p s) : Sem.wp M Γ (execs (b₁ ++ b₂) env) Q E p s := by
  induction b₁ generalizing s p with
  | nil => exact h
  | cons x b ih =>
    rw [execs_cons, Sem.wp_bind'] at h
    rw [List.cons_append, execs_cons, Sem.wp_bind']
    refine Sem.wp_mono _ _ _ (fun f p₁ s₁ k₁ => ?_) (fun _ _ _ h => h) p s h
    cases f with
    | next => exact ih k₁
    | _ => exact k₁
theorem own_execs_append {b₁ b₂ : List Stmt} {Q : Flow → Shared → Prop} {E : Value → Shared → Prop}
    (h : wpOwn M A c (execs b₁ env) (fun f s' => match f with | .next => wpOwn M A c (execs b₂ env) Q E s' | f => Q f s') E s) : wpOwn M A c (execs (b₁ ++ b₂) env) Q E s := by
  intro Γ p hc hΓ
  refine wp_execs_append (Sem.wp_mono _ _ _ (fun f p₁ s₁ k₁ => ?_) (fun _ _ _ h => h) p s (h Γ p hc hΓ))
  cases f with
  | next => exact k₁ Γ p₁ hc hΓ
  | _ => exact k₁
theorem own_If {test : PySem.Expr} {body orelse : List Stmt} {pos : Pos} {Q : Flow → Shared → Prop} {E : Value → Shared → Prop}
    (h : wpOwn M A c (PySem.isTrue test env (eval test env)) (fun b s₂ => if b then wpOwn M A c (execs body env) Q E s₂ else wpOwn M A c (execs orelse env) Q E s₂) E s) :
    wpOwn M A c (exec (.If test body orelse pos) env) Q E s := fun Γ p hc hΓ => by
  simp only [exec_If, Sem.wp_bind', Sem.wp_cmd_standAt]
  refine Sem.wp_mono M Γ _ (fun b p₂ s₂ h₂ => ?_) (fun _ _ _ h' => h') _ _ (h Γ _ hc hΓ)
  cases b <;> exact h₂ Γ p₂ hc hΓ
theorem own_isTrue_Compare1 {l : PySem.Expr} {op : CmpOp} {r : PySem.Expr} {pos : Pos} {whole : Sem Value} {Q : Bool → Shared → Prop} {E : Value → Shared → Prop}
    (h : wpOwn M A c (eval l env) (fun a s₁ => wpOwn M A c (eval r env) (fun b s₂ => wpOwn M A c (compareOp op a b)
      (fun v s₃ => wpOwn M A c (truthy v) Q E s₃) E s₂) E s₁) E s)
    (hm : behindInMarks op r = false) : wpOwn M A c (PySem.isTrue (.Compare l [op] [r] pos) env whole) Q E s := fun Γ p hc hΓ => by
  simp only [isTrue_Compare1, markedBehindIn_of_false hm, Sem.wp_bind', Sem.wp_holding, Sem.wp_cmd_standAt, Sem.wp_operate]
  exact Sem.wp_mono M Γ _ (fun a p₁ s₁ h₁ => Sem.wp_mono M Γ _ (fun b _ s₂ h₂ => Sem.wp_mono M Γ _ (fun v p₃ s₃ h₃ => h₃ Γ p₃ hc hΓ)
    (fun _ _ _ h' => h') _ _ (h₂ Γ _ hc hΓ)) (fun _ _ _ h' => h') _ _ (h₁ Γ p₁ hc hΓ)) (fun _ _ _ h' => h') _ _ (h Γ p hc hΓ)
end
section
variable {M : Model} {A : Around} {c : Code} {s : Shared} {env : Env}
theorem own_execs_one {x : Stmt} {Q : Flow → Shared → Prop} {E : Value → Shared → Prop} (h : wpOwn M A c (exec x env) Q E s) : wpOwn M A c (execs [x] env) Q E s := fun Γ p hc hΓ => by
  rw [execs_cons, Sem.wp_bind']
  refine Sem.wp_mono M Γ _ (fun f p₂ s₂ h₂ => ?_) (fun _ _ _ h' => h') _ _ (h Γ _ hc hΓ)
  cases f <;> exact h₂
theorem own_execs_nil {Q : Flow → Shared → Prop} {E : Value → Shared → Prop} (h : Q .next s) : wpOwn M A c (execs [] env) Q E s := fun _ _ _ _ => h
end
noncomputable def ifParts (s : Stmt) : Option (PySem.Expr × CmpOp × PySem.Expr × Pos × List Stmt × Pos) := match s with
  | .If (.Compare l [op] [r] p) b [] p' => some (l, op, r, p, b, p')
  | _ => none
theorem ifParts_eq {s : Stmt} {l : PySem.Expr} {op : CmpOp} {r : PySem.Expr} {p : Pos} {b : List Stmt} {p' : Pos} (h : ifParts s = some (l, op, r, p, b, p')) : s = .If (.Compare l [op] [r] p) b [] p' := by
  unfold ifParts at h
  split at h
  · cases h; rfl
  · cases h
noncomputable def After (X : Cx) (A : Around) (c : Code) (R : Result → Shared → Prop) (f : Flow) (s : Shared) : Prop := match f with
  | .next => codeAny X.M A c R s
  | .cont => codeAny X.M A c R s
  | .brk => R (.ok .next) s
  | .ret v => R (.ok (.ret v)) s
theorem while_turn {X : Cx} {A : Around} {test : PySem.Expr} {b₁ b₂ : List Stmt} {env : Env} {R : Result → Shared → Prop} {s : Shared}
    (h : wpOwn X.M A (.whileLoop test (b₁ ++ b₂) [] env) (testT test b₁ env) (postM X A fun r s' => match r with
      | .ok .next => wpOwn X.M A (.whileLoop test (b₁ ++ b₂) [] env) (execs b₂ env) (After X A (.whileLoop test (b₁ ++ b₂) [] env) R) (fun _ _ => False) s'
      | .ok f => After X A (.whileLoop test (b₁ ++ b₂) [] env) R f s'
      | .error _ => False) (fun _ _ => False) s) :
    codeAny X.M A (.whileLoop test (b₁ ++ b₂) [] env) R s := by
  refine codeAny_of_own ?_
  intro Γ p hc hΓ
  have k := h Γ p hc hΓ
  unfold testT at k
  rw [← isTrueQ_eq, ← evalQ_eq] at k
  show Sem.wp _ Γ ((whileTurn test (b₁ ++ b₂) [] env).onRaise _) _ _ p s
  rw [Sem.wp_onRaise]
  unfold whileTurn
  change Sem.wp _ _ (PySem.isTrue test env (eval test env) >>= _) _ _ p s at k
  rw [Sem.wp_bind'] at k ⊢
  refine Sem.wp_mono _ _ _ (fun t p₁ s₁ k₁ => ?_) (fun _ _ _ h => h.elim) p s k
  cases t with
  | false => exact k₁
  | true =>
    simp only [if_true]
    unfold execsT at k₁
    rw [← execsQ_eq] at k₁
    change Sem.wp _ _ (execs b₁ env >>= fun f => (pure (PySem.Fin.done f) : Sem PySem.Fin)) _ _ p₁ s₁ at k₁
    rw [Sem.wp_bind'] at k₁ ⊢
    refine wp_execs_append (Sem.wp_mono _ _ _ (fun f p₂ s₂ k₂ => ?_) (fun _ _ _ h => h.elim) p₁ s₁ k₁)
    cases f with
    | next =>
      refine Sem.wp_mono _ _ _ (fun f p₃ s₃ k₃ => ?_) (fun _ _ _ h => h.elim) p₂ s₂ ((show wpOwn _ _ _ _ _ _ _ from k₂) Γ p₂ hc hΓ)
      cases f with
      | next => exact ⟨rfl, k₃⟩
      | cont => exact ⟨rfl, k₃⟩
      | brk => exact k₃
      | ret v => exact k₃
    | cont => exact ⟨rfl, k₂⟩
    | brk => exact k₂
    | ret v => exact k₂
theorem stop_eval {X : Cx} {M : Model} {A : Around} {c : Code} {R : Result → Shared → Prop} {s : Shared} {env : Env} {e : PySem.Expr} (h : wpOwn M A c (evalT e env) (postM X A R) (postE R) s) :
    wpOwn M A c (eval e env) (fun v s' => R (.ok (.ret v)) s') (fun e s' => R (.error e) s') s := own_evalT h
end
section
open PySem PySem.W PySem.W.X PySem.Calls PySem.Spec PyProof.Rows
noncomputable abbrev pgm : Program := PySem.Challenge.rw_xm0961_01.row.prog
noncomputable def PP (p : Params) (b1 b2 : Bool) : Params := { p with followText := fun r => match PySem.W.S.eqLit 10139888712337904147300001983332972444938612 r with
  | true => b1
  | false => match PySem.W.S.eqLit 2510650655181157320538776789020469319833841985448949215332 r with
    | true => b2
    | false => p.followText r }
theorem PP_eq (p : Params) : p = PP p (p.followText "special-get-raises") (p.followText "comprehension-iter-twice") := by
  have h : p.followText = fun r => match PySem.W.S.eqLit 10139888712337904147300001983332972444938612 r with
      | true => p.followText "special-get-raises"
      | false => match PySem.W.S.eqLit 2510650655181157320538776789020469319833841985448949215332 r with
        | true => p.followText "comprehension-iter-twice"
        | false => p.followText r := by
    funext r
    rw [← PySem.W.S.eqLit_eq "special-get-raises" 10139888712337904147300001983332972444938612 (by decide +kernel), ← PySem.W.S.eqLit_eq "comprehension-iter-twice" 2510650655181157320538776789020469319833841985448949215332 (by decide +kernel)]
    split
    · rename_i h; rw [beq_iff_eq.mp h]
    · split
      · rename_i h; rw [beq_iff_eq.mp h]
      · rfl
  unfold PP
  rw [← h]
noncomputable def pv0 (p : Params) (b1 b2 : Bool) : PV := ⟨pgm, PP p b1 b2, kt0 p, 661⟩
noncomputable def kh (p : Params) (l : List Nat) : Int := PyData.keyHash p ⟨⟨l⟩⟩
noncomputable def fdAt (P : Params) (a : Nat) : FuncData := match (kt0 P).get a with | some ⟨_, _, .func fd, _⟩ => fd | _ => default
noncomputable def bodyAt (P : Params) (a : Nat) : List Stmt := match (fdAt P a).body with | .stmts b => b | _ => []
noncomputable def envAt (P : Params) (a L : Nat) : Env := let fd := fdAt P a
  { scope := fd.scope, locals := L, globals := fd.globals, cells := fd.closure, qual := fd.qualname ++ ".<locals>.", func := some a, code := fd.code, frame := some L, builtins := fd.builtins }
noncomputable def isWhile (s : Stmt) : Option (Expr × List Stmt) := match s with
  | .While t b [] _ => some (t, b)
  | _ => none
noncomputable abbrev lst (l : List Value) (n : Nat) : Obj := { cls := .type "list", data := .seq ⟨l⟩ n }
noncomputable abbrev sv (l : List Nat) (t : Tok) : Value := .str ⟨⟨l⟩⟩ t
noncomputable abbrev inst (C d : Addr) : Obj := { cls := .ref C, dict := some d }
noncomputable def stAt (l : List Stmt) (i : Nat) : Stmt := match (l.drop i).head? with | some x => x | none => .Pass default
noncomputable def whT (x : Stmt) : PySem.Expr := match isWhile x with | some (t, _) => t | none => default
noncomputable def whB (x : Stmt) : List Stmt := match isWhile x with | some (_, b) => b | none => []
noncomputable def outT (P : Params) : PySem.Expr := whT (stAt (bodyAt P 614) 1)
noncomputable def outB (P : Params) : List Stmt := whB (stAt (bodyAt P 614) 1)
noncomputable def outC (P : Params) (L : Addr) : Code := .whileLoop (outT P) (outB P) [] (envAt P 614 L)
noncomputable def outB1 (P : Params) : List Stmt := (outB P).take 3
noncomputable def outB3 (P : Params) : List Stmt := (outB P).drop 4
noncomputable def inT (P : Params) : PySem.Expr := whT (stAt (outB P) 3)
noncomputable def inB (P : Params) : List Stmt := whB (stAt (outB P) 3)
noncomputable def inB1 (P : Params) : List Stmt := (inB P).take 3
noncomputable def inB2 (P : Params) : List Stmt := (inB P).drop 3
noncomputable def inC (P : Params) (L : Addr) : Code := .whileLoop (inT P) (inB1 P ++ inB2 P) [] (envAt P 614 L)
noncomputable def ifL (x : Stmt) : PySem.Expr := match ifParts x with | some (l, _, _, _, _, _) => l | none => default
noncomputable def ifR (x : Stmt) : PySem.Expr := match ifParts x with | some (_, _, r, _, _, _) => r | none => default
noncomputable def ifP (x : Stmt) : Pos := match ifParts x with | some (_, _, _, p, _, _) => p | none => default
noncomputable def ifB (x : Stmt) : List Stmt := match ifParts x with | some (_, _, _, _, b, _) => b | none => []
noncomputable def ifQ (x : Stmt) : Pos := match ifParts x with | some (_, _, _, _, _, p) => p | none => default
noncomputable def lostS (P : Params) : Stmt := stAt (inB P) 3
noncomputable def inB3 (P : Params) : List Stmt := (inB P).drop 4
noncomputable abbrev fr9 (hs : Nat → Int) (ks : Nat → Nat) (node subject begin host pile way chain at_ named : Value) : Obj :=
  { cls := .type "frame", data := .dict ⟨[⟨hs 0, sv [110,111,100,101] (ks 0), node⟩, ⟨hs 1, sv [115,117,98,106,101,99,116] (ks 1), subject⟩, ⟨hs 2, sv [98,101,103,105,110] (ks 2), begin⟩,
    ⟨hs 3, sv [104,111,115,116] (ks 3), host⟩, ⟨hs 4, sv [112,105,108,101] (ks 4), pile⟩, ⟨hs 5, sv [119,97,121] (ks 5), way⟩, ⟨hs 6, sv [99,104,97,105,110] (ks 6), chain⟩,
    ⟨hs 7, sv [97,116] (ks 7), at_⟩, ⟨hs 8, sv [110,97,109,101,100] (ks 8), named⟩]⟩ 9 }
noncomputable abbrev fr5 (hs : Nat → Int) (ks : Nat → Nat) (node subject begin host pile : Value) : Obj :=
  { cls := .type "frame", data := .dict ⟨[⟨hs 0, sv [110,111,100,101] (ks 0), node⟩, ⟨hs 1, sv [115,117,98,106,101,99,116] (ks 1), subject⟩, ⟨hs 2, sv [98,101,103,105,110] (ks 2), begin⟩,
    ⟨hs 3, sv [104,111,115,116] (ks 3), host⟩, ⟨hs 4, sv [112,105,108,101] (ks 4), pile⟩]⟩ 5 }
noncomputable abbrev hostD (hs : Nat → Int) (ks : Nat → Nat) (vd rf lg : Addr) (k : Int) (t : Tok) : Obj :=
  { cls := .type "dict", data := .dict ⟨[⟨hs 0, sv [118,97,108,117,101,115] (ks 0), .ref vd⟩, ⟨hs 1, sv [108,105,109,105,116] (ks 1), .int 9999 (ks 6)⟩, ⟨hs 2, sv [114,101,102,117,115,101,100] (ks 2), .ref rf⟩,
    ⟨hs 3, sv [119,105,100,116,104] (ks 3), .int 64 (ks 7)⟩, ⟨hs 4, sv [115,116,101,112,115] (ks 4), .int k t⟩, ⟨hs 5, sv [108,111,103] (ks 5), .ref lg⟩]⟩ 6 }
end
section
open PySem PySem.W PySem.W.X PySem.Calls PySem.Spec PyProof.Rows
noncomputable abbrev wayD (h : Nat → Int) (k : Nat → Nat) (ol : Addr) (pc : Int) (tp : Tok) (at_ : Int) (ta : Tok) (marks : Value) : Obj :=
  { cls := .type "dict", data := .dict ⟨[⟨h 0, sv [111,114,100,101,114,115] (k 0), .ref ol⟩, ⟨h 1, sv [112,99] (k 1), .int pc tp⟩, ⟨h 2, sv [97,116] (k 2), .int at_ ta⟩, ⟨h 3, sv [110,97,109,101,100] (k 3), .none⟩, ⟨h 4, sv [109,97,114,107,115] (k 4), marks⟩, ⟨h 5, sv [99,97,108,108,115] (k 5), .none⟩]⟩ 6 }
noncomputable abbrev matD (h : Nat → Int) (k : Nat → Nat) (sub : Value) (hi hl : Addr) : Obj :=
  { cls := .type "dict", data := .dict ⟨[⟨h 0, sv [115,117,98,106,101,99,116] (k 0), sub⟩, ⟨h 1, sv [104,111,115,116] (k 1), .ref hi⟩, ⟨h 2, sv [104,105,115,116,111,114,121] (k 2), .ref hl⟩]⟩ 3 }
noncomputable abbrev refD (hj : Nat → Int) (kj : Nat → Nat) : Obj := { cls := .type "dict", data := .dict ⟨[⟨hj 0, sv [107,105,110,100] (kj 0), sv [118,97,114] (kj 1)⟩, ⟨hj 1, sv [111,119,110,101,114] (kj 2), .none⟩, ⟨hj 2, sv [107,101,121] (kj 3), sv [74] (kj 4)⟩]⟩ 3 }
noncomputable def ifAny (s : Stmt) : Option (PySem.Expr × List Stmt × Pos) := match s with
  | .If t b [] p => some (t, b, p)
  | _ => none
theorem ifAny_eq {s : Stmt} {t : PySem.Expr} {b : List Stmt} {p : Pos} (h : ifAny s = some (t, b, p)) : s = .If t b [] p := by
  unfold ifAny at h
  split at h
  · cases h; rfl
  · cases h
noncomputable def ifT (x : Stmt) : PySem.Expr := match ifAny x with | some (t, _, _) => t | none => default
noncomputable def ifBd (x : Stmt) : List Stmt := match ifAny x with | some (_, b, _) => b | none => []
noncomputable def ifPs (x : Stmt) : Pos := match ifAny x with | some (_, _, p) => p | none => default
noncomputable def mT (P : Params) : PySem.Expr := whT (stAt (bodyAt P 474) 1)
noncomputable def mB (P : Params) : List Stmt := whB (stAt (bodyAt P 474) 1)
noncomputable def mB1 (P : Params) : List Stmt := (mB P).take 4
noncomputable def mS (P : Params) : Stmt := stAt (mB P) 4
noncomputable def mC (P : Params) (L : Addr) : Code := .whileLoop (mT P) (mB1 P ++ [.If (ifT (mS P)) (ifBd (mS P)) [] (ifPs (mS P))]) [] (envAt P 474 L)
noncomputable def turnT (t0 : PySem.Expr) (b1 : List Stmt) (pos : Pos) (t1 : PySem.Expr) (env : Env) : Sem Fin := (isTrueQ t0 env (evalQ t0 env)).bind fun x => match x with
  | true => (execsQ b1 env).bind fun f => match f with
    | .next => .at pos fun _ => (isTrueQ t1 env (evalQ t1 env)).bind fun y => .pure (.done (.ret (.bool y)))
    | _ => .unsupported "flow"
  | false => .pure (.done .brk)
noncomputable def mTT (P : Params) (L : Addr) : Sem Fin := turnT (mT P) (mB1 P) (ifPs (mS P)) (ifT (mS P)) (envAt P 474 L)
theorem while_if {X : Cx} {A : Around} {t0 t1 : PySem.Expr} {b1 body : List Stmt} {pos : Pos} {env : Env} {R : Result → Shared → Prop} {s : Shared}
    (h : wpOwn X.M A (.whileLoop t0 (b1 ++ [.If t1 body [] pos]) [] env) (turnT t0 b1 pos t1 env) (postM X A fun r s' => match r with
      | .ok (.ret (.bool true)) => wpOwn X.M A (.whileLoop t0 (b1 ++ [.If t1 body [] pos]) [] env) (execs body env) (After X A (.whileLoop t0 (b1 ++ [.If t1 body [] pos]) [] env) R) (fun _ _ => False) s'
      | .ok (.ret (.bool false)) => codeAny X.M A (.whileLoop t0 (b1 ++ [.If t1 body [] pos]) [] env) R s'
      | .ok .brk => R (.ok .next) s'
      | _ => False) (fun _ _ => False) s) :
    codeAny X.M A (.whileLoop t0 (b1 ++ [.If t1 body [] pos]) [] env) R s := by
  refine codeAny_of_own ?_
  intro Γ p hc hΓ
  have k := h Γ p hc hΓ
  unfold turnT at k
  rw [← isTrueQ_eq, ← evalQ_eq] at k
  show Sem.wp _ Γ ((whileTurn t0 (b1 ++ [.If t1 body [] pos]) [] env).onRaise _) _ _ p s
  rw [Sem.wp_onRaise]
  unfold whileTurn
  change Sem.wp _ _ (PySem.isTrue t0 env (eval t0 env) >>= _) _ _ p s at k
  rw [Sem.wp_bind'] at k ⊢
  refine Sem.wp_mono _ _ _ (fun t p₁ s₁ k₁ => ?_) (fun _ _ _ h => h.elim) p s k
  cases t with
  | false => exact k₁
  | true =>
    simp only [if_true]
    dsimp only at k₁
    rw [← execsQ_eq] at k₁
    change Sem.wp _ _ (execs b1 env >>= _) _ _ p₁ s₁ at k₁
    rw [Sem.wp_bind'] at k₁ ⊢
    refine wp_execs_append (Sem.wp_mono _ _ _ (fun f p₂ s₂ k₂ => ?_) (fun _ _ _ h => h.elim) p₁ s₁ k₁)
    cases f with
    | next =>
      dsimp only at k₂
      change Sem.wp _ _ (PySem.isTrue t1 env (eval t1 env) >>= _) _ _ pos s₂ at k₂
      rw [Sem.wp_bind'] at k₂
      rw [execs_cons, Sem.wp_bind']
      simp only [exec_If, Sem.wp_bind', Sem.wp_cmd_standAt]
      refine Sem.wp_mono _ _ _ (fun y p₃ s₃ k₃ => ?_) (fun _ _ _ h => h.elim) pos s₂ k₂
      cases y with
      | false => exact ⟨rfl, k₃⟩
      | true =>
        simp only [if_true]
        refine Sem.wp_mono _ _ _ (fun f p₄ s₄ k₄ => ?_) (fun _ _ _ h => h.elim) p₃ s₃ ((show wpOwn _ _ _ _ _ _ _ from k₃) Γ p₃ hc hΓ)
        cases f with
        | next => exact ⟨rfl, k₄⟩
        | cont => exact ⟨rfl, k₄⟩
        | brk => exact k₄
        | ret v => exact k₄
    | cont => exact k₂.elim
    | brk => exact k₂.elim
    | ret v => exact k₂.elim
noncomputable def pT (P : Params) : PySem.Expr := whT (stAt (bodyAt P 65) 1)
noncomputable def pB (P : Params) : List Stmt := whB (stAt (bodyAt P 65) 1)
noncomputable def pC (P : Params) (L : Addr) : Code := .whileLoop (pT P) (pB P) [] (envAt P 65 L)
end
section
open PySem PySem.W PySem.W.X PySem.Calls PySem.Spec PyProof.Rows
noncomputable abbrev lS (P : Params) (i k : Nat) : List Stmt := ((bodyAt P 659).drop i).take k
noncomputable abbrev lE (L : Addr) (P : Params) : Env := envAt P 659 L
noncomputable def envL (P : Params) (L c1 c2 c3 : Nat) : Env := { envAt P 659 L with cells := [(⟨⟨[103, 111, 97, 108, 115]⟩⟩, c3), (⟨⟨[104, 101, 114, 101]⟩⟩, c2), (⟨⟨[99, 101, 108, 108, 115]⟩⟩, c1)] }
noncomputable abbrev cel (v : Option Value) : Obj := { cls := .type "cell", data := .cell v }
noncomputable def forOf (s : Stmt) : Option (PySem.Expr × PySem.Expr × List Stmt × Pos) := match s with
  | .For t i b [] p => some (t, i, b, p)
  | _ => none
theorem forOf_eq {s : Stmt} {t i : PySem.Expr} {b : List Stmt} {p : Pos} (h : forOf s = some (t, i, b, p)) : s = .For t i b [] p := by
  unfold forOf at h
  split at h
  · cases h; rfl
  · cases h
noncomputable def fT (x : Stmt) : PySem.Expr := match forOf x with | some (t, _, _, _) => t | none => default
noncomputable def fI (x : Stmt) : PySem.Expr := match forOf x with | some (_, i, _, _) => i | none => default
noncomputable def fB (x : Stmt) : List Stmt := match forOf x with | some (_, _, b, _) => b | none => []
noncomputable def fP (x : Stmt) : Pos := match forOf x with | some (_, _, _, p) => p | none => default
noncomputable def fC (P : Params) (k L c1 c2 c3 it : Nat) : Code := .forLoop (fT (stAt (bodyAt P 659) k)) (.ref it) (fB (stAt (bodyAt P 659) k)) [] (envL P L c1 c2 c3)
noncomputable def lIf (P : Params) : Stmt := stAt (bodyAt P 659) 13
noncomputable def lRet (P : Params) : Stmt := stAt (bodyAt P 659) 14
noncomputable def retParts (s : Stmt) : Option (PySem.Expr × CmpOp × PySem.Expr × Pos × Pos) := match s with
  | .Return (some (.Compare l [op] [r] p)) p' => some (l, op, r, p, p')
  | _ => none
theorem retParts_eq {s : Stmt} {l : PySem.Expr} {op : CmpOp} {r : PySem.Expr} {p p' : Pos} (h : retParts s = some (l, op, r, p, p')) : s = .Return (some (.Compare l [op] [r] p)) p' := by
  unfold retParts at h
  split at h
  · cases h; rfl
  · cases h
noncomputable def rL (x : Stmt) : PySem.Expr := match retParts x with | some (l, _, _, _, _) => l | none => default
noncomputable def rR (x : Stmt) : PySem.Expr := match retParts x with | some (_, _, r, _, _) => r | none => default
noncomputable def rP (x : Stmt) : Pos := match retParts x with | some (_, _, _, p, _) => p | none => default
noncomputable def rQ (x : Stmt) : Pos := match retParts x with | some (_, _, _, _, p) => p | none => default
end
section
open PySem PySem.W PySem.W.X PySem.Calls PySem.Spec PyProof.Rows
noncomputable def hy (n : Nat) (l : List Nat) : List Nat := @Nat.rec (fun _ => Nat → List Nat) (fun _ => l) (fun _ ih n => Nat.mod n 128 :: ih (Nat.div n 128)) (Nat.div (Nat.log2 n) 7) n
section
variable (l : List Nat)
noncomputable def q0 := (hy 16384 l)
noncomputable def q1 := (hy 16513 l)
noncomputable def q2 := (hy 16385 l)
noncomputable def q3 := (q0 (hy 128 l))
noncomputable def q4 := (hy 16768 l)
noncomputable def q5 := (q0 (q0 l))
noncomputable def q6 := (hy 16771 l)
noncomputable def q7 := (q1 (hy 128 l))
noncomputable def q8 := (hy 16640 l)
noncomputable def q9 := (hy 17024 l)
noncomputable def q10 := (hy 16900 l)
noncomputable def q11 := (q2 (q2 (q1 l)))
noncomputable def q12 := (q4 (q4 l))
noncomputable def q13 := (hy 129 (q0 l))
noncomputable def q14 := (hy 17287 l)
noncomputable def q15 := (q1 (q11 l))
noncomputable def q16 := (q7 (hy 129 l))
noncomputable def q17 := (hy 16642 l)
noncomputable def q18 := (hy 17029 l)
noncomputable def q19 := (hy 16393 l)
noncomputable def q20 := (q1 (hy 129 l))
noncomputable def q21 := (hy 17416 l)
noncomputable def q22 := (hy 17158 l)
noncomputable def q23 := (q7 (q2 (q1 l)))
noncomputable def q24 := (hy 17152 l)
noncomputable def q25 := (q10 (hy 132 l))
noncomputable def q26 := (hy 2097664 l)
noncomputable def q27 := (q6 (q6 (q1 l)))
noncomputable def q28 := (hy 130 (q1 l))
noncomputable def q29 := (q12 (q4 (q6 l)))
noncomputable def q30 := (q6 (hy 131 l))
noncomputable def q31 := (q18 (hy 133 l))
noncomputable def q32 := (q3 (hy 131 l))
noncomputable def q33 := (hy 17545 (q19 l))
noncomputable def q34 := (q0 (hy 129 l))
noncomputable def q35 := (q4 (hy 131 l))
noncomputable def q36 := (q3 (hy 130 l))
noncomputable def q37 := (q8 (q1 (q16 l)))
noncomputable def q38 := (q3 (hy 129 l))
noncomputable def q39 := (hy 135 (q0 l))
noncomputable def q40 := (q17 (hy 130 (q8 l)))
noncomputable def q41 := (hy 135 (q3 l))
noncomputable def q42 := (q21 (hy 136 l))
noncomputable def q43 := (hy 130 (q15 l))
noncomputable def q44 := (q5 (q0 (q23 (q11 l))))
noncomputable def q45 := (hy 128 (q23 l))
noncomputable def q46 := (hy 137 (q0 l))
noncomputable def q47 := (q0 (hy 134 l))
noncomputable def q48 := (q16 (hy 16514 l))
noncomputable def q49 := (hy 129 (q30 l))
noncomputable def q50 := (hy 624526362904334 l)
noncomputable def q51 := (hy 268566536 l)
noncomputable def q52 := (q1 (q1 l))
noncomputable def q53 := (hy 4403415550484 l)
noncomputable def q54 := (q33 (q19 (hy 137 l)))
noncomputable def q55 := (q0 (q48 l))
noncomputable def q56 := (q49 (q0 (q10 l)))
noncomputable def q57 := (q31 (q9 (q9 l)))
noncomputable def q58 := (hy 16896 (q26 (q10 l)))
noncomputable def q59 := (q12 (q6 (q27 l)))
noncomputable def q60 := (hy 130 (q8 (q17 (q29 l))))
noncomputable def q61 := (q8 (q1 (q1 (q16 l))))
noncomputable def q62 := (q0 (hy 136 l))
noncomputable def q63 := (hy 2245769 l)
noncomputable def q64 := (hy 301991936 l)
noncomputable def q65 := (q22 (hy 134 l))
noncomputable def q66 := (hy 2361360 l)
noncomputable def q67 := (hy 327618076 l)
noncomputable def q68 := (q9 (q9 (q9 l)))
noncomputable def q69 := (q4 (hy 129 (q3 l)))
noncomputable def q70 := (hy 161 (q3 l))
noncomputable def q71 := (q1 (q13 (q13 l)))
noncomputable def q72 := (hy 134 (q54 (q13 (q32 (q4 (q8 (q8 (q17 (q29 l)))))))))
noncomputable def q73 := (hy 2262282 l)
noncomputable def q74 := (q17 (hy 130 l))
noncomputable def q75 := (q40 (hy 128 (q1 (q20 (hy 130 (q0 l))))))
noncomputable def q76 := (hy 135 (q5 (q41 l)))
noncomputable def q77 := (hy 4403684002453 l)
noncomputable def q78 := (hy 130 (q5 (hy 130 (q0 (hy 130 (q8 (q36 (q4 (q6 l)))))))))
noncomputable def q79 := (hy 135 (q18 (q18 l)))
noncomputable def q80 := (q3 (q46 (hy 268550151 (q39 (hy 137 (q14 (q14 (hy 2098048 (q14 (q14 l))))))))))
noncomputable def q81 := (hy 346641061 l)
noncomputable def q82 := (q8 (q1 (q52 l)))
noncomputable def q83 := (hy 302254080 l)
noncomputable def q84 := (q13 (hy 131 (q12 (hy 131 l))))
noncomputable def q85 := (q2 (q6 (q12 (q12 (q35 l)))))
noncomputable def q86 := (hy 2724646 l)
noncomputable def q87 := (hy 128 (q2 (q1 (q43 (q43 l)))))
noncomputable def q88 := (q21 (q21 (q19 (hy 16392 l))))
noncomputable def q89 := (hy 268992546 l)
noncomputable def q90 := (hy 134 (q5 (hy 134 (q3 l))))
noncomputable def q91 := (hy 136 (q5 (hy 136 (q3 l))))
noncomputable def q92 := (hy 615729732978188 l)
noncomputable def q93 := (q76 (q14 (hy 16896 l)))
noncomputable def q94 := (q71 (q13 (q13 (q13 (q13 (q36 (hy 128 l)))))))
noncomputable def q95 := (hy 329731741 l)
noncomputable def q96 := (hy 628924677867407 l)
noncomputable def q97 := (q14 (hy 135 l))
noncomputable def q98 := (hy 130 (q0 (hy 130 l)))
noncomputable def q99 := (q2 (hy 131 (q4 (q6 (q58 l)))))
noncomputable def q100 := (q26 (q25 (q68 (hy 133 l))))
noncomputable def q101 := (hy 77731420319154186 (q73 l))
noncomputable def q102 := (hy 2311821 l)
noncomputable def q103 := (q37 (q57 (q94 l)))
noncomputable def q104 := (q44 (q1 (q0 (hy 131 (q59 l)))))
noncomputable def q105 := (q44 (q1 (q35 (q12 (q29 l)))))
noncomputable def q106 := (q40 (q8 (q32 l)))
noncomputable def q107 := (q9 (q9 (q18 (q24 (q24 (hy 128 (q22 l)))))))
noncomputable def q108 := (hy 128 (q19 (q33 (q101 (q14 l)))))
noncomputable def q109 := (q0 (hy 132 l))
noncomputable def q110 := (hy 2708133 l)
noncomputable def q111 := (hy 163 (q5 (hy 163 (q3 (hy 343937443 l)))))
noncomputable def q112 := (hy 129 (q5 (q0 l)))
noncomputable def q113 := (hy 138 (q5 (hy 138 (q3 (hy 2098442 l)))))
noncomputable def q114 := (q25 (q26 (q23 (hy 133 (q15 l)))))
noncomputable def q115 := (q88 (q42 (q80 (q63 l))))
noncomputable def q116 := (hy 344527396 l)
noncomputable def q117 := (hy 336072736 l)
noncomputable def q118 := (hy 164 (q5 (hy 164 (q3 (hy 346034724 l)))))
noncomputable def q119 := (hy 818052221279546 l)
noncomputable def q120 := (q51 (q21 (q21 (q42 (q6 l)))))
noncomputable def q121 := (hy 17933 (q50 (hy 129 (q96 l))))
noncomputable def q122 := (q9 (q69 (q60 l)))
noncomputable def q123 := (hy 18707 (q53 (hy 16532 (q77 (hy 16405 l)))))
noncomputable def q124 := (q56 (hy 4917500577664 (q64 (q83 (hy 310708737 (q67 (hy 4402610194580 l)))))))
noncomputable def q125 := (hy 150 (q18 (hy 129 (q31 (hy 5610105999744 l)))))
noncomputable def q126 := (hy 17933 (q50 (hy 129 (q66 l))))
noncomputable def q127 := (hy 18707 (q53 (hy 0x22c01600580162c58094 l)))
noncomputable def q128 := (hy 134 (q3 (hy 134 (q3 (hy 134 (q5 l))))))
noncomputable def q129 := (q21 (q51 (q23 (hy 137 (q15 l)))))
noncomputable def q130 := (hy 268831768 l)
noncomputable def q131 := (hy 268746771 l)
noncomputable def q132 := (hy 350868391 l)
noncomputable def q133 := (hy 4413079821368 l)
noncomputable def q134 := (hy 131 (q0 (q16 (hy 131 l))))
noncomputable def q135 := (hy 4400999482763 l)
noncomputable def q136 := (q19 (q19 (hy 17545 l)))
noncomputable def q137 := (hy 136 (q47 (q24 (q24 (q62 (q22 (q22 (q24 (hy 128 (q22 (q22 l)))))))))))
noncomputable def q138 := (q8 (q8 (q8 (hy 130 l))))
noncomputable def q139 := (hy 2576029 l)
noncomputable def q140 := (hy 162 (q3 (hy 162 (q3 (hy 162 (q5 (hy 162 l)))))))
noncomputable def q141 := (q0 (hy 44292456485 l))
noncomputable def q142 := (hy 133 (q3 (hy 133 (q3 (hy 133 (q5 l))))))
noncomputable def q143 := (q30 (q4 (q45 (hy 132 (q15 (hy 132 (q15 l)))))))
noncomputable def q144 := (q14 (hy 36238901255 l))
noncomputable def q145 := (hy 606933103052042 l)
noncomputable def q146 := (hy 46976974895 l)
noncomputable def q147 := (q33 (q19 (q23 (hy 138 (q15 (hy 138 (q15 (hy 138 (q20 l)))))))))
noncomputable def q148 := (hy 348754726 l)
noncomputable def q149 := (hy 132 (q5 (hy 132 (q3 (q10 l)))))
noncomputable def q150 := (q30 (q114 (hy 133 (q15 (hy 133 (q20 (q10 (q25 (q107 l)))))))))
noncomputable def q151 := (q87 (hy 130 (q20 (q14 (q14 l)))))
noncomputable def q152 := (q3 (hy 166 l))
noncomputable def q153 := (q13 (q13 (hy 129 l)))
noncomputable def q154 := (q61 (q38 (q38 l)))
noncomputable def q155 := (hy 333959071 l)
noncomputable def q156 := (hy 168 (q3 l))
noncomputable def q157 := (hy 269107241 l)
noncomputable def q158 := (hy 4405294714267 l)
noncomputable def q159 := (hy 132 (q6 (q1 (q5 (q112 (q32 (q8 (q8 (q17 (q12 (q35 l)))))))))))
noncomputable def q160 := (q0 (hy 130 (q57 (q4 (q5 (q23 (q11 l)))))))
noncomputable def q161 := (hy 148 (q6 (q1 (q13 (q99 l)))))
noncomputable def q162 := (q10 (q17 (q98 (q100 (q125 (hy 132 l))))))
noncomputable def q163 := (hy 145 (q5 (hy 145 l)))
noncomputable def q164 := (hy 37581161996 (q45 (hy 141 (q15 (hy 141 (q15 (hy 141 (q20 l))))))))
noncomputable def q165 := (q2 (q28 (q7 (q43 (q151 (q3 (q39 (hy 133 (q9 (q9 (q0 (q79 (q9 (q9 (q31 (q97 l))))))))))))))))
noncomputable def q166 := (q39 (q79 (hy 135 l)))
noncomputable def q167 := (q24 (q28 (q22 (q22 (q3 (q137 (q42 l)))))))
noncomputable def q168 := (hy 355095721 l)
noncomputable def q169 := (q13 (q36 (hy 128 (q2 (hy 130 (q1 (q16 l)))))))
noncomputable def q170 := (hy 165 (q5 (hy 165 (q3 (hy 21157 l)))))
noncomputable def q171 := (hy 132 (q8 (q16 l)))
noncomputable def q172 := (q9 (q18 (hy 129 l)))
noncomputable def q173 := (hy 131 (q32 l))
noncomputable def q174 := (q65 (q129 (hy 137 (q15 (hy 137 (q20 (q14 (q14 (hy 268566535 (q21 (hy 16392 (q136 l))))))))))))
noncomputable def q175 := (q46 (hy 137 (q115 l)))
noncomputable def q176 := (q8 (q7 (q74 l)))
noncomputable def q177 := (q10 (q10 (hy 133 (q26 (q25 l)))))
noncomputable def q178 := (hy 172 (q3 (hy 172 l)))
noncomputable def q179 := (hy 173 (q5 (hy 173 (q3 (hy 22189 l)))))
noncomputable def q180 := (hy 48050782259 l)
noncomputable def q181 := (q31 (q9 (q45 (hy 134 (q15 (hy 134 (q15 (hy 134 (q20 l)))))))))
noncomputable def q182 := (hy 765272441722670 l)
noncomputable def q183 := (q70 (q70 (hy 161 (q5 (hy 20769 l)))))
noncomputable def q184 := (q27 (q72 (q27 (q72 l))))
noncomputable def q185 := (q82 (q1 (q1 (q16 (q143 (hy 132 (q20 (q10 (q25 (q144 l))))))))))
noncomputable def q186 := (hy 143 (q5 (hy 143 (q3 (hy 18319 l)))))
noncomputable def q187 := (hy 2394386 l)
noncomputable def q188 := (q6 (q61 (q30 (q12 (q20 l)))))
noncomputable def q189 := (hy 140 (q5 (hy 140 l)))
noncomputable def q190 := (hy 141 (q5 (hy 141 (q3 (hy 293602957 l)))))
noncomputable def q191 := (q1 (q78 (q1 (q78 l))))
noncomputable def q192 := (q25 (hy 276824576 l))
noncomputable def q193 := (hy 131 (q0 (hy 131 l)))
noncomputable def q194 := (hy 268963872 l)
noncomputable def q195 := (q103 (hy 129 l))
noncomputable def q196 := (q13 (q13 (hy 133 (q9 (q9 (q34 (q57 l)))))))
noncomputable def q197 := (hy 156 (q5 (hy 156 (q3 (hy 19996 l)))))
noncomputable def q198 := (q0 (hy 42144841757 l))
noncomputable def q199 := (hy 44829360167 l)
noncomputable def q200 := (hy 160 (q3 (hy 160 (q3 (hy 160 l)))))
noncomputable def q201 := (hy 359323051 l)
noncomputable def q202 := (q44 (q1 (q109 (q26 (q10 (q10 (q25 (q1 (q104 l)))))))))
noncomputable def q203 := (q44 (q7 (q10 (hy 276824576 (q58 (q10 (q25 (q1 (q105 (q27 l))))))))))
noncomputable def q204 := (q4 (hy 128 (q10 (q10 (q10 (q185 (q25 l)))))))
noncomputable def q205 := (q0 (hy 135 (q5 (q39 (hy 16391 l)))))
noncomputable def q206 := (q1 (q2 (q28 (q1 (q7 l)))))
noncomputable def q207 := (hy 139 (q5 (hy 139 (q3 (hy 289408395 l)))))
noncomputable def q208 := (q2 (hy 129 (q5 l)))
noncomputable def q209 := (q63 (q164 (hy 0x460c003000c002c58b002c00a142850a l)))
noncomputable def q210 := (hy 18835 (q131 (hy 147 l)))
noncomputable def q211 := (hy 136 (q62 (q22 (q22 (hy 136 l)))))
noncomputable def q212 := (hy 135 (q28 (q14 (q14 (q80 (q63 l))))))
noncomputable def q213 := (hy 686102772387356 l)
noncomputable def q214 := (q17 (q10 (hy 16896 (q8 (q16 l)))))
noncomputable def q215 := (q0 (hy 133 (q177 (q12 (q35 l)))))
noncomputable def q216 := (q6 (q18 (q9 (q8 (q16 l)))))
noncomputable def q217 := (hy 170 (q3 (hy 170 (q3 l))))
noncomputable def q218 := (hy 774069071648816 l)
noncomputable def q219 := (q14 (q14 (hy 268550152 l)))
noncomputable def q220 := (hy 155 (q5 (hy 155 (q3 (hy 19867 l)))))
noncomputable def q221 := (hy 333955103 l)
noncomputable def q222 := (hy 352982056 l)
noncomputable def q223 := (hy 167 (q3 (hy 167 (q3 l))))
noncomputable def q224 := (q0 (hy 157 (q0 (hy 41876389916 (q0 (hy 157 (q67 (hy 2100736 l))))))))
noncomputable def q225 := (q14 (hy 268550151 (q1 (q20 l))))
noncomputable def q226 := (hy 22447 (q146 l))
noncomputable def q227 := (q34 (q5 (q0 (q3 (q60 l)))))
noncomputable def q228 := (q56 (q108 (q104 l)))
noncomputable def q229 := (q123 (hy 139 (q12 l)))
noncomputable def q230 := (q56 (q108 (q105 (q27 l))))
noncomputable def q231 := (q123 (hy 139 (q69 (q60 l))))
noncomputable def q232 := (q161 (hy 149 (q162 l)))
noncomputable def q233 := (q126 (q64 (q122 l)))
noncomputable def q234 := (q126 (q64 (q9 (q12 l))))
noncomputable def q235 := (q127 (q69 (q60 l)))
noncomputable def q236 := (q41 (q41 (hy 135 (q5 (hy 135 l)))))
noncomputable def q237 := (q48 (hy 133 (q0 (q52 (q47 l)))))
noncomputable def q238 := (q8 (q1 (q38 l)))
noncomputable def q239 := (q87 (hy 130 (q20 l)))
noncomputable def q240 := (q5 (q5 (q5 (q5 (q5 (q5 l))))))
noncomputable def q241 := (q17 (q149 (q9 (q128 (hy 16774 (q8 (q16 (q93 (q205 (q41 (hy 16391 (q25 (hy 129 (q93 (hy 129 (q93 (q35 (q113 (hy 16777 (q113 (hy 137 (q21 (hy 274857992 (q4 (q6 (q106 (q106 (q142 (hy 17157 (q188 l))))))))))))))))))))))))))))))
noncomputable def q242 := (hy 20770 (q89 (hy 162 l)))
noncomputable def q243 := (hy 169 (q3 (hy 169 l)))
noncomputable def q244 := (q0 (hy 130 (q1 (q16 l))))
noncomputable def q245 := (hy 154 (q3 (hy 154 (q3 (hy 154 (q5 (hy 154 l)))))))
noncomputable def q246 := (hy 4400731030794 (q23 (hy 139 (q15 (hy 139 (q15 (hy 139 (q20 l))))))))
noncomputable def q247 := (hy 159 (q3 (hy 159 (q3 (hy 159 l)))))
noncomputable def q248 := (hy 128 (q2 (q11 l)))
noncomputable def q249 := (q0 (hy 44560908326 l))
noncomputable def q250 := (hy 357204010 l)
noncomputable def q251 := (q6 (q142 (hy 133 (q171 (q90 (q22 (q9 (q47 (q5 (hy 134 (q47 (q24 (q3 (hy 134 (q172 (q90 (q22 (q9 (hy 129 (q90 (q22 (q9 l))))))))))))))))))))))
noncomputable def q252 := (q82 (q7 (q13 (q13 (q13 (q13 (q13 (q13 (hy 129 (q3 (q206 (q13 (q2 (hy 131 l))))))))))))))
noncomputable def q253 := (q240 (q5 (q0 (q3 (q208 l)))))
noncomputable def q254 := (q189 (q3 (hy 17932 l)))
noncomputable def q255 := (hy 137 (q5 (hy 137 (q3 (hy 137 (q19 l))))))
noncomputable def q256 := (hy 2295308 (q66 (hy 18432 (q45 (hy 145 (q15 (hy 145 (q15 (hy 145 (q20 (hy 18061 (q102 (hy 0x11e007801e0070e1c00700 l)))))))))))))
noncomputable def q257 := (hy 5021353934866 l)
noncomputable def q258 := (hy 694899402313502 l)
noncomputable def q259 := (q3 (hy 138 (q0 (q51 (hy 136 (q0 l))))))
noncomputable def q260 := (q18 (q18 (hy 134 (q9 (q9 (q18 (q58 l)))))))
noncomputable def q261 := (q217 (hy 170 (q5 (hy 21930 l))))
noncomputable def q262 := (hy 171 (q3 (hy 171 (q3 l))))
noncomputable def q263 := (hy 174 (q5 (hy 174 (q3 (hy 22318 l)))))
noncomputable def q264 := (hy 177 (q5 (hy 177 (q3 (hy 22705 l)))))
noncomputable def q265 := (hy 5263751266329 l)
noncomputable def q266 := (q212 (hy 602640820275732 (q4 (hy 137 l))))
noncomputable def q267 := (q88 (q42 (q3 (q46 (hy 268550151 (q39 (hy 137 (q176 (hy 34380711178 (q2 (q11 (hy 139 (q1 (q6 (q4 (q8 (q16 (q130 (hy 16792 (q4 (hy 132 (q6 (q6 (hy 132 (q12 (q6 (q138 l)))))))))))))))))))))))))))
noncomputable def q268 := (hy 142 (q10 (q2 (hy 136 (q14 (hy 2098048 l))))))
noncomputable def q269 := (hy 138 (q6 (q7 (q99 (hy 139 (q10 (q17 (q8 (q100 l)))))))))
noncomputable def q270 := (hy 163 (q3 (hy 163 (q3 l))))
noncomputable def q271 := (hy 161 (q5 (q70 (hy 339742881 l))))
noncomputable def q272 := (q1 (q17 (q36 l)))
noncomputable def q273 := (hy 162 (q5 (hy 162 (q3 (hy 162 l)))))
noncomputable def q274 := (q140 (hy 163 (q37 (q111 (q81 (q2 (hy 16421 (q110 (q34 (q111 (q141 l)))))))))))
noncomputable def q275 := (hy 163 (q0 (q89 (hy 162 (q0 (hy 340300067 (q89 l)))))))
noncomputable def q276 := (q223 (hy 167 (q5 (hy 21543 l))))
noncomputable def q277 := (hy 21673 (q157 (hy 169 l)))
noncomputable def q278 := (hy 172 (q5 (q178 (hy 16428 l))))
noncomputable def q279 := (hy 822450536242619 l)
noncomputable def q280 := (hy 4416569696965 l)
noncomputable def q281 := (hy 672907827498137 l)
noncomputable def q282 := (hy 4414153629244 l)
noncomputable def q283 := (q74 (q225 (hy 135 (q7 (q2 l)))))
noncomputable def q284 := (q46 (hy 563431019349769 (q1 (q20 (hy 142 (q0 (q2 (q2 (hy 129 (q135 (q1 (q20 (hy 2114571 (q51 (hy 2114561 l)))))))))))))))
noncomputable def q285 := (q160 (q1 (q35 (q12 (q29 l)))))
noncomputable def q286 := (q76 (q14 (q9 l)))
noncomputable def q287 := (q91 (q21 (q24 l)))
noncomputable def q288 := (q62 (q5 (hy 136 (q0 (hy 16392 l)))))
noncomputable def q289 := (q251 (q204 (q237 (q47 (q47 (q16 (hy 130 (q2 (q14 (q14 l))))))))))
noncomputable def q290 := (hy 133 (q5 (hy 133 (q3 l))))
noncomputable def q291 := (hy 136 (q3 (hy 136 (q3 (hy 136 (q5 l))))))
noncomputable def q292 := (q65 (q24 (q45 (hy 135 (q15 (hy 135 (q15 (hy 135 (q20 l)))))))))
noncomputable def q293 := (hy 4408784589864 l)
noncomputable def q294 := (q129 (hy 137 (q15 (hy 137 (q20 l)))))
noncomputable def q295 := (q71 (q13 (hy 129 l)))
noncomputable def q296 := (q179 (hy 6025670022912 (q2 (hy 47075541039 (q34 (q179 (hy 22272 l)))))))
noncomputable def q297 := (q0 (q6 (q32 l)))
noncomputable def q298 := (hy 134 (q5 (q19 (hy 17803 (q0 (q75 l))))))
noncomputable def q299 := (hy 153 (q3 (hy 153 (q3 (hy 153 (q5 (hy 153 l)))))))
noncomputable def q300 := (hy 155 (q0 (hy 41339486234 (q0 (hy 41394015515 l)))))
noncomputable def q301 := (hy 42476211998 (q3 (hy 158 (q95 (hy 158 (q247 (q5 (hy 20511 l))))))))
noncomputable def q302 := (hy 157 (q5 (hy 157 (q3 (hy 20125 l)))))
noncomputable def q303 := (q270 (hy 163 (q5 (hy 21027 l))))
noncomputable def q304 := (q170 (hy 21248 (q132 (q2 (hy 44911149095 (q34 (q170 (hy 21248 (q0 l)))))))))
noncomputable def q305 := (q200 (q5 (hy 160 l)))
noncomputable def q306 := (hy 167 (q5 (hy 167 (q3 l))))
noncomputable def q307 := (q118 (q148 (q2 (hy 16422 (q86 l)))))
noncomputable def q308 := (hy 21286 (q86 (q152 (q81 (hy 166 l)))))
noncomputable def q309 := (hy 756475811796524 l)
noncomputable def q310 := (hy 791662331501108 l)
noncomputable def q311 := (hy 813653906316473 l)
noncomputable def q312 := (q160 (q1 (q0 (hy 131 (q59 l)))))
noncomputable def q313 := (q27 (q72 (q56 (q14 l))))
noncomputable def q314 := (hy 146 (q5 (hy 146 (q3 (hy 2099474 l)))))
noncomputable def q315 := (q289 (q97 (q82 (q52 (q1 (q16 (q135 (hy 139 (q1 (q13 (hy 129 (q3 (q7 (hy 130 (q1 (q16 (q92 (q0 (q36 (hy 16512 l))))))))))))))))))))
noncomputable def q316 := (q252 (q4 (q1 (q4 (q2 (hy 131 l))))))
noncomputable def q317 := (q38 (q38 (q38 (q38 (q3 (q48 l))))))
noncomputable def q318 := (q241 (q38 (q128 (hy 17286 (q7 (q28 (q1 (q16 (q192 (q1 (q34 (q5 (q5 (q38 (q192 (hy 16641 (q91 (q21 (hy 2131072 (q190 (q61 (q40 (q8 (q38 (q40 (q8 (q20 (q40 (q8 l)))))))))))))))))))))))))))))
noncomputable def q319 := (q163 (q0 (hy 2375697 (q3 (hy 145 l)))))
noncomputable def q320 := (q163 (q3 (hy 301992081 l)))
noncomputable def q321 := (hy 2344847 (q53 (q23 (hy 149 (q15 (hy 149 (q15 (hy 149 (q20 (hy 18448 (q66 (hy 563538668030080 l))))))))))))
noncomputable def q322 := (q259 (hy 138 (q21 (q21 (hy 2098176 (q21 (q21 l)))))))
noncomputable def q323 := (hy 138 (q0 (hy 563295985747082 (q19 l))))
noncomputable def q324 := (q22 (q22 (hy 268533767 (q65 (q68 (hy 133 l))))))
noncomputable def q325 := (q262 (hy 171 (q5 (hy 22059 l))))
noncomputable def q326 := (hy 173 (q3 (hy 173 (q3 l))))
noncomputable def q327 := (q263 (hy 22400 (q0 (hy 47245426736 l))))
noncomputable def q328 := (hy 175 (q3 (hy 175 (q3 l))))
noncomputable def q329 := (hy 185 (q28 (hy 388914361 l)))
noncomputable def q330 := (hy 228 (q5 (hy 228 (q3 (hy 228 l)))))
noncomputable def q331 := (q0 (hy 149 (q0 (hy 39728775188 (q0 (hy 72145560379132437 l))))))
noncomputable def q332 := (q197 (hy 20096 (q0 (hy 42413293598 l))))
noncomputable def q333 := (q269 (hy 140 (q18 (q6 (q4 (q107 (hy 141 (q22 (hy 129 (q65 (q0 (q21 (q51 (q1 (q20 l)))))))))))))))
noncomputable def q334 := (q114 (hy 133 (q15 (hy 133 (q20 l)))))
noncomputable def q335 := (q0 (hy 158 (q198 (q0 (hy 158 (q95 (hy 2100864 (q95 l))))))))
noncomputable def q336 := (hy 338186401 (q70 (hy 161 (q117 (hy 161 (q140 (hy 163 l)))))))
noncomputable def q337 := (q304 (q199 (q5 (q75 (hy 166 (q28 (q148 (hy 132 l))))))))
noncomputable def q338 := (hy 5333007646747 l)
noncomputable def q339 := (q0 (hy 269008931 l))
noncomputable def q340 := (q154 (q50 (hy 299894671 (q248 (hy 144 l)))))
noncomputable def q341 := (hy 160 (q5 (hy 160 (q3 (hy 20512 l)))))
noncomputable def q342 := (hy 160 (q3 (hy 160 (q155 (hy 160 (q183 (hy 160 l)))))))
noncomputable def q343 := (q307 (q34 (q118 (q249 (q5 (q75 (hy 165 (q28 (q81 (hy 132 l))))))))))
noncomputable def q344 := (q224 (q67 (q181 (q117 (q200 (q183 (hy 20512 (q154 (q145 (hy 34651424139 (q274 (q3 (hy 37606326284 (q36 (q111 (q141 (hy 131 (q118 (hy 131 (q92 (hy 34439435046 (q86 (q3 (q275 (hy 340300066 (q246 (q308 (q276 (hy 166 (q37 (hy 22963 (q180 (q20 (q5 (q165 (q119 (q166 (q119 (hy 135 (q119 (q167 (q133 (hy 184 (q211 (q133 (hy 17464 (q133 (hy 16440 (q266 (q115 (q119 (q175 (q77 (hy 149 (q46 (hy 137 (q267 (hy 140 (q214 (hy 840043796094911 (q215 (hy 141 (q216 (q158 l))))))))))))))))))))))))))))))))))))))))))))))))))))))))))))))))
noncomputable def q345 := (hy 150 (q110 (hy 346034816 l)))
noncomputable def q346 := (q159 (hy 132 (q6 (q49 (q284 (hy 18319 l))))))
noncomputable def q347 := (hy 145 (q53 (hy 17812 (q227 l))))
noncomputable def q348 := (q161 (hy 149 (q10 (q74 (q3 (hy 16388 (q25 (q68 (hy 133 (q125 (hy 132 l)))))))))))
noncomputable def q349 := (q121 (q9 (q12 (q12 (q6 l)))))
noncomputable def q350 := (hy 148 (q6 (q20 (q32 (q4 (q6 (q58 (hy 149 (q162 l)))))))))
noncomputable def q351 := (q127 (q12 (q12 (q6 (q124 l)))))
noncomputable def q352 := (q234 (q12 (q6 l)))
noncomputable def q353 := (q17 (q17 (q65 (q24 (hy 131 (q1 (q2 (hy 129 l))))))))
noncomputable def q354 := (q236 (q171 (q91 (q21 (q9 (q288 (hy 136 (q3 (hy 136 (q172 (q91 (q21 (q9 (hy 129 (q91 (q21 (q9 l)))))))))))))))))
noncomputable def q355 := (q163 (q3 (hy 2099345 l)))
noncomputable def q356 := (q8 (q1 (q1 (q1 (q16 l)))))
noncomputable def q357 := (q315 (q92 (q0 (q36 (q34 (q92 (q238 (q5 (q5 (q0 (hy 130 (q30 (q4 (q6 (q61 (q50 (q38 (q50 l))))))))))))))))))
noncomputable def q358 := (q102 (hy 295700096 l))
noncomputable def q359 := (q91 (q21 (hy 16896 l)))
noncomputable def q360 := (q0 (hy 2359312 (q3 (hy 38417973264 l))))
noncomputable def q361 := (q173 (q32 (q5 (hy 16899 l))))
noncomputable def q362 := (hy 16770 (q5 (q193 (q4 (q32 (hy 128 (q25 l)))))))
noncomputable def q363 := (q178 (q3 (hy 172 (q5 (hy 172 l)))))
noncomputable def q364 := (q326 (hy 173 (q5 (hy 22317 l))))
noncomputable def q365 := (q328 (hy 175 (q5 (hy 22575 l))))
noncomputable def q366 := (q264 (hy 22784 (q0 (q180 l))))
noncomputable def q367 := (hy 17411 (q4 (hy 136 (q219 (q14 (q41 l))))))
noncomputable def q368 := (hy 136 (q62 (q219 (q14 (q41 (hy 136 (q47 (q24 (q24 (q62 (q8 (q1 (q1 (q3 (q15 (q239 (q21 (q42 (q62 (q0 (hy 38386515983 (q0 (q66 (hy 2099200 (q1 (q20 (hy 144 (q7 (q2 (q2 (q11 (q28 (hy 0x23800d003000b002850a142c58b (q28 (hy 298026766 (q68 (hy 17157 (q18 (q2 (hy 2375697 (q0 (hy 145 (q0 (hy 40802582552 (q0 (q130 (hy 568005667192856 (q131 (hy 129 l)))))))))))))))))))))))))))))))))))))))))))))))))
noncomputable def q369 := (q0 (hy 19586 (q265 (hy 16921 l))))
noncomputable def q370 := (q197 (hy 5436955135616 (q2 (hy 42476208158 (q34 l)))))
noncomputable def q371 := (hy 152 (q3 (hy 152 (q3 (hy 152 l)))))
noncomputable def q372 := (q245 (hy 155 (q37 (q220 (hy 19968 (q95 (q2 (hy 16413 (q139 (q34 (q220 (hy 19968 (q198 l)))))))))))))
noncomputable def q373 := (hy 155 (q3 (hy 155 (q3 (hy 155 (q5 l))))))
noncomputable def q374 := (hy 164 (q3 (hy 164 (q3 l))))
noncomputable def q375 := (q156 (q156 (hy 168 (q5 (hy 21672 l)))))
noncomputable def q376 := (hy 170 (q5 (hy 170 (q3 (hy 358618410 l)))))
noncomputable def q377 := (hy 171 (q5 (hy 171 (q3 (hy 21931 l)))))
noncomputable def q378 := (q138 (hy 145 (q17 (q2 (hy 132 l)))))
noncomputable def q379 := (q0 (q300 (hy 678199549758720 l)))
noncomputable def q380 := (q273 (hy 2670626 (q116 (q2 (hy 44099502116 (q34 (q273 (hy 2670626 (q0 (hy 44024004644 l))))))))))
noncomputable def q381 := (hy 165 (q3 (hy 165 (q3 l))))
noncomputable def q382 := (q306 (hy 352326567 (q0 l)))
noncomputable def q383 := (q141 (q0 (hy 166 (q81 (hy 21120 l)))))
noncomputable def q384 := (hy 174 (q3 (hy 174 (q3 l))))
noncomputable def q385 := (hy 176 (q5 (hy 176 (q3 (hy 2103344 l)))))
noncomputable def q386 := (q278 (hy 46804997933 (q2 (hy 46804992046 (q34 (q278 (hy 173 l)))))))
noncomputable def q387 := (hy 168 (q5 (q156 (hy 21544 l))))
noncomputable def q388 := (q16 (hy 130 (q2 (q18 (q31 l)))))
noncomputable def q389 := (q288 (hy 136 (q3 (hy 16392 l))))
noncomputable def q390 := (hy 142 (q3 (hy 142 (q3 (hy 142 l)))))
noncomputable def q391 := (q356 (q3 (q206 (q13 (q112 (q52 l))))))
noncomputable def q392 := (q6 (q6 (q35 (q17 (q17 l)))))
noncomputable def q393 := (q15 (q87 (q43 (hy 130 (q20 l)))))
noncomputable def q394 := (q253 (q28 (q52 (q52 (q1 (q7 (q191 l)))))))
noncomputable def q395 := (hy 18437 (q5 (hy 144 (q3 (hy 299894800 (q0 (hy 144 (q5 (hy 144 l)))))))))
noncomputable def q396 := (q189 (q0 (hy 2293772 (q3 (hy 37335777292 l)))))
noncomputable def q397 := (q6 (q290 (q18 (q24 (q354 (q4 (hy 132 (q207 (hy 132 (q207 (q33 (hy 2097545 (q25 (q40 (q8 (q3 (hy 132 (q40 (q8 (q3 (hy 132 (q128 (hy 17286 (q10 (q61 (q30 (q12 (q20 (q317 (hy 130 (q291 (hy 17544 (q17 (q61 (hy 142 (q5 (hy 142 (q3 (hy 295700238 (q292 (q10 (q10 (q10 (q319 (q83 (hy 132 (q254 (hy 18048 (q10 (q320 (q4 (q31 (q54 (q3 (hy 133 (q314 (hy 17041 l)))))))))))))))))))))))))))))))))))))))))))))))))))))))))
noncomputable def q398 := (q1 (q38 (q5 (q23 (q11 (q7 (q11 (q1 (q20 l)))))))))
noncomputable def q399 := (q13 (hy 129 (q149 (q8 (q6 (q4 l))))))
noncomputable def q400 := (hy 134 (q6 (hy 129 (q6 (hy 129 l)))))
noncomputable def q401 := (q98 (q290 (q18 (q4 (q10 l)))))
noncomputable def q402 := (hy 135 (q150 (hy 138 (q22 (hy 129 (q22 (q22 (q22 (hy 129 l)))))))))
noncomputable def q403 := (q193 (q90 (q22 (hy 16896 l))))
noncomputable def q404 := (hy 136 (q150 (hy 139 (q174 (hy 77164037693129870 l)))))
noncomputable def q405 := (hy 132 (q109 (q286 (q22 (q24 (hy 128 l))))))
noncomputable def q406 := (hy 137 (q150 (hy 140 (q174 (hy 143 (q209 (hy 78866185577498130 l)))))))
noncomputable def q407 := (hy 133 (q0 (hy 133 (q287 (q14 (hy 2098048 l))))))
noncomputable def q408 := (hy 138 (q150 (hy 141 (q174 (hy 144 (q209 (hy 147 (q256 (hy 0x1023c78f1e3c7811e3cb0f l)))))))))
noncomputable def q409 := (hy 134 (q47 (q255 (hy 135 (q21 (hy 2098176 l))))))
noncomputable def q410 := (q150 (hy 142 (q174 (hy 145 (q209 (hy 148 (q256 (hy 19343 (q321 (q257 (hy 0x2049122448912024891a l)))))))))))
noncomputable def q411 := (q39 (hy 135 (q113 (hy 17544 l))))
noncomputable def q412 := (hy 140 (q150 (hy 143 (q174 (hy 146 (q209 (hy 149 (q256 (hy 19471 (q321 (q257 (hy 155 (q187 (q130 (hy 152 (q45 (hy 153 (q15 (hy 153 (q15 (hy 153 (q20 (hy 0x40952a78a9500540150050a140050013264c993 l)))))))))))))))))))))))
noncomputable def q413 := (hy 134 (q24 (hy 128 (q65 (q2 l)))))
noncomputable def q414 := (q109 (q0 (hy 130 (q8 (q8 (q109 (q17 (q17 (q8 (q8 (q74 (q143 (hy 132 (q20 (q14 (q14 (q41 (q79 (hy 135 (q291 (hy 2213000 (q37 (q92 (q20 (q5 (q165 (q210 (q166 (q210 (hy 135 (q210 (q167 (q77 (hy 149 (q211 (q77 (hy 17429 (q77 (hy 16405 (q212 (hy 664111197571991 (q175 (q213 (q175 (q258 (q46 (hy 137 (q14 (q14 (hy 137 (q258 (hy 0x44003c00f003c78f09 (q28 (q21 (q21 (q322 (q73 (q194 (hy 2621472 (q323 (q63 (q322 (q73 (hy 708094347202721 (q323 (q63 (q259 (hy 138 (q176 (hy 34382808459 (q2 (q11 (hy 140 (q1 (q6 (q4 (q8 (q16 (q213 (q109 (q6 (q6 (hy 132 (q12 (q6 (q138 (hy 141 (q214 (q242 (q215 (hy 142 (q216 (q86 (hy 348132096 (q47 (q260 (hy 143 (q10 (q22 (q24 (q8 (q16 (q293 (hy 168 (q0 (hy 135 (q324 (hy 144 (q18 (q2 (hy 137 (q21 (hy 2098176 l)))))))))))))))))))))))))))))))))))))))))))))))))))))))))))))))))))))))))))))))))))))))))))))))))))))))))))))))))
noncomputable def q415 := (q6 (q7 (q99 (hy 140 (q10 (q17 (q8 (q100 (hy 141 (q18 (q6 (q4 (q107 (hy 142 (q22 (q10 (hy 16896 (q24 (hy 128 (q65 (hy 34374419328 (q14 (hy 143 (q14 (hy 129 (q14 (q39 (q33 (q19 (q1 (q20 (q46 (hy 164 (q28 (q116 (q152 (q0 (hy 44024004644 (q0 (hy 166 (q116 (hy 2101760 (q116 (q294 (q168 (q243 (q132 (hy 169 (q261 (hy 169 (q37 (q218 (q295 (q325 (hy 129 (q218 (q37 (q363 (hy 173 (q37 (q296 (q0 (q146 (q0 (q74 (q364 (q37 (q263 (hy 6060300310400 (q2 (hy 47346090032 (q34 (q327 (q297 (q327 (hy 22404 (q5 (hy 175 (q3 (hy 0x423162c403100c588460017af (q365 (q244 (q264 (hy 6164191172864 (q2 (hy 48157737011 (q34 (q366 (q3 (q298 (q329 (q3 (hy 187 (q0 (hy 49661493305 (q0 (hy 0x8b002c58b72e5cb900e403972e5cbb (q45 (hy 140 (q15 (hy 140 (q15 (hy 140 (q20 (hy 51133783870 (q3 (hy 842173420346942 (q3 (hy 191 (q3 (hy 191 (q5 (hy 3121215 (q37 (hy 870832000836422 (q71 (hy 24577 (q3 (hy 192 (q3 (hy 192 (q5 (hy 2105536 (q165 (hy 901620205577933 (q166 (hy 0x33404d01366cd0f3404d01366cd (q167 (hy 52614472260 (q367 (q137 (q42 (hy 910416835504079 (q368 (hy 147 (q13 (q75 (hy 220 (q28 (hy 462892636 (q3 (hy 222 (q0 (hy 59057307740 (q0 (hy 0x1b972e5c017005cb972e5e (q164 (hy 60603003105 (q3 (hy 225 (q3 (hy 29025 (q3 (hy 226 (q3 (hy 226 (q5 (hy 473461218 (q61 (q38 (hy 227 (q3 (hy 227 (q3 (hy 227 (q5 (hy 29283 (q37 (q330 (hy 0x39b366cd94064 (q2 (hy 61955735654 (q34 (q330 (hy 3752036 (q0 (hy 270106726 l)))))))))))))))))))))))))))))))))))))))))))))))))))))))))))))))))))))))))))))))))))))))))))))))))))))))))))))))))))))))))))))))))))))))))))))))))))))))))))))))))))))))))))))))))
noncomputable def q416 := (q331 (hy 310708756 (q181 (hy 40852917272 (q3 (hy 152 l))))))
noncomputable def q417 := (q370 (q332 (q5 (q75 (hy 157 (q28 l))))))
noncomputable def q418 := (q331 (hy 310708756 (q181 (hy 319163416 (q371 (q299 (hy 2493466 (q154 (q145 (hy 34651424139 (q372 (q3 (hy 37606326284 (q36 (q220 (hy 19968 (q198 (hy 131 (q197 (hy 2150016 (q92 (hy 89079064890969886 (q3 (q300 (hy 678199549758720 (q246 (q301 (hy 158 (q37 (hy 21415 (q199 (q20 (q5 (q165 (q182 (q166 (q182 (hy 135 (q182 (q167 (q218 (q211 (q218 (hy 0x80600180060c1808 (q266 (q115 (hy 782865701574962 (q175 (hy 602641088727701 (q4 (hy 137 (q267 (hy 140 (q214 (hy 804857276390327 (q215 (hy 141 (q216 (hy 4508373929371 (q4 (hy 134 (q260 l))))))))))))))))))))))))))))))))))))))))))))))))))))))))))))))
noncomputable def q419 := (q268 (q84 (q333 (hy 136 (q0 l)))))
noncomputable def q420 := (q268 (q85 (q333 (hy 136 (q0 l)))))
noncomputable def q421 := (q0 (hy 150 (q0 (hy 39997227029 (q0 (hy 0x12a54a9500540152a54a96 (q334 (hy 41123466393 (q3 (hy 5263533149209 (q245 (hy 155 l))))))))))))
noncomputable def q422 := (q302 (hy 20224 (q155 (q2 (q221 (hy 159 (q34 (q302 (hy 20224 (q0 (hy 42681745439 (q5 (q75 (hy 158 (q28 (hy 35496890142 l))))))))))))))))
noncomputable def q423 := (q40 (q45 (hy 131 (q15 (hy 131 (q15 l))))))
noncomputable def q424 := (hy 157 (q3 (hy 157 (q3 l))))
noncomputable def q425 := (hy 159 (q5 (hy 159 (q3 (hy 335548319 l)))))
noncomputable def q426 := (q195 (q303 (hy 128 (q196 (q37 l)))))
noncomputable def q427 := (q103 (q153 (q303 (q169 (q337 l)))))
noncomputable def q428 := (q0 (hy 156 (q0 (hy 41607938075 (q0 (hy 325504412 l))))))
noncomputable def q429 := (q271 (hy 342413731 (q2 (hy 43828953123 l))))
noncomputable def q430 := (q374 (hy 164 (q5 (hy 21156 l))))
noncomputable def q431 := (hy 164 (q339 (hy 163 (q0 (hy 4407515730340 l)))))
noncomputable def q432 := (q380 (q5 (q75 (hy 163 (q28 (hy 35507458467 l))))))
noncomputable def q433 := (hy 20253 (q3 (hy 158 (q3 (hy 158 (q5 (hy 20382 l)))))))
noncomputable def q434 := (q306 (hy 352326567 (q168 (q2 (hy 45452247081 l)))))
noncomputable def q435 := (q384 (hy 174 (q5 (hy 22446 l))))
noncomputable def q436 := (q385 (hy 177 (q0 (hy 47782330418 l))))
noncomputable def q437 := (q0 (hy 47513878577 (q0 (hy 72273111573878962 l))))
noncomputable def q438 := (q20 (hy 48698841781 (q3 (hy 802279599708725 (q3 (hy 182 (q3 (hy 182 (q5 (hy 23478 l))))))))))
noncomputable def q439 := (hy 183 (q3 (hy 183 (q3 (hy 183 (q5 l))))))
noncomputable def q440 := (hy 219 (q5 (hy 219 (q3 (hy 219 l)))))
noncomputable def q441 := (q224 (q67 (q181 (q117 (q342 l)))))
noncomputable def q442 := (q195 (q140 (hy 16419 (q196 (q37 l)))))
noncomputable def q443 := (q103 (q153 (q140 (hy 163 (q169 (q343 l))))))
noncomputable def q444 := (q344 (hy 155 (q5 (hy 129 (q158 (hy 155 (q0 (q3 (hy 134 (q158 (hy 155 (q3 (hy 132 (q26 (q10 l)))))))))))))))
noncomputable def q445 := (q269 (hy 140 (q18 (hy 129 (q31 (q0 (q225 (q39 (hy 192 l)))))))))
noncomputable def q446 := (hy 193 (q28 (hy 405823681 l)))
noncomputable def q447 := (q224 (q67 (q143 (hy 132 (q20 (q117 l))))))
noncomputable def q448 := (hy 166 (q5 (hy 166 (q3 (hy 21286 l)))))
noncomputable def q449 := (q0 (hy 165 (q0 (hy 44024004644 (q0 (hy 165 (q116 (hy 2101760 (q116 (q147 (q222 (q156 (hy 168 (q132 (hy 21672 (q3 (q243 (q5 (hy 2757929 l)))))))))))))))))))
noncomputable def q450 := (q386 (q0 (hy 46708523054 (q5 (q75 (hy 173 (q28 (hy 35528595117 l))))))))
noncomputable def q451 := (hy 178 (q5 (hy 178 (q3 (hy 22834 l)))))
noncomputable def q452 := (q381 (hy 165 (q5 (hy 21285 l))))
noncomputable def q453 := (hy 185 (q5 (hy 185 (q3 (hy 23737 l)))))
noncomputable def q454 := (q0 (hy 166 (q383 (hy 128 (q81 (q147 (q168 (q243 (q222 (hy 169 (q261 (hy 169 l))))))))))))
noncomputable def q455 := (q296 (q0 (q146 (q5 (q75 (hy 174 (q28 (hy 35530708782 l))))))))
noncomputable def q456 := (hy 169 (q5 (hy 169 (q3 l))))
noncomputable def q457 := (q1 (q30 (q65 (q24 (q24 (q55 (hy 132 (q144 (q10 (hy 128 l))))))))))
noncomputable def q458 := (q54 (q5 (hy 132 (q144 (hy 132 (q31 (q177 (q12 (q35 l)))))))))
noncomputable def q459 := (q6 (q31 (q33 (q19 (q46 (q48 (hy 134 (q145 (q22 (hy 128 l))))))))))
noncomputable def q460 := (q281 (q5 (hy 134 (q145 (hy 134 l)))))
noncomputable def q461 := (q18 (q97 (q92 (q55 (hy 136 (q219 (q14 (hy 2195463 (q24 (hy 128 (q22 l)))))))))))
noncomputable def q462 := (q22 (q42 (q50 (q55 (hy 137 (q96 (hy 137 (q19 (hy 17545 l)))))))))
noncomputable def q463 := (hy 39191873810 (q173 (hy 137 (q96 (hy 137 (q73 (hy 4400749888649 (q19 (q33 (q51 (q21 l)))))))))))
noncomputable def q464 := (q21 (q73 (hy 38923421841 (q134 (hy 0x801428500140058a142850b (q136 l))))))
noncomputable def q465 := (hy 37335778441 (q210 (q55 (hy 140 (q53 (hy 148 l))))))
noncomputable def q466 := (q139 (hy 329256576 (q5 (hy 140 (q53 (hy 17940 (q102 (hy 0x23060c003000d183060c l))))))))
noncomputable def q467 := (hy 17803 (q102 (hy 40265681686 (q134 (hy 0x801a0070d1a3468e (q102 (hy 616138853582336 l)))))))
noncomputable def q468 := (hy 38147425804 (q130 (hy 2490392 (q55 (hy 143 (q281 (hy 38417729423 l)))))))
noncomputable def q469 := (q158 (hy 155 (q5 (hy 143 (q281 (hy 143 (q66 (hy 0x400e003c78f003c0101e3c78f l))))))))
noncomputable def q470 := (hy 18190 (q66 (q158 (hy 155 (q55 (hy 145 (q213 (hy 38958794897 l))))))))
noncomputable def q471 := (hy 43218653345 (q173 (hy 145 (q213 (hy 145 (q187 (hy 0x24489100440122244891 l)))))))
noncomputable def q472 := (hy 18448 (q187 (q258 (q55 (hy 0x2448802200880244890024009922448913 l)))))
noncomputable def q473 := (hy 39500171409 (q194 (hy 160 (q134 (hy 0x24c9802600a13264c994 l)))))
noncomputable def q474 := (hy 39770720530 (q242 (q55 (hy 0x802850a002800a942850a15 (q131 l)))))
noncomputable def q475 := (hy 0x1480120048912152a54993 (q55 (q345 (hy 150 l))))
noncomputable def q476 := (q194 (hy 2621472 (q5 (q345 (hy 0x4a9500540150058b1600580172c58b162e5cb96 l)))))
noncomputable def q477 := (hy 0x53804e9d3972e5ca95 (q134 (hy 0x802c00b002e5cb802e00c172e5cb98 l)))
noncomputable def q478 := (hy 40852917014 (q277 (q55 (hy 0x803000c983060c19 (q130 (hy 5194494885911 l))))))
noncomputable def q479 := (hy 0x1560158056ad5993264b97 (q55 (hy 154 (q309 (hy 19738 l)))))
noncomputable def q480 := (q139 (hy 329256576 (q5 (hy 154 (q309 (hy 0x1006801b3468d1a366cd9a l))))))
noncomputable def q481 := (hy 41664564377 (q182 (q55 (hy 156 (q226 l)))))
noncomputable def q482 := (hy 47782336818 (q173 (hy 156 (q226 (hy 156 (q139 (q67 (hy 687064845058077 l))))))))
noncomputable def q483 := (hy 19867 (q139 (hy 47513884849 (q134 (hy 158 (q95 (hy 268910622 (q139 (hy 687057387130368 l)))))))))
noncomputable def q484 := (hy 789010788617756 (q180 (q55 (hy 159 (q310 (hy 42746253215 l))))))
noncomputable def q485 := (q5 (hy 159 (q310 (hy 336072735 (q155 (hy 16416 (q221 (hy 16415 l))))))))
noncomputable def q486 := (hy 0x5b006cd9b204080f1e (q134 (hy 161 (q117 (hy 268959777 l)))))
noncomputable def q487 := (hy 43287859103 (q133 (hy 184 (q55 (hy 162 l)))))
noncomputable def q488 := (q279 (q5 (hy 162 (q311 (hy 0x50a10084021008912200880234489122468d1a2 l)))))
noncomputable def q489 := (hy 43828957345 (q279 (q55 (hy 164 (q282 (hy 2691644 l))))))
noncomputable def q490 := (hy 164 (q282 (hy 21052 (q110 (q116 (hy 0x51a3008c02300912240090025 l))))))
noncomputable def q491 := (hy 20899 (q110 (hy 835645481131838 (q55 (hy 166 (q81 (hy 269041702 (q110 l))))))))
noncomputable def q492 := (hy 21028 (q86 (hy 51540664384 (q134 (hy 167 (q148 (hy 269058087 (q86 l))))))))
noncomputable def q493 := (hy 0x18402100850a1274e9d2a5 (q55 (hy 168 (q132 (hy 0x298026009d3a7009c028 l)))))
noncomputable def q494 := (hy 0x18802200891222850a1326 (q55 (hy 169 (q280 (hy 5817802314949 l)))))
noncomputable def q495 := (hy 844442111057984 (q5 (hy 169 (q280 (hy 45722801349 (q168 (hy 72239333700681770 l)))))))
noncomputable def q496 := (hy 564438785234219 (q250 (hy 16426 (q157 (hy 21673 l)))))
noncomputable def q497 := (hy 0x1920248093264ab56ad4a9 (q55 (hy 172 (q201 (hy 16428 l)))))
noncomputable def q498 := (hy 0x8058b160058016ac58b162d l)
noncomputable def q499 := (hy 139 (q50 (hy 133 (q227 (q27 (hy 139 (q50 (hy 133 (q227 l)))))))))
noncomputable def q500 := (q347 (q27 (q347 (q49 (hy 4917500577664 (q64 (q83 (hy 129 l))))))))
noncomputable def q501 := (hy 134 (q54 (q112 (q32 (q12 (q6 (q58 (q10 (q25 (q17 (hy 135 (q145 (hy 130 (q5 (q0 (q32 (q26 (q25 (q68 (q18 (hy 129 l)))))))))))))))))))))
noncomputable def q502 := (q120 (q202 (q121 (q122 (q27 l)))))
noncomputable def q503 := (q229 (q59 (q229 (q12 (q6 (q124 l))))))
noncomputable def q504 := (q120 (q203 (q121 (q122 (q27 l)))))
noncomputable def q505 := (q120 (q202 (q121 (q9 (q12 (q59 l))))))
noncomputable def q506 := (q231 (q27 (q229 (q12 (q6 (q124 l))))))
noncomputable def q507 := (q120 (q203 (q121 (q9 (q12 (q59 l))))))
noncomputable def q508 := (q127 (q12 (q59 (q235 (q124 l)))))
noncomputable def q509 := (q253 (q28 (q7 (q1 (q78 l)))))
noncomputable def q510 := (q136 (hy 17545 (q63 (q353 (q193 l)))))
noncomputable def q511 := (hy 130 (q21 (q21 (hy 274857986 l))))
noncomputable def q512 := (q98 (q12 (hy 16645 (q14 (hy 274841607 (q17 (q4 (q0 (q33 (hy 16777 l))))))))))
noncomputable def q513 := (q159 (q159 (q159 (hy 132 (q6 (q49 (hy 136 (q62 (q102 (hy 129 l))))))))))
end
noncomputable abbrev n_cat : List Nat := [99,97,116]
noncomputable abbrev n_node : List Nat := [110,111,100,101]
noncomputable abbrev n_subject : List Nat := [115,117,98,106,101,99,116]
noncomputable abbrev n_begin : List Nat := [98,101,103,105,110]
noncomputable abbrev n_host : List Nat := [104,111,115,116]
noncomputable abbrev n_pile : List Nat := [112,105,108,101]
noncomputable abbrev n_way : List Nat := [119,97,121]
noncomputable abbrev n_chain : List Nat := [99,104,97,105,110]
noncomputable abbrev n_named : List Nat := [110,97,109,101,100]
noncomputable abbrev n_values : List Nat := [118,97,108,117,101,115]
noncomputable abbrev n_limit : List Nat := [108,105,109,105,116]
noncomputable abbrev n_refused : List Nat := [114,101,102,117,115,101,100]
noncomputable abbrev n_width : List Nat := [119,105,100,116,104]
noncomputable abbrev n_steps : List Nat := [115,116,101,112,115]
noncomputable abbrev n_log : List Nat := [108,111,103]
noncomputable abbrev n_alt : List Nat := [97,108,116]
noncomputable abbrev n_delay : List Nat := [100,101,108,97,121]
noncomputable abbrev n_name : List Nat := [110,97,109,101]
noncomputable abbrev n_cursor : List Nat := [99,117,114,115,111,114]
noncomputable abbrev n_kind : List Nat := [107,105,110,100]
noncomputable abbrev n_var : List Nat := [118,97,114]
noncomputable abbrev n_owner : List Nat := [111,119,110,101,114]
noncomputable abbrev n_key : List Nat := [107,101,121]
noncomputable abbrev n_fail : List Nat := [102,97,105,108]
noncomputable abbrev n_any : List Nat := [97,110,121]
noncomputable abbrev n_chars : List Nat := [99,104,97,114,115]
noncomputable abbrev n_lost : List Nat := [108,111,115,116]
noncomputable abbrev n_split : List Nat := [115,112,108,105,116]
noncomputable abbrev n_self : List Nat := [115,101,108,102]
noncomputable abbrev n_orders : List Nat := [111,114,100,101,114,115]
noncomputable abbrev n_order : List Nat := [111,114,100,101,114]
noncomputable abbrev n_marks : List Nat := [109,97,114,107,115]
noncomputable abbrev n_calls : List Nat := [99,97,108,108,115]
noncomputable abbrev n_history : List Nat := [104,105,115,116,111,114,121]
noncomputable abbrev n_jump : List Nat := [106,117,109,112]
noncomputable abbrev n_mark : List Nat := [109,97,114,107]
noncomputable abbrev n_one : List Nat := [111,110,101]
noncomputable abbrev n_gain : List Nat := [103,97,105,110]
noncomputable abbrev n_place : List Nat := [112,108,97,99,101]
noncomputable abbrev n_done : List Nat := [100,111,110,101]
noncomputable abbrev n_word : List Nat := [119,111,114,100]
noncomputable abbrev n_by_trial : List Nat := [98,121,95,116,114,105,97,108]
noncomputable abbrev n_is_anchored : List Nat := [105,115,95,97,110,99,104,111,114,101,100]
noncomputable abbrev n_found : List Nat := [102,111,117,110,100]
noncomputable abbrev n_how : List Nat := [104,111,119]
noncomputable abbrev n_put : List Nat := [112,117,116]
noncomputable abbrev n_waiting : List Nat := [119,97,105,116,105,110,103]
noncomputable abbrev n_arbno : List Nat := [97,114,98,110,111]
noncomputable abbrev n_meet : List Nat := [109,101,101,116]
noncomputable abbrev n_shut : List Nat := [115,104,117,116]
noncomputable abbrev n_emit : List Nat := [101,109,105,116]
noncomputable abbrev n_open : List Nat := [111,112,101,110]
noncomputable abbrev n_told : List Nat := [116,111,108,100]
noncomputable abbrev n_code : List Nat := [99,111,100,101]
noncomputable abbrev n_script : List Nat := [115,99,114,105,112,116]
noncomputable abbrev n_usual : List Nat := [117,115,117,97,108]
noncomputable abbrev n_ends : List Nat := [101,110,100,115]
noncomputable abbrev n_lots : List Nat := [108,111,116,115]
noncomputable abbrev n_signs : List Nat := [115,105,103,110,115]
noncomputable abbrev n_to_second : List Nat := [116,111,95,115,101,99,111,110,100]
noncomputable abbrev n_to_first : List Nat := [116,111,95,102,105,114,115,116]
noncomputable abbrev n_state : List Nat := [115,116,97,116,101]
noncomputable abbrev n_due : List Nat := [100,117,101]
noncomputable abbrev n_over : List Nat := [111,118,101,114]
noncomputable abbrev n_asked : List Nat := [97,115,107,101,100]
noncomputable abbrev eh (h : Nat → Int) (k : Nat → Nat) (i : Nat) (l : List Nat) (v : Value) : DictEntry := ⟨h i, sv l (k i), v⟩
noncomputable abbrev ek (p : Params) (l : List Nat) (t : Nat) (v : Value) : DictEntry := ⟨kh p l, sv l t, v⟩
noncomputable abbrev fo (l : List DictEntry) (n : Nat) : Obj := { cls := .type "frame", data := .dict ⟨l⟩ n }
noncomputable abbrev di (l : List DictEntry) (n : Nat) : Obj := { cls := .type "dict", data := .dict ⟨l⟩ n }
noncomputable abbrev ri (l : List Value) : Obj := { cls := .type "range_iterator", data := .fields ⟨l⟩ }
noncomputable abbrev et (a : Addr) (o : Obj) : En := ⟨a, o, true⟩
noncomputable abbrev ef (a : Addr) (o : Obj) : En := ⟨a, o, false⟩
noncomputable def rn (p : Params) (b1 b2 : Bool) (c : Code) (tr : Sem Fin) (n t : Nat) (L : List En) (hs : List Nat) (ws : List (Nat × Wt)) : Out := run (pv0 p b1 b2) 100000 0 none c tr .ret ⟨n, t, L, hs, ws, [], []⟩
noncomputable abbrev fq0 (h : Nat → Int) (k : Nat → Nat) (v0 v1 v2 v3 v4 v5 v6 v7 v8 : Value) (n : Nat) : Obj := fo [eh h k 0 n_node v0, eh h k 1 n_subject v1, eh h k 2 n_begin v2, eh h k 3 n_host v3, eh h k 4 n_pile v4, eh h k 5 n_way v5, eh h k 6 n_chain v6, eh h k 7 [97, 116] v7, eh h k 8 n_named v8] n
noncomputable abbrev fq1 (h : Nat → Int) (k : Nat → Nat) (v0 v1 v2 v3 v4 v5 : Value) (n : Nat) : Obj := di [eh h k 0 n_values v0, eh h k 1 n_limit v1, eh h k 2 n_refused v2, eh h k 3 n_width v3, eh h k 4 n_steps v4, eh h k 5 n_log v5] n
noncomputable abbrev fq2 (p : Params) (t0 : Nat) (v0 : Value) (t1 : Nat) (v1 : Value) (n : Nat) : Obj := di [ek p [80] t0 v0, ek p [81] t1 v1] n
noncomputable abbrev fq3 (p : Params) (t0 : Nat) (v0 : Value) (t1 : Nat) (v1 : Value) (t2 : Nat) (v2 : Value) (n : Nat) : Obj := di [ek p [80] t0 v0, ek p [81] t1 v1, ek p [74] t2 v2] n
noncomputable abbrev fq4 (h : Nat → Int) (k : Nat → Nat) (v0 v1 v2 v3 v4 : Value) (n : Nat) : Obj := fo [eh h k 0 n_self v0, eh h k 1 n_orders v1, eh h k 2 n_begin v2, eh h k 3 n_way v3, eh h k 4 n_order v4] n
noncomputable abbrev fq5 (p : Params) (t0 : Nat) (v0 : Value) (t1 : Nat) (v1 : Value) (t2 : Nat) (v2 : Value) (t3 : Nat) (v3 : Value) (t4 : Nat) (v4 : Value) (t5 : Nat) (v5 : Value) (n : Nat) : Obj := di [ek p n_orders t0 v0, ek p [112, 99] t1 v1, ek p [97, 116] t2 v2, ek p n_named t3 v3, ek p n_marks t4 v4, ek p n_calls t5 v5] n
noncomputable abbrev fq6 (h : Nat → Int) (k : Nat → Nat) (v0 v1 v2 : Value) (n : Nat) : Obj := di [eh h k 0 n_subject v0, eh h k 1 n_host v1, eh h k 2 n_history v2] n
noncomputable abbrev fq7 (h : Nat → Int) (k : Nat → Nat) (v0 v1 v2 v3 v4 v5 : Value) (n : Nat) : Obj := di [eh h k 0 n_orders v0, eh h k 1 [112, 99] v1, eh h k 2 [97, 116] v2, eh h k 3 n_named v3, eh h k 4 n_marks v4, eh h k 5 n_calls v5] n
noncomputable abbrev fq8 (p : Params) (t0 : Nat) (v0 : Value) (n : Nat) : Obj := di [ek p [74] t0 v0] n
noncomputable abbrev fq9 (h : Nat → Int) (k : Nat → Nat) (v0 v1 v2 v3 v4 : Value) (n : Nat) : Obj := fo [eh h k 0 n_node v0, eh h k 1 n_word v1, eh h k 2 n_values v2, eh h k 3 n_by_trial v3, eh h k 4 n_host v4] n
noncomputable abbrev fq10 (h : Nat → Int) (k : Nat → Nat) (v0 v1 v2 v3 v4 v5 : Value) (n : Nat) : Obj := fo [eh h k 0 n_node v0, eh h k 1 n_word v1, eh h k 2 n_values v2, eh h k 3 n_by_trial v3, eh h k 4 n_host v4, eh h k 5 n_found v5] n
noncomputable abbrev fq11 (p : Params) (t0 : Nat) (v0 : Value) (t1 : Nat) (v1 : Value) (t2 : Nat) (v2 : Value) (t3 : Nat) (v3 : Value) (n : Nat) : Obj := fo [ek p n_node t0 v0, ek p n_subject t1 v1, ek p n_is_anchored t2 v2, ek p n_host t3 v3] n
noncomputable abbrev fq12 (p : Params) (t0 : Nat) (v0 : Value) (t1 : Nat) (v1 : Value) (t2 : Nat) (v2 : Value) (n : Nat) : Obj := fo [ek p n_self t0 v0, ek p n_node t1 v1, ek p n_waiting t2 v2] n
noncomputable abbrev fq13 (p : Params) (t0 : Nat) (v0 : Value) (n : Nat) : Obj := di [ek p n_orders t0 v0] n
noncomputable abbrev fq14 (p : Params) (t0 : Nat) (v0 : Value) (t1 : Nat) (v1 : Value) (t2 : Nat) (v2 : Value) (t3 : Nat) (v3 : Value) (t4 : Nat) (v4 : Value) (n : Nat) : Obj := fo [ek p n_self t0 v0, ek p n_node t1 v1, ek p n_waiting t2 v2, ek p n_word t3 v3, ek p n_told t4 v4] n
noncomputable abbrev fq15 (h : Nat → Int) (k : Nat → Nat) (v0 v1 : Value) (n : Nat) : Obj := fo [eh h k 0 n_node v0, eh h k 1 n_code v1] n
noncomputable abbrev fq16 (h : Nat → Int) (k : Nat → Nat) (v0 : Value) (n : Nat) : Obj := di [eh h k 0 n_orders v0] n
noncomputable abbrev fq17 (h : Nat → Int) (k : Nat → Nat) (v0 : Value) (n : Nat) : Obj := fo [eh h k 0 n_script v0] n
noncomputable abbrev fq18 (h : Nat → Int) (k : Nat → Nat) (p : Params) (v0 : Value) (t1 : Nat) (v1 : Value) (n : Nat) : Obj := fo [eh h k 0 n_script v0, ek p n_usual t1 v1] n
noncomputable abbrev fq19 (h : Nat → Int) (k : Nat → Nat) (v0 v1 : Value) (n : Nat) : Obj := fo [eh h k 0 n_script v0, eh h k 1 n_usual v1] n
noncomputable abbrev fq20 (h : Nat → Int) (k : Nat → Nat) (p : Params) (v0 v1 : Value) (t2 : Nat) (v2 : Value) (n : Nat) : Obj := fo [eh h k 0 n_script v0, eh h k 1 n_usual v1, ek p n_ends t2 v2] n
noncomputable abbrev fq21 (h : Nat → Int) (k : Nat → Nat) (v0 v1 v2 : Value) (n : Nat) : Obj := fo [eh h k 0 n_script v0, eh h k 1 n_usual v1, eh h k 2 n_ends v2] n
noncomputable abbrev fq22 (h : Nat → Int) (k : Nat → Nat) (p : Params) (v0 v1 v2 : Value) (t3 : Nat) (v3 : Value) (n : Nat) : Obj := fo [eh h k 0 n_script v0, eh h k 1 n_usual v1, eh h k 2 n_ends v2, ek p n_word t3 v3] n
noncomputable abbrev fq23 (h : Nat → Int) (k : Nat → Nat) (v0 v1 v2 v3 v4 : Value) (n : Nat) : Obj := fo [eh h k 0 n_script v0, eh h k 1 n_usual v1, eh h k 2 n_ends v2, eh h k 3 n_word v3, eh h k 4 n_lots v4] n
noncomputable abbrev fq24 (h : Nat → Int) (k : Nat → Nat) (p : Params) (v0 v1 v2 v3 v4 : Value) (t5 : Nat) (v5 : Value) (n : Nat) : Obj := fo [eh h k 0 n_script v0, eh h k 1 n_usual v1, eh h k 2 n_ends v2, eh h k 3 n_word v3, eh h k 4 n_lots v4, ek p n_signs t5 v5] n
noncomputable abbrev fq25 (h : Nat → Int) (k : Nat → Nat) (v0 v1 v2 v3 v4 v5 : Value) (n : Nat) : Obj := fo [eh h k 0 n_script v0, eh h k 1 n_usual v1, eh h k 2 n_ends v2, eh h k 3 n_word v3, eh h k 4 n_lots v4, eh h k 5 n_signs v5] n
noncomputable abbrev fq26 (h : Nat → Int) (k : Nat → Nat) (v0 v1 v2 v3 v4 v5 v6 v7 v8 v9 v10 v11 v12 : Value) (n : Nat) : Obj := fo [eh h k 0 n_script v0, eh h k 1 n_usual v1, eh h k 2 n_ends v2, eh h k 3 n_word v3, eh h k 4 n_lots v4, eh h k 5 n_signs v5, eh h k 6 n_values v6, eh h k 7 n_to_second v7, eh h k 8 n_to_first v8, eh h k 9 n_node v9, eh h k 10 n_state v10, eh h k 11 n_due v11, eh h k 12 n_over v12] n
noncomputable abbrev fq27 (h : Nat → Int) (k : Nat → Nat) (p : Params) (v0 v1 v2 v3 v4 v5 v6 v7 v8 v9 v10 v11 v12 : Value) (t13 : Nat) (v13 : Value) (n : Nat) : Obj := fo [eh h k 0 n_script v0, eh h k 1 n_usual v1, eh h k 2 n_ends v2, eh h k 3 n_word v3, eh h k 4 n_lots v4, eh h k 5 n_signs v5, eh h k 6 n_values v6, eh h k 7 n_to_second v7, eh h k 8 n_to_first v8, eh h k 9 n_node v9, eh h k 10 n_state v10, eh h k 11 n_due v11, eh h k 12 n_over v12, ek p [97, 116] t13 v13] n
noncomputable abbrev fq28 (h : Nat → Int) (k : Nat → Nat) (v0 v1 v2 v3 v4 v5 v6 v7 v8 v9 v10 v11 v12 v13 : Value) (n : Nat) : Obj := fo [eh h k 0 n_script v0, eh h k 1 n_usual v1, eh h k 2 n_ends v2, eh h k 3 n_word v3, eh h k 4 n_lots v4, eh h k 5 n_signs v5, eh h k 6 n_values v6, eh h k 7 n_to_second v7, eh h k 8 n_to_first v8, eh h k 9 n_node v9, eh h k 10 n_state v10, eh h k 11 n_due v11, eh h k 12 n_over v12, eh h k 13 [97,116] v13] n
noncomputable abbrev fq29 (h : Nat → Int) (k : Nat → Nat) (v0 v1 v2 v3 v4 v5 v6 v7 v8 v9 v10 v11 v12 v13 : Value) (n : Nat) : Obj := fo [eh h k 0 n_script v0, eh h k 1 n_usual v1, eh h k 2 n_ends v2, eh h k 3 n_word v3, eh h k 4 n_lots v4, eh h k 5 n_signs v5, eh h k 6 n_values v6, eh h k 7 n_to_second v7, eh h k 8 n_to_first v8, eh h k 9 n_node v9, eh h k 10 n_state v10, eh h k 11 n_due v11, eh h k 12 n_over v12, eh h k 13 [97, 116] v13] n
noncomputable abbrev fq30 (h : Nat → Int) (k : Nat → Nat) (v0 v1 v2 v3 v4 v5 v6 v7 v8 v9 v10 v11 v12 v13 v14 : Value) (n : Nat) : Obj := fo [eh h k 0 n_script v0, eh h k 1 n_usual v1, eh h k 2 n_ends v2, eh h k 3 n_word v3, eh h k 4 n_lots v4, eh h k 5 n_signs v5, eh h k 6 n_values v6, eh h k 7 n_to_second v7, eh h k 8 n_to_first v8, eh h k 9 n_node v9, eh h k 10 n_state v10, eh h k 11 n_due v11, eh h k 12 n_over v12, eh h k 13 [97,116] v13, eh h k 14 n_asked v14] n
noncomputable abbrev fq31 (h : Nat → Int) (k : Nat → Nat) (v0 v1 v2 v3 v4 v5 v6 v7 v8 v9 v10 v11 v12 v13 v14 : Value) (n : Nat) : Obj := fo [eh h k 0 n_script v0, eh h k 1 n_usual v1, eh h k 2 n_ends v2, eh h k 3 n_word v3, eh h k 4 n_lots v4, eh h k 5 n_signs v5, eh h k 6 n_values v6, eh h k 7 n_to_second v7, eh h k 8 n_to_first v8, eh h k 9 n_node v9, eh h k 10 n_state v10, eh h k 11 n_due v11, eh h k 12 n_over v12, eh h k 13 [97, 116] v13, eh h k 14 n_asked v14] n
end
section
open PySem PySem.W PySem.W.X PySem.Calls PySem.Spec PyProof.Rows
theorem code_gives {prog : Program} {w : World} {A : Around} {R : Result → Shared → Prop} {s : Shared} {id : String} {args : Args} {b : Builtin} {m : Made} (hp : plainId id = true) (hb : entryFor table id = some b) (g : Gives (b args) m)
    (h : m.post (fun v s' => R (.ok (.ret v)) s') s) : codeAny (model prog w) A (.builtin id args) R s :=
  codeAny_builtin hb (by rw [Around.under_plainId hp]; exact g prog w A R s h)
theorem code_meets {prog : Program} {w : World} {A : Around} {R : Result → Shared → Prop} {s : Shared} {id : String} {args : Args} {b : Builtin} {S : PySem.Spec} (hp : plainId id = true) (hb : entryFor table id = some b) (g : Meets (b args) S)
    (h : S A R s) : codeAny (model prog w) A (.builtin id args) R s :=
  codeAny_builtin hb (by rw [Around.under_plainId hp]; exact g prog w A R s h)
section
variable {prog : Program} {w : World}
theorem oc_gives {N : Nat} {id : String} {l : List Value} {b : Builtin} {v : Value} (hN : PySem.code id = N) (hp : plainId id = true) (hb : entryFor table id = some b) (g : Gives (b ⟨l, []⟩) (.val v)) : OcOk1 prog w (.gv N l (fun _ => v) 0) := by
  intro id' h A R s k
  have : id' = id := PySem.code_inj _ _ (h.trans hN.symm)
  subst this
  exact code_gives hp hb g k
theorem oc_gt {a b : Int} {t u : Tok} {x : Bool} (h : decide (a > b) = x) : OcOk1 prog w (.gv 455126529904428302298986 [.int a t, .int b u] (fun _ => .bool x) 0) := by
  subst h
  exact oc_gives (id := "int.__gt__") (by decide +kernel) (by decide +kernel) (entryFor_of_fast (by kernel_rfl)) (AutoIntG4.int___gt___int_int_0 a t b u)
theorem oc_lt {a b : Int} {t u : Tok} {x : Bool} (h : decide (a < b) = x) : OcOk1 prog w (.gv 455126531311803185852266 [.int a t, .int b u] (fun _ => .bool x) 0) := by
  subst h
  exact oc_gives (id := "int.__lt__") (by decide +kernel) (by decide +kernel) (entryFor_of_fast (by kernel_rfl)) (AutoIntG1.int___lt___int_int_0 a t b u)
theorem oc_in {a b : Str} {t u : Tok} {x : Bool} (h : (!(Builtin.Str.occurrences a b 0 a.length 1).isEmpty) = x) : OcOk1 prog w (.gv 128106709680535770272165659069392319860 [.str a t, .str b u] (fun _ => .bool x) 0) := by
  subst h
  exact oc_gives (id := "str.__contains__") (by decide +kernel) (by decide +kernel) (entryFor_of_fast (by kernel_rfl)) (gives_str_contains a b t u)
theorem oc_item {x : Str} {i : Int} {t u : Tok} {c : Nat} (hr : (decide (i < -(2 ^ 63 : Int)) || decide (i ≥ 2 ^ 63)) = false) (h : (seqIndex? i x.length).bind (x.cps[·]?) = some c) :
    OcOk1 prog w (.gv 500416356548588640944365259017385332 [.str x t, .int i u] (fun t => .str ⟨#[c]⟩ t) 1) := by
  intro id' h' A R s k
  have : id' = "str.__getitem__" := PySem.code_inj _ _ (h'.trans (by decide +kernel))
  subst this
  exact code_gives (by decide +kernel) (entryFor_of_fast (by kernel_rfl)) (gives_str_getitem x i t u c hr h) ⟨by show 1 ≤ 2 ^ 24; decide, k⟩
theorem oc_len_str {x : Str} {t : Tok} (h : x.length ≤ 10000) : OcOk1 prog w (.gv 7300717 [.str x t] (fun t => .int x.length (t + 1)) 2) := by
  intro id' h' A R s k
  have : id' = "len" := PySem.code_inj _ _ (h'.trans (by decide +kernel))
  subst this
  refine codeAny_builtin entry_len ?_
  unfold Builtin.«len»
  refine wpAny_bind (m := oneArg "len" _) (wpAny_pure ?_)
  refine wpAny_bind (m := callSpecial? (.str x t) (Str.ofString "__len__")) (wpAny_callSpecial?_slot (name := Str.ofString "__len__") (typeIs_str s x t) F.slot_str_len (call_gives F.slot_str_len (typeIs_str s x t) F.entry_str_len (F.args_str_len_1 _) (gives_str_len x t) ?_))
  show wpAny _ _ _ _ _ { s with toks := s.toks + 1 }
  refine wpAny_bind (wpAny_holding (wpAny_pure ?_))
  refine wpAny_bind (wpAny_letGo ?_)
  show wpAny _ _ (if (x.length : Int) < 0 then _ else _) _ _ _
  rw [if_neg (by omega)]
  show wpAny _ _ (if (x.length : Int) ≥ 2 ^ 63 then _ else _) _ _ _
  rw [if_neg (by omega)]
  exact wpAny_bind (wpAny_mkInt (wpAny_pure k))
theorem oc_len_list {a : Addr} {l : List Value} {n : Nat} {x : Int} (hx : x = l.length) (h : l.length ≤ 10000) : OcOk1 prog w (.rd 7300717 [.ref a] a (lst l n) (fun t => .int x (t + 1)) 2) := by
  subst hx
  intro id' h' A R s ho k
  have : id' = "len" := PySem.code_inj _ _ (h'.trans (by decide +kernel))
  subst this
  refine codeAny_builtin entry_len ?_
  refine wpAny_mono (wpAny_len_body_list (items := ⟨l⟩) (Q := fun r s' => R (.ok (.ret r)) s') ⟨_, ho, rfl, n, rfl⟩ (by show ((l.length : Nat) : Int) < 2 ^ 63; omega) k) (fun fin s' h => ?_) (fun _ _ h => h)
  obtain ⟨r, rfl, h⟩ := h
  exact h
theorem oc_append {a : Addr} {v : Value} {xs : List Value} {n : Nat} (hz : xs.length ≤ 10000) : OcOk1 prog w (.up 122627580202994350266018413 [.ref a, v] a (lst xs n) (lst (xs ++ [v]) (n + 1)) .none 0) := by
  intro id' h' A R s ho k
  have : id' = "list.append" := PySem.code_inj _ _ (h'.trans (by decide +kernel))
  subst this
  refine code_meets (by decide +kernel) (entryFor_of_fast (by kernel_rfl)) (AutoListH.list_append_list_val_0 a ⟨xs⟩ n v (by show xs.length ≤ 2 ^ 24; omega)) ⟨ho, ?_⟩
  exact k _ (by simp [Obj.mapSeq])
theorem oc_pop {a : Addr} {v : Value} {xs : List Value} {n : Nat} (hz : xs.length ≤ 10000) : OcOk1 prog w (.up 8174157772325415533 [.ref a] a (lst (xs ++ [v]) n) (lst xs (n + 1)) v 0) := by
  intro id' h' A R s ho k
  have : id' = "list.pop" := PySem.code_inj _ _ (h'.trans (by decide +kernel))
  subst this
  have hsz : (⟨xs ++ [v]⟩ : Array Value).size = xs.length + 1 := by simp
  refine code_meets (by decide +kernel) (entryFor_of_fast (by kernel_rfl)) (MeetsSeq.list_pop_last a ⟨xs ++ [v]⟩ n v (by simp) (by rw [hsz]; show xs.length + 1 ≤ 2 ^ 24; omega)) ⟨ho, ?_⟩
  refine k _ ?_
  have e1 : (⟨xs ++ [v]⟩ : Array Value).eraseIdxIfInBounds ((⟨xs ++ [v]⟩ : Array Value).size - 1) = ⟨xs⟩ := by
    simp [Array.eraseIdxIfInBounds, List.eraseIdx_append_of_length_le]
  unfold Obj.mapSeq
  dsimp only
  rw [e1]
  simp
noncomputable abbrev dct (l : List DictEntry) (n : Nat) : Obj := { cls := .type "dict", data := .dict ⟨l⟩ n }
theorem oc_dget {a : Addr} {x : Str} {t : Tok} {d v : Value} {es : List DictEntry} {ep i : Nat} {e : DictEntry} (hall : ((⟨es⟩ : Array DictEntry).all fun e => isExactStrKey e.key) = true)
    (hi : ((⟨es⟩ : Array DictEntry).findIdx? fun e => e.key.isStr x) = some i) (he : (⟨es⟩ : Array DictEntry)[i]? = some e) (hv : e.val = v) :
    OcOk1 prog w (.rd 8459563503104322149 [.ref a, .str x t, d] a (dct es ep) (fun _ => v) 1) := by
  intro id' h' A R s ho k
  have : id' = "dict.get" := PySem.code_inj _ _ (h'.trans (by decide +kernel))
  subst this
  refine codeAny_builtin PySem.F.entry_dict_get ?_
  show wpAny _ _ (dictGet a (.str x t) >>= _) _ _ s
  refine wpAny_bind ?_
  unfold dictGet
  try with_reducible refine wpAny_holding ?_
  refine wpAny_bind (wpAny_pyHash_str (wpAny_bind (PyProof.Rows.KTD.kt_dictFind_strs (s := { s with toks := s.toks + 1 }) ho rfl hall ?_)))
  rw [hi]
  refine wpAny_bind (wpAny_dictEntries (s := { s with toks := s.toks + 1 }) ho rfl (wpAny_pure ?_))
  rw [he]
  show wpAny _ _ (pure _) _ _ _
  rw [← hv] at k
  exact wpAny_pure k
theorem oc_dset {a : Addr} {x : Str} {t : Tok} {v : Value} {es : List DictEntry} {ep i : Nat} {es' : List DictEntry} (hall : ((⟨es⟩ : Array DictEntry).all fun e => isExactStrKey e.key) = true)
    (hi : ((⟨es⟩ : Array DictEntry).findIdx? fun e => e.key.isStr x) = some i) (he : (⟨es⟩ : Array DictEntry).modify i (fun e => { e with val := v }) = ⟨es'⟩) (hz : es.length = es'.length) :
    OcOk1 prog w (.up 128106587276438692082622197436938218085 [.ref a, .str x t, v] a (dct es ep) (dct es' ep) .none 1) := by
  intro id' h' A R s ho k
  have : id' = "dict.__setitem__" := PySem.code_inj _ _ (h'.trans (by decide +kernel))
  subst this
  refine codeAny_builtin PySem.F.entry_dict_setitem ?_
  show wpAny _ _ (Builtin.Dict.notOrdered "__setitem__" ⟨[.ref a, .str x t, v], []⟩ >>= _) _ _ s
  refine wpAny_bind (wpAny_notOrdered_dict ⟨_, ho, rfl⟩ ?_)
  show wpAny _ _ (dictSet a (.str x t) v >>= _) _ _ s
  refine wpAny_bind ?_
  unfold dictSet
  try with_reducible refine wpAny_holding ?_
  refine wpAny_bind (wpAny_pyHash_str ?_)
  unfold dictSetHashed
  try with_reducible refine wpAny_holding ?_
  refine wpAny_bind (PyProof.Rows.KTD.kt_dictFind_strs (s := { s with toks := s.toks + 1 }) ho rfl hall ?_)
  rw [hi]
  refine wpAny_bind (wpAny_rule (wpAny_bind (wpAny_updateDict (s := { s with toks := s.toks + 1 }) ho rfl (wpAny_point ?_) (by rw [he]; show es'.length ≤ es.length; omega))))
  exact wpAny_pure (k (Obj.mapDict _) (by simp only [Obj.mapDict, he]))
theorem oc_dnew {a : Addr} {x : Str} {t : Tok} {v : Value} {es : List DictEntry} {ep : Nat} {h : Int} (hall : ((⟨es⟩ : Array DictEntry).all fun e => isExactStrKey e.key) = true)
    (hi : ((⟨es⟩ : Array DictEntry).findIdx? fun e => e.key.isStr x) = none) (hh : hashStr w x = h) (hz : es.length ≤ 1000) :
    OcOk1 prog w (.up 128106587276438692082622197436938218085 [.ref a, .str x t, v] a (dct es ep) (dct (es ++ [⟨h, .str x t, v⟩]) (ep + 1)) .none 1) := by
  subst hh
  intro id' h' A R s ho k
  have : id' = "dict.__setitem__" := PySem.code_inj _ _ (h'.trans (by decide +kernel))
  subst this
  refine codeAny_builtin PySem.F.entry_dict_setitem ?_
  show wpAny _ _ (Builtin.Dict.notOrdered "__setitem__" ⟨[.ref a, .str x t, v], []⟩ >>= _) _ _ s
  refine wpAny_bind (wpAny_notOrdered_dict ⟨_, ho, rfl⟩ ?_)
  show wpAny _ _ (dictSet a (.str x t) v >>= _) _ _ s
  refine wpAny_bind ?_
  unfold dictSet
  try with_reducible refine wpAny_holding ?_
  refine wpAny_bind (wpAny_pyHash_str ?_)
  unfold dictSetHashed
  try with_reducible refine wpAny_holding ?_
  refine wpAny_bind (PyProof.Rows.KTD.kt_dictFind_strs (s := { s with toks := s.toks + 1 }) ho rfl hall ?_)
  rw [hi]
  refine wpAny_bind (wpAny_rule ?_)
  refine wpAny_updateDictKeys (s := { s with toks := s.toks + 1 }) ho rfl ?_ (by show es.length ≤ 2 ^ 24; omega) (by simp)
  exact wpAny_pure (k (Obj.mapDictKeys _) (by simp [Obj.mapDictKeys]))
theorem oc_slice {x : Str} {t t1 t2 : Tok} {a : Addr} {i j : Int} {y : Str} (h : (slicePicked x (some (i, t1)) (some (j, t2)) none).length ≠ x.length)
    (hy : (⟨((slicePicked x (some (i, t1)) (some (j, t2)) none).filterMap (x.cps[·]?)).toArray⟩ : Str) = y) (hz : y.length ≤ 10000) :
    OcOk1 prog w (.rd 500416356548588640944365259017385332 [.str x t, .ref a] a { cls := .type "slice", data := .fields ⟨[.int i t1, .int j t2, .none]⟩ } (fun t => .str y t) 1) := by
  intro id' h' A R s ho k
  have : id' = "str.__getitem__" := PySem.code_inj _ _ (h'.trans (by decide +kernel))
  subst this
  refine code_meets (by decide +kernel) (entryFor_of_fast (by kernel_rfl)) (meets_str_getitem_slice x t a (some (i, t1)) (some (j, t2)) none rfl) ⟨⟨_, ho, rfl, rfl⟩, ?_⟩
  unfold sliceMade
  rw [if_neg (by simp [h]), hy]
  exact ⟨by show y.length ≤ 2 ^ 24; omega, k⟩
theorem oc_slice_all {x : Str} {t t1 t2 : Tok} {a : Addr} {i j : Int} (h : (slicePicked x (some (i, t1)) (some (j, t2)) none).length = x.length) :
    OcOk1 prog w (.rd 500416356548588640944365259017385332 [.str x t, .ref a] a { cls := .type "slice", data := .fields ⟨[.int i t1, .int j t2, .none]⟩ } (fun _ => .str x t) 0) := by
  intro id' h' A R s ho k
  have : id' = "str.__getitem__" := PySem.code_inj _ _ (h'.trans (by decide +kernel))
  subst this
  refine code_meets (by decide +kernel) (entryFor_of_fast (by kernel_rfl)) (meets_str_getitem_slice x t a (some (i, t1)) (some (j, t2)) none rfl) ⟨⟨_, ho, rfl, rfl⟩, ?_⟩
  unfold sliceMade
  rw [if_pos (by simp [h])]
  exact k
end
end
section
open PySem PySem.W PySem.W.X PySem.Calls PySem.Spec PyProof.Rows
section
variable {prog : Program} {w : World}
theorem oc_lget0 {a : Addr} {l : List Value} {n : Nat} {k : Int} {t : Tok} {v : Value} (h0 : 0 ≤ k) (hfit : k < 2 ^ 63) (hx : (⟨l⟩ : Array Value)[k.toNat]? = some v) : OcOk1 prog w (.rd 128106587276438692081757506308484131437 [.ref a, .int k t] a (lst l n) (fun _ => v) 0) := by
  intro id' h' A R s ho h
  have : id' = "list.__getitem__" := PySem.code_inj _ _ (h'.trans (by decide +kernel))
  subst this
  refine codeAny_builtin PySem.F.entry_list_getitem ?_
  show wpAny _ _ (Builtin.List.listSubscript? (.int k t) >>= _) _ _ s
  refine wpAny_bind (wpAny_listSubscript_int (fitsIndex_of h0 hfit) ?_)
  clear hfit
  obtain ⟨j, rfl⟩ := Int.eq_ofNat_of_zero_le h0
  have hx' : (⟨l⟩ : Array Value)[j]? = some v := hx
  show wpAny _ _ ((seqItemAt a j >>= fun r => pure (r.map (j, ·))) >>= _) _ _ s
  refine wpAny_bind (wpAny_bind (wpAny_seqItemAt ho rfl (wpAny_pure ?_)))
  rw [hx']
  exact wpAny_pure h
theorem oc_lget {a : Addr} {l : List Value} {n i : Nat} {t : Tok} {v : Value} (hv : l[i]? = some v) (hi : i ≤ 10000) : OcOk1 prog w (.rd 128106587276438692081757506308484131437 [.ref a, .int i t] a (lst l n) (fun _ => v) 0) := by
  have h0 : (0 : Int) ≤ (i : Int) := by omega
  have hf : (i : Int) < 2 ^ 63 := by omega
  exact oc_lget0 h0 hf (by simpa using hv)
theorem picked_le {x : Str} {i j : Int} {t u : Tok} : (slicePicked x (some (i, t)) (some (j, u)) none).length ≤ x.length := by
  unfold slicePicked Builtin.Str.strSliceIndices sliceRange
  simp
  omega
end
end
section
open PySem PySem.W PySem.W.X PySem.Calls PySem.Spec PyProof.Rows
section
variable {prog : Program} {w : World}
theorem oc_seq {a b : Str} {t u : Tok} {x : Bool} (h : (a.cps.toList == b.cps.toList) = x) : OcOk1 prog w (.gv 455126313168696234964340 [.str a t, .str b u] (fun _ => .bool x) 0) := by
  subst h
  exact oc_gives (id := "str.__eq__") (by decide +kernel) (by decide +kernel) (entryFor_of_fast (by kernel_rfl)) (gives_str_eq a b t u)
theorem oc_ieq {a b : Int} {t u : Tok} {x : Bool} (h : (a == b) = x) : OcOk1 prog w (.gv 455126313168696235093866 [.int a t, .int b u] (fun _ => .bool x) 0) := by
  subst h
  exact oc_gives (id := "int.__eq__") (by decide +kernel) (by decide +kernel) (entryFor_of_fast (by kernel_rfl)) (AutoIntG7.int___eq___int_int_0 a t b u)
theorem oc_tget {a : Addr} {v : Value} {l : List Value} {t : Tok} (hz : l.length ≤ 1000) : OcOk1 prog w (.rd 32795286342768305172929921614907396159093 [.ref a, .int 0 t] a (tup (v :: l)) (fun _ => v) 0) := by
  intro id' h' A R s ho k
  have : id' = "tuple.__getitem__" := PySem.code_inj _ _ (h'.trans (by decide +kernel))
  subst this
  exact code_meets (by decide +kernel) (entryFor_of_fast (by kernel_rfl)) (MeetsSeq.tuple_getitem_at a ⟨v :: l⟩ 0 0 t 0 v (by decide) (by decide) (by simp [seqIndex?]) rfl) ⟨ho, k⟩
theorem oc_tin {a : Addr} {x : Str} {u t1 t2 : Tok} {l1 l2 : List Nat} (h1 : x.cps.toList ≠ l1) (h2 : x.cps.toList ≠ l2) : OcOk1 prog w (.rd 8395601325623592240556648632771639105386101 [.ref a, .str x u] a (tup [sv l1 t1, sv l2 t2]) (fun _ => .bool false) 0) := by
  intro id' h' A R s ho k
  have : id' = "tuple.__contains__" := PySem.code_inj _ _ (h'.trans (by decide +kernel))
  subst this
  refine codeAny_builtin entry_tuple_contains ?_
  refine tuple_contains_strs (ys := [⟨⟨l1⟩⟩, ⟨⟨l2⟩⟩]) ⟨_, ho, rfl, 0, rfl⟩ (.cons _ _ (.cons _ _ .nil)) ?_
  have : ([⟨⟨l1⟩⟩, ⟨⟨l2⟩⟩] : List Str).any (· == x) = false := by
    simp only [List.any_cons, List.any_nil, Bool.or_false, Bool.or_eq_false_iff, beq_eq_false_iff_ne, ne_eq]
    exact ⟨fun e => h1 (by rw [← e]), fun e => h2 (by rw [← e])⟩
  show R (.ok (.ret (.bool _))) s
  rw [this]
  exact k
theorem oc_mod {a b c : Int} {t u : Tok} (hb : b ≠ 0) (h : a.fmod b = c) : OcOk1 prog w (.gv 116512097088030077292474218 [.int a t, .int b u] (fun t => .int c t) 1) := by
  subst h
  intro id' h' A R s k
  have : id' = "int.__mod__" := PySem.code_inj _ _ (h'.trans (by decide +kernel))
  subst this
  exact code_gives (by decide +kernel) (entryFor_of_fast (by kernel_rfl)) (AutoIntG6.int___mod___int_int_1 a t b u (by simpa using hb)) k
theorem oc_abs_neg {a c : Int} {t : Tok} (h : a < 0) (hc : c = -a) : OcOk1 prog w (.gv 116512372849064760722157418 [.int a t] (fun t => .int c (id t)) 1) := by
  subst hc
  intro id' h' A R s k
  have : id' = "int.__abs__" := PySem.code_inj _ _ (h'.trans (by decide +kernel))
  subst this
  exact code_gives (by decide +kernel) (entryFor_of_fast (by kernel_rfl)) (AutoIntG0.int___abs___int_0 a t h) k
theorem oc_abs_pos {a c : Int} {t : Tok} (h : ¬a < 0) (hc : c = a) : OcOk1 prog w (.gv 116512372849064760722157418 [.int a t] (fun x => .int c ((fun _ => t) x)) 0) := by
  subst hc
  exact oc_gives (id := "int.__abs__") (by decide +kernel) (by decide +kernel) (entryFor_of_fast (by kernel_rfl)) (AutoIntG1.int___abs___int_1 _ t h)
theorem oc_abs {a : Int} {t : Tok} : ∃ (T : Nat → Nat) (k : Nat), OcOk1 prog w (.gv 116512372849064760722157418 [.int a t] (fun t => .int (a.natAbs : Int) (T t)) k) := by
  by_cases h : a < 0
  · exact ⟨id, 1, oc_abs_neg h (by omega)⟩
  · exact ⟨fun _ => t, 0, oc_abs_pos h (by omega)⟩
end
end
section
open PySem PySem.W PySem.W.X PySem.Calls PySem.Spec PyProof.Rows
noncomputable def sel : List Bool → List En → List En
  | true :: m, e :: l => e :: sel m l
  | false :: m, _ :: l => sel m l
  | _, _ => []
noncomputable def uns : List Bool → List En → List En
  | true :: m, _ :: l => uns m l
  | false :: m, e :: l => e :: uns m l
  | _, l => l
theorem part_perm : ∀ (m : List Bool) (L : List En), (sel m L ++ uns m L).Perm L
  | [], L => by simp [sel, uns]
  | _ :: _, [] => by rename_i b _; cases b <;> simp [sel, uns]
  | true :: m, e :: l => by
    show (e :: (sel m l ++ uns m l)).Perm (e :: l)
    exact (part_perm m l).cons e
  | false :: m, e :: l => by
    show (sel m l ++ e :: uns m l).Perm (e :: l)
    exact List.perm_middle.trans ((part_perm m l).cons e)
noncomputable abbrev tupE (q : Addr × List Value) : En := ⟨q.1, tup q.2, false⟩
theorem Inv.addTs {X s L} (I : Inv X s L) : ∀ (tl : List (Addr × List Value)), (∀ q ∈ tl, s.heap.get? q.1 = some (Mine.tup q.2)) → Inv X s (tl.map tupE ++ L)
  | [], _ => I
  | q :: tl, h => (Inv.addTs I tl fun x hx => h x (List.mem_cons_of_mem _ hx)).addT (h q (List.mem_cons_self ..))
theorem Tr.mono {L L2 s s'} (T : Tr L s s') (h : ∀ e ∈ L, e.m = true → e ∈ L2) : Tr L2 s s' :=
  ⟨fun b o hb hn => T.keep b o hb fun e he hm => hn e (h e he hm) hm, T.size⟩
structure Cy where
  w : World
  hT : Heap
  p : Params
  b1 : Bool
  b2 : Bool
  gens : Array GenState
  drawn : Drawn
  os : OsState
noncomputable abbrev Cy.x (Y : Cy) : Cx := ⟨Y.w, Y.hT, pv0 Y.p Y.b1 Y.b2, Y.gens, Y.drawn, Y.os⟩
section
variable {Y : Cy} {s : Shared} {A : Around} {d u : Nat} {R : Result → Shared → Prop} {TL : List En}
theorem tgo (O : Y.x.Ok) (hd : d ≤ 500) (hA : AB d u A) (I : Inv Y.x s TL) (mask : List Bool) (tl : List (Addr × List Value)) (htl : ∀ q ∈ tl, s.heap.get? q.1 = some (tup q.2))
    {N : Nat} {c : Code} {t : Sem Fin} {hs : List Nat} {ws : List (Nat × Wt)} {is : List Nat} {r : Result} {n' t' : Nat} {L' : List En} {oc : List Oc}
    (e : FinI (run (pv0 Y.p Y.b1 Y.b2) N 0 none c t .ret ⟨s.heap.objs.size, s.toks, tl.map tupE ++ sel mask TL, hs, ws, [], []⟩) is r n' t' L' oc)
    (hoc : OcOk pgm Y.w oc) (K : ∀ s', Inv Y.x s' (L' ++ uns mask TL) → Tr TL s s' → s'.heap.objs.size = n' → R r s') : wpOwn Y.x.M A c t (postM Y.x A R) (postE R) s := by
  have I2 : Inv Y.x s ((tl.map tupE ++ sel mask TL) ++ uns mask TL) := by
    rw [List.append_assoc]
    exact (I.perm (part_perm mask TL)).addTs tl htl
  have I1 := I2.sub (List.sublist_append_left _ _)
  refine run_tree O hd hA I1 (holds_ret I2 e hoc fun s' I' T hn _ => K s' I' (T.mono fun e he hm => ?_) hn)
  rcases List.mem_append.mp he with he | he
  · obtain ⟨q, _, rfl⟩ := List.mem_map.mp he
    cases hm
  · exact (part_perm mask TL).subset (List.mem_append_left _ he)
theorem Inv.back {L'} (mask : List Bool) (TL' : List En) (k : Nat) (I : Inv Y.x s (L' ++ uns mask TL)) (h1 : L'.drop k = sel mask TL') (h2 : uns mask TL = uns mask TL') : Inv Y.x s TL' := by
  refine Inv.perm (L := sel mask TL' ++ uns mask TL') ?_ (part_perm mask TL').symm
  rw [← h1, ← h2]
  exact I.sub (List.Sublist.append (List.drop_sublist _ _) (List.Sublist.refl _))
theorem Inv.tups {L' : List En} {H : List En} (I : Inv Y.x s (L' ++ H)) {a : Addr} {l : List Value} (h : tupE (a, l) ∈ L') : s.heap.get? a = some (Mine.tup l) := I.get _ (List.mem_append_left _ h)
end
end
section
open PySem PySem.W PySem.W.X PySem.Calls PySem.Spec PyProof.Rows
theorem tr_cat (p : Params) (b1 b2 : Bool) (n t : Nat) (Lt pl hi hd vd rf lg c n0 nm wy tb : Nat) (bg : Int) (hs hs' : Nat → Int) (ks ks' : Nat → Nat) (sb : Str) (ts : Nat) (k at_ : Int) (ta tk : Nat) (a r x y t1 : Nat) : FinI (rn p b1 b2 (inC p Lt) (testT (inT p) (inB1 p) (envAt p 614 Lt)) n t [ef c (tup [.ref a, .ref r]), ef a (tup [sv n_cat t1, .ref x, .ref y]), et Lt (fr9 hs ks (.ref n0) (.str sb ts) (.int bg tb) (.ref hi) (.ref pl) (.ref wy) (.ref c) (.int at_ ta) (.ref nm)), et hd (hostD hs' ks' vd rf lg k tk), ef hi (inst 589 hd)] (q251 (q204 (q388 (q82 (q1 (q16 (q54 (q1 (q13 (hy 129 (q54 (hy 129 (q54 (hy 129 (q6 (q102 [])))))))))))))))) [(455126529904428302298986, .gv (fun _ => .bool false) 0)]) [0, 1, 2, 12, 13, 14] (.ok .next) (n + 10) (t + 34) [ef (n + 9) (tup [.ref (n + 8), .int (at_) ta, .ref nm]), ef (n + 8) (tup [.ref x, .ref (n + 7)]), ef (n + 7) (tup [.ref y, .ref r]), et Lt (fq0 hs ks (.ref n0) (.str (sb) ts) (.int (bg) tb) (.ref hi) (.ref pl) (.ref (n + 9)) (.ref c) (.int (at_) ta) (.ref nm) 9), et hd (fq1 hs' ks' (.ref vd) (.int 9999 (ks' 6)) (.ref rf) (.int 64 (ks' 7)) (.int (k + 1) (t + 3)) (.ref lg) 6), ef hi (inst 589 hd)] [.gv 455126529904428302298986 [.int (k + 1) (t + 3), .int 9999 (ks' 6)] (fun _ => .bool false) 0] := by show _ = _; cases b1 <;> kernel_rfl
theorem tr_catn (p : Params) (b1 b2 : Bool) (n t : Nat) (Lt pl hi hd vd rf lg c n0 nm wy tb : Nat) (bg : Int) (hs hs' : Nat → Int) (ks ks' : Nat → Nat) (sb : Str) (ts : Nat) (k at_ : Int) (ta tk : Nat) (a x y t1 : Nat) : FinI (rn p b1 b2 (inC p Lt) (testT (inT p) (inB1 p) (envAt p 614 Lt)) n t [ef c (tup [.ref a, .none]), ef a (tup [sv n_cat t1, .ref x, .ref y]), et Lt (fr9 hs ks (.ref n0) (.str sb ts) (.int bg tb) (.ref hi) (.ref pl) (.ref wy) (.ref c) (.int at_ ta) (.ref nm)), et hd (hostD hs' ks' vd rf lg k tk), ef hi (inst 589 hd)] (q251 (q204 (q388 (q82 (q1 (q16 (q54 (q1 (q13 (hy 129 (q54 (hy 129 (q54 (hy 129 (q6 (q102 [])))))))))))))))) [(455126529904428302298986, .gv (fun _ => .bool false) 0)]) [0, 1, 2, 12, 13, 14] (.ok .next) (n + 10) (t + 34) [ef (n + 9) (tup [.ref (n + 8), .int (at_) ta, .ref nm]), ef (n + 8) (tup [.ref x, .ref (n + 7)]), ef (n + 7) (tup [.ref y, .none]), et Lt (fq0 hs ks (.ref n0) (.str (sb) ts) (.int (bg) tb) (.ref hi) (.ref pl) (.ref (n + 9)) (.ref c) (.int (at_) ta) (.ref nm) 9), et hd (fq1 hs' ks' (.ref vd) (.int 9999 (ks' 6)) (.ref rf) (.int 64 (ks' 7)) (.int (k + 1) (t + 3)) (.ref lg) 6), ef hi (inst 589 hd)] [.gv 455126529904428302298986 [.int (k + 1) (t + 3), .int 9999 (ks' 6)] (fun _ => .bool false) 0] := by show _ = _; cases b1 <;> kernel_rfl
theorem tr_alt (p : Params) (b1 b2 : Bool) (n t : Nat) (Lt pl hi hd vd rf lg c n0 nm wy tb : Nat) (bg : Int) (hs hs' : Nat → Int) (ks ks' : Nat → Nat) (sb : Str) (ts : Nat) (k at_ : Int) (ta tk : Nat) (a r x y t1 : Nat) (xs : List Value) (pe : Nat) : FinI (rn p b1 b2 (inC p Lt) (testT (inT p) (inB1 p) (envAt p 614 Lt)) n t [ef c (tup [.ref a, .ref r]), ef a (tup [sv n_alt t1, .ref x, .ref y]), et Lt (fr9 hs ks (.ref n0) (.str sb ts) (.int bg tb) (.ref hi) (.ref pl) (.ref wy) (.ref c) (.int at_ ta) (.ref nm)), et hd (hostD hs' ks' vd rf lg k tk), et pl (lst xs pe), ef hi (inst 589 hd)] (q6 (q128 (hy 134 (q171 (q286 (q205 (q41 (hy 135 (q172 (q286 (hy 129 (q286 (q204 (q388 (q82 (q1 (q16 (q54 (q71 (hy 4435652838913 (q54 (hy 129 (q17 (hy 18176 (q6 (q135 (hy 16779 (q10 (hy 2328334 []))))))))))))))))))))))))))))) [(455126529904428302298986, .gv (fun _ => .bool false) 0), (122627580202994350266018413, .up 13 (lst (xs ++ [Value.ref n.succ.succ.succ.succ.succ.succ.succ.succ]) (pe + 1)) .none 0)]) [0, 1, 2, 3, 13, 14, 15, 16] (.ok .next) (n + 11) (t + 35) [ef (n + 10) (tup [.ref (n + 9), .int (at_) ta, .ref nm]), ef (n + 9) (tup [.ref x, .ref r]), ef (n + 8) (tup [.ref (n + 7), .int (at_) ta, .ref nm]), ef (n + 7) (tup [.ref y, .ref r]), et Lt (fq0 hs ks (.ref n0) (.str (sb) ts) (.int (bg) tb) (.ref hi) (.ref pl) (.ref (n + 10)) (.ref c) (.int (at_) ta) (.ref nm) 9), et hd (fq1 hs' ks' (.ref vd) (.int 9999 (ks' 6)) (.ref rf) (.int 64 (ks' 7)) (.int (k + 1) (t + 3)) (.ref lg) 6), et pl (lst (xs ++ [Value.ref n.succ.succ.succ.succ.succ.succ.succ.succ]) (pe + 1)), ef hi (inst 589 hd)] [.up 122627580202994350266018413 [.ref pl, .ref (n + 8)] pl (lst (xs) pe) (lst (xs ++ [Value.ref n.succ.succ.succ.succ.succ.succ.succ.succ]) (pe + 1)) .none 0, .gv 455126529904428302298986 [.int (k + 1) (t + 3), .int 9999 (ks' 6)] (fun _ => .bool false) 0] := by show _ = _; cases b1 <;> kernel_rfl
theorem tr_delayP0 (p : Params) (b1 b2 : Bool) (n t : Nat) (Lt pl hi hd vd rf lg c n0 nm wy tb : Nat) (bg : Int) (hs hs' : Nat → Int) (ks ks' : Nat → Nat) (sb : Str) (ts : Nat) (k at_ : Int) (ta tk : Nat) (a r u t1 t2 t3 dP dQ kp nd : Nat) (hp : Nat → Int) (kP kQ pP pQ ve : Nat) : FinI (rn p b1 b2 (inC p Lt) (testT (inT p) (inB1 p) (envAt p 614 Lt)) n t [ef c (tup [.ref a, .ref r]), ef a (tup [sv n_delay t1, .ref u]), ef u (tup [sv n_name t2, sv [80] t3]), et Lt (fr9 hs ks (.ref n0) (.str sb ts) (.int bg tb) (.ref hi) (.ref pl) (.ref wy) (.ref c) (.int at_ ta) (.ref nm)), et hd (hostD hs' ks' vd rf lg k tk), et vd (fq2 p kP (.ref pP) kQ (.ref pQ) ve), ef hi (inst 589 hd), ef pP (inst 166 dP), ⟨dP, { cls := .type "dict", data := .dict ⟨[⟨hp 0, sv n_node kp, .ref nd⟩]⟩ 1 }, false⟩] (q10 (q236 (hy 133 (q8 (q16 (q287 (q389 (q65 (hy 129 (q287 (hy 129 (q287 (q4 (q9 (q18 (q31 (q185 (q25 (q237 (q47 (q47 (q390 (q5 (hy 2197006 (q54 (q37 (q135 (hy 139 (q34 (q186 (hy 567832823957120 (q135 (hy 274956299 (q14 (hy 17280 (q238 (q5 (hy 145 (q0 (hy 2375697 (q5 (hy 145 (q5 (q5 (hy 145 (q0 (hy 145 (q3 (hy 136 (q238 (q5 (hy 16530 (q314 (hy 289571987 (q66 []))))))))))))))))))))))))))))))))))))))))))))))))))))))) [(455126529904428302298986, .gv (fun _ => .bool false) 0), (8459563503104322149, .rd 13 (fun _ => .ref pP) 1)]) [0, 1, 15, 16, 17, 18, 19, 20] (.ok .next) (n + 12) (t + 43) [ef (n + 11) (tup [.ref (n + 10), .int (at_) ta, .ref nm]), ef (n + 10) (tup [.ref nd, .ref r]), et Lt (fq0 hs ks (.ref n0) (.str (sb) ts) (.int (bg) tb) (.ref hi) (.ref pl) (.ref (n + 11)) (.ref c) (.int (at_) ta) (.ref nm) 9), et hd (fq1 hs' ks' (.ref vd) (.int 9999 (ks' 6)) (.ref rf) (.int 64 (ks' 7)) (.int (k + 1) (t + 3)) (.ref lg) 6), et vd (fq2 p kP (.ref pP) kQ (.ref pQ) ve), ef hi (inst 589 hd), ef pP (inst 166 dP), ⟨dP, { cls := .type "dict", data := .dict ⟨[⟨hp 0, sv n_node kp, .ref nd⟩]⟩ 1 }, false⟩] [.rd 8459563503104322149 [.ref vd, sv [80] t3, sv [] (t + 35)] vd (fq2 p kP (.ref pP) kQ (.ref pQ) ve) (fun _ => .ref pP) 1, .gv 455126529904428302298986 [.int (k + 1) (t + 3), .int 9999 (ks' 6)] (fun _ => .bool false) 0] := by show _ = _; cases b1 <;> kernel_rfl
theorem tr_delayQ0 (p : Params) (b1 b2 : Bool) (n t : Nat) (Lt pl hi hd vd rf lg c n0 nm wy tb : Nat) (bg : Int) (hs hs' : Nat → Int) (ks ks' : Nat → Nat) (sb : Str) (ts : Nat) (k at_ : Int) (ta tk : Nat) (a r u t1 t2 t3 dP dQ kp nd : Nat) (hp : Nat → Int) (kP kQ pP pQ ve : Nat) : FinI (rn p b1 b2 (inC p Lt) (testT (inT p) (inB1 p) (envAt p 614 Lt)) n t [ef c (tup [.ref a, .ref r]), ef a (tup [sv n_delay t1, .ref u]), ef u (tup [sv n_name t2, sv [81] t3]), et Lt (fr9 hs ks (.ref n0) (.str sb ts) (.int bg tb) (.ref hi) (.ref pl) (.ref wy) (.ref c) (.int at_ ta) (.ref nm)), et hd (hostD hs' ks' vd rf lg k tk), et vd (fq2 p kP (.ref pP) kQ (.ref pQ) ve), ef hi (inst 589 hd), ef pQ (inst 166 dQ), ⟨dQ, { cls := .type "dict", data := .dict ⟨[⟨hp 0, sv n_node kp, .ref nd⟩]⟩ 1 }, false⟩] (q10 (q236 (hy 133 (q8 (q16 (q287 (q389 (q65 (hy 129 (q287 (hy 129 (q287 (q4 (q9 (q18 (q31 (q185 (q25 (q237 (q47 (q47 (q390 (q5 (hy 2197006 (q54 (q37 (q135 (hy 139 (q34 (q186 (hy 567832823957120 (q135 (hy 274956299 (q14 (hy 17280 (q238 (q5 (hy 145 (q0 (hy 2375697 (q5 (hy 145 (q5 (q5 (hy 145 (q0 (hy 145 (q3 (hy 136 (q238 (q5 (hy 16530 (q314 (hy 289571987 (q66 []))))))))))))))))))))))))))))))))))))))))))))))))))))))) [(455126529904428302298986, .gv (fun _ => .bool false) 0), (8459563503104322149, .rd 13 (fun _ => .ref pQ) 1)]) [0, 1, 15, 16, 17, 18, 19, 20] (.ok .next) (n + 12) (t + 43) [ef (n + 11) (tup [.ref (n + 10), .int (at_) ta, .ref nm]), ef (n + 10) (tup [.ref nd, .ref r]), et Lt (fq0 hs ks (.ref n0) (.str (sb) ts) (.int (bg) tb) (.ref hi) (.ref pl) (.ref (n + 11)) (.ref c) (.int (at_) ta) (.ref nm) 9), et hd (fq1 hs' ks' (.ref vd) (.int 9999 (ks' 6)) (.ref rf) (.int 64 (ks' 7)) (.int (k + 1) (t + 3)) (.ref lg) 6), et vd (fq2 p kP (.ref pP) kQ (.ref pQ) ve), ef hi (inst 589 hd), ef pQ (inst 166 dQ), ⟨dQ, { cls := .type "dict", data := .dict ⟨[⟨hp 0, sv n_node kp, .ref nd⟩]⟩ 1 }, false⟩] [.rd 8459563503104322149 [.ref vd, sv [81] t3, sv [] (t + 35)] vd (fq2 p kP (.ref pP) kQ (.ref pQ) ve) (fun _ => .ref pQ) 1, .gv 455126529904428302298986 [.int (k + 1) (t + 3), .int 9999 (ks' 6)] (fun _ => .bool false) 0] := by show _ = _; cases b1 <;> kernel_rfl
theorem tr_delayP1 (p : Params) (b1 b2 : Bool) (n t : Nat) (Lt pl hi hd vd rf lg c n0 nm wy tb : Nat) (bg : Int) (hs hs' : Nat → Int) (ks ks' : Nat → Nat) (sb : Str) (ts : Nat) (k at_ : Int) (ta tk : Nat) (a r u t1 t2 t3 dP dQ kp nd : Nat) (hp : Nat → Int) (kP kQ pP pQ ve kJ tJ : Nat) (vJ : Int) : FinI (rn p b1 b2 (inC p Lt) (testT (inT p) (inB1 p) (envAt p 614 Lt)) n t [ef c (tup [.ref a, .ref r]), ef a (tup [sv n_delay t1, .ref u]), ef u (tup [sv n_name t2, sv [80] t3]), et Lt (fr9 hs ks (.ref n0) (.str sb ts) (.int bg tb) (.ref hi) (.ref pl) (.ref wy) (.ref c) (.int at_ ta) (.ref nm)), et hd (hostD hs' ks' vd rf lg k tk), et vd (fq3 p kP (.ref pP) kQ (.ref pQ) kJ (.int vJ tJ) ve), ef hi (inst 589 hd), ef pP (inst 166 dP), ⟨dP, { cls := .type "dict", data := .dict ⟨[⟨hp 0, sv n_node kp, .ref nd⟩]⟩ 1 }, false⟩] (q10 (q236 (hy 133 (q8 (q16 (q287 (q389 (q65 (hy 129 (q287 (hy 129 (q287 (q4 (q9 (q18 (q31 (q185 (q25 (q237 (q47 (q47 (q390 (q5 (hy 2197006 (q54 (q37 (q135 (hy 139 (q34 (q186 (hy 567832823957120 (q135 (hy 274956299 (q14 (hy 17280 (q238 (q5 (hy 145 (q0 (hy 2375697 (q5 (hy 145 (q5 (q5 (hy 145 (q0 (hy 145 (q3 (hy 136 (q238 (q5 (hy 16530 (q314 (hy 289571987 (q66 []))))))))))))))))))))))))))))))))))))))))))))))))))))))) [(455126529904428302298986, .gv (fun _ => .bool false) 0), (8459563503104322149, .rd 13 (fun _ => .ref pP) 1)]) [0, 1, 15, 16, 17, 18, 19, 20] (.ok .next) (n + 12) (t + 43) [ef (n + 11) (tup [.ref (n + 10), .int (at_) ta, .ref nm]), ef (n + 10) (tup [.ref nd, .ref r]), et Lt (fq0 hs ks (.ref n0) (.str (sb) ts) (.int (bg) tb) (.ref hi) (.ref pl) (.ref (n + 11)) (.ref c) (.int (at_) ta) (.ref nm) 9), et hd (fq1 hs' ks' (.ref vd) (.int 9999 (ks' 6)) (.ref rf) (.int 64 (ks' 7)) (.int (k + 1) (t + 3)) (.ref lg) 6), et vd (fq3 p kP (.ref pP) kQ (.ref pQ) kJ (.int (vJ) tJ) ve), ef hi (inst 589 hd), ef pP (inst 166 dP), ⟨dP, { cls := .type "dict", data := .dict ⟨[⟨hp 0, sv n_node kp, .ref nd⟩]⟩ 1 }, false⟩] [.rd 8459563503104322149 [.ref vd, sv [80] t3, sv [] (t + 35)] vd (fq3 p kP (.ref pP) kQ (.ref pQ) kJ (.int (vJ) tJ) ve) (fun _ => .ref pP) 1, .gv 455126529904428302298986 [.int (k + 1) (t + 3), .int 9999 (ks' 6)] (fun _ => .bool false) 0] := by show _ = _; cases b1 <;> kernel_rfl
theorem tr_delayQ1 (p : Params) (b1 b2 : Bool) (n t : Nat) (Lt pl hi hd vd rf lg c n0 nm wy tb : Nat) (bg : Int) (hs hs' : Nat → Int) (ks ks' : Nat → Nat) (sb : Str) (ts : Nat) (k at_ : Int) (ta tk : Nat) (a r u t1 t2 t3 dP dQ kp nd : Nat) (hp : Nat → Int) (kP kQ pP pQ ve kJ tJ : Nat) (vJ : Int) : FinI (rn p b1 b2 (inC p Lt) (testT (inT p) (inB1 p) (envAt p 614 Lt)) n t [ef c (tup [.ref a, .ref r]), ef a (tup [sv n_delay t1, .ref u]), ef u (tup [sv n_name t2, sv [81] t3]), et Lt (fr9 hs ks (.ref n0) (.str sb ts) (.int bg tb) (.ref hi) (.ref pl) (.ref wy) (.ref c) (.int at_ ta) (.ref nm)), et hd (hostD hs' ks' vd rf lg k tk), et vd (fq3 p kP (.ref pP) kQ (.ref pQ) kJ (.int vJ tJ) ve), ef hi (inst 589 hd), ef pQ (inst 166 dQ), ⟨dQ, { cls := .type "dict", data := .dict ⟨[⟨hp 0, sv n_node kp, .ref nd⟩]⟩ 1 }, false⟩] (q10 (q236 (hy 133 (q8 (q16 (q287 (q389 (q65 (hy 129 (q287 (hy 129 (q287 (q4 (q9 (q18 (q31 (q185 (q25 (q237 (q47 (q47 (q390 (q5 (hy 2197006 (q54 (q37 (q135 (hy 139 (q34 (q186 (hy 567832823957120 (q135 (hy 274956299 (q14 (hy 17280 (q238 (q5 (hy 145 (q0 (hy 2375697 (q5 (hy 145 (q5 (q5 (hy 145 (q0 (hy 145 (q3 (hy 136 (q238 (q5 (hy 16530 (q314 (hy 289571987 (q66 []))))))))))))))))))))))))))))))))))))))))))))))))))))))) [(455126529904428302298986, .gv (fun _ => .bool false) 0), (8459563503104322149, .rd 13 (fun _ => .ref pQ) 1)]) [0, 1, 15, 16, 17, 18, 19, 20] (.ok .next) (n + 12) (t + 43) [ef (n + 11) (tup [.ref (n + 10), .int (at_) ta, .ref nm]), ef (n + 10) (tup [.ref nd, .ref r]), et Lt (fq0 hs ks (.ref n0) (.str (sb) ts) (.int (bg) tb) (.ref hi) (.ref pl) (.ref (n + 11)) (.ref c) (.int (at_) ta) (.ref nm) 9), et hd (fq1 hs' ks' (.ref vd) (.int 9999 (ks' 6)) (.ref rf) (.int 64 (ks' 7)) (.int (k + 1) (t + 3)) (.ref lg) 6), et vd (fq3 p kP (.ref pP) kQ (.ref pQ) kJ (.int (vJ) tJ) ve), ef hi (inst 589 hd), ef pQ (inst 166 dQ), ⟨dQ, { cls := .type "dict", data := .dict ⟨[⟨hp 0, sv n_node kp, .ref nd⟩]⟩ 1 }, false⟩] [.rd 8459563503104322149 [.ref vd, sv [81] t3, sv [] (t + 35)] vd (fq3 p kP (.ref pP) kQ (.ref pQ) kJ (.int (vJ) tJ) ve) (fun _ => .ref pQ) 1, .gv 455126529904428302298986 [.int (k + 1) (t + 3), .int 9999 (ks' 6)] (fun _ => .bool false) 0] := by show _ = _; cases b1 <;> kernel_rfl
theorem tr_cursor0 (p : Params) (b1 b2 : Bool) (n t : Nat) (Lt pl hi hd vd rf lg c n0 nm wy tb : Nat) (bg : Int) (hs hs' : Nat → Int) (ks ks' : Nat → Nat) (sb : Str) (ts : Nat) (k at_ : Int) (ta tk : Nat) (a r t1 re : Nat) (ls : List Value) (le : Nat) (rj dj : Nat) (hj : Nat → Int) (kj : Nat → Nat) (kP kQ pP pQ ve : Nat) : FinI (rn p b1 b2 (inC p Lt) (testT (inT p) (inB1 p) (envAt p 614 Lt)) n t [ef c (tup [.ref a, .ref r]), ef a (tup [sv n_cursor t1, .ref rj]), et Lt (fr9 hs ks (.ref n0) (.str sb ts) (.int bg tb) (.ref hi) (.ref pl) (.ref wy) (.ref c) (.int at_ ta) (.ref nm)), et hd (hostD hs' ks' vd rf lg k tk), et vd (fq2 p kP (.ref pP) kQ (.ref pQ) ve), et lg (lst ls le), ef hi (inst 589 hd), ef rf (lst [] re), ef rj (inst 208 dj), ⟨dj, { cls := .type "dict", data := .dict ⟨[eh hj kj 0 n_kind (sv n_var (kj 1)), ⟨hj 1, sv n_owner (kj 2), .none⟩, ⟨hj 2, sv n_key (kj 3), sv [74] (kj 4)⟩]⟩ 3 }, false⟩] (q6 (q354 (q204 (q237 (q47 (q390 (q5 (hy 2196878 (q54 (hy 134 (q61 (q355 (hy 16530 (q186 (hy 4947836143104 (q0 (hy 144 (q1 (q186 (hy 2115072 (q355 (hy 567454569023122 (q186 (hy 567832823956992 (q355 (hy 146 (q2 (hy 16783 (q42 (q102 [])))))))))))))))))))))))))))))) [(455126529904428302298986, .gv (fun _ => .bool false) 0), (128106587276438692082622197436938218085, .up 12 ({ cls := .type "dict", data := .dict ⟨[ek p [80] kP (.ref pP), ek p [81] kQ (.ref pQ), ek p [74] (kj 4) (.int (at_) ta)]⟩ (ve + 1) }) .none 1), (122627580202994350266018413, .up 14 (lst (ls ++ [Value.ref n.succ.succ.succ.succ.succ.succ.succ.succ]) (le + 1)) .none 0)]) [0, 1, 12, 13, 14, 15, 16, 17, 18, 19] (.ok .next) (n + 10) (t + 39) [ef (n + 9) (tup [.ref r, .int (at_) ta, .ref nm]), ef (n + 8) (tup [sv [74] (kj 4), .int (at_) ta]), et Lt (fq0 hs ks (.ref n0) (.str (sb) ts) (.int (bg) tb) (.ref hi) (.ref pl) (.ref (n + 9)) (.ref c) (.int (at_) ta) (.ref nm) 9), et hd (fq1 hs' ks' (.ref vd) (.int 9999 (ks' 6)) (.ref rf) (.int 64 (ks' 7)) (.int (k + 1) (t + 3)) (.ref lg) 6), ⟨vd, { cls := .type "dict", data := .dict ⟨[ek p [80] kP (.ref pP), ek p [81] kQ (.ref pQ), ek p [74] (kj 4) (.int (at_) ta)]⟩ (ve + 1) }, true⟩, et lg (lst (ls ++ [Value.ref n.succ.succ.succ.succ.succ.succ.succ.succ]) (le + 1)), ef hi (inst 589 hd), ef rf (lst [] re), ef rj (inst 208 dj), ⟨dj, { cls := .type "dict", data := .dict ⟨[eh hj kj 0 n_kind (sv n_var (kj 1)), ⟨hj 1, sv n_owner (kj 2), .none⟩, ⟨hj 2, sv n_key (kj 3), sv [74] (kj 4)⟩]⟩ 3 }, false⟩] [.up 122627580202994350266018413 [.ref lg, .ref (n + 8)] lg (lst (ls) le) (lst (ls ++ [Value.ref n.succ.succ.succ.succ.succ.succ.succ.succ]) (le + 1)) .none 0, .up 128106587276438692082622197436938218085 [.ref vd, sv [74] (kj 4), .int (at_) ta] vd (fq2 p kP (.ref pP) kQ (.ref pQ) ve) ({ cls := .type "dict", data := .dict ⟨[ek p [80] kP (.ref pP), ek p [81] kQ (.ref pQ), ek p [74] (kj 4) (.int (at_) ta)]⟩ (ve + 1) }) .none 1, .gv 455126529904428302298986 [.int (k + 1) (t + 3), .int 9999 (ks' 6)] (fun _ => .bool false) 0] := by show _ = _; cases b1 <;> kernel_rfl
theorem tr_cursor1 (p : Params) (b1 b2 : Bool) (n t : Nat) (Lt pl hi hd vd rf lg c n0 nm wy tb : Nat) (bg : Int) (hs hs' : Nat → Int) (ks ks' : Nat → Nat) (sb : Str) (ts : Nat) (k at_ : Int) (ta tk : Nat) (a r t1 re : Nat) (ls : List Value) (le : Nat) (rj dj : Nat) (hj : Nat → Int) (kj : Nat → Nat) (kP kQ pP pQ ve kJ tJ : Nat) (vJ : Int) : FinI (rn p b1 b2 (inC p Lt) (testT (inT p) (inB1 p) (envAt p 614 Lt)) n t [ef c (tup [.ref a, .ref r]), ef a (tup [sv n_cursor t1, .ref rj]), et Lt (fr9 hs ks (.ref n0) (.str sb ts) (.int bg tb) (.ref hi) (.ref pl) (.ref wy) (.ref c) (.int at_ ta) (.ref nm)), et hd (hostD hs' ks' vd rf lg k tk), et vd (fq3 p kP (.ref pP) kQ (.ref pQ) kJ (.int vJ tJ) ve), et lg (lst ls le), ef hi (inst 589 hd), ef rf (lst [] re), ef rj (inst 208 dj), ⟨dj, { cls := .type "dict", data := .dict ⟨[eh hj kj 0 n_kind (sv n_var (kj 1)), ⟨hj 1, sv n_owner (kj 2), .none⟩, ⟨hj 2, sv n_key (kj 3), sv [74] (kj 4)⟩]⟩ 3 }, false⟩] (q6 (q354 (q204 (q237 (q47 (q390 (q5 (hy 2196878 (q54 (hy 134 (q61 (q355 (hy 16530 (q186 (hy 4947836143104 (q0 (hy 144 (q1 (q186 (hy 2115072 (q355 (hy 567454569023122 (q186 (hy 567832823956992 (q355 (hy 146 (q2 (hy 16783 (q42 (q102 [])))))))))))))))))))))))))))))) [(455126529904428302298986, .gv (fun _ => .bool false) 0), (128106587276438692082622197436938218085, .up 12 (fq3 p kP (.ref pP) kQ (.ref pQ) kJ (.int (at_) ta) ve) .none 1), (122627580202994350266018413, .up 14 (lst (ls ++ [Value.ref n.succ.succ.succ.succ.succ.succ.succ.succ]) (le + 1)) .none 0)]) [0, 1, 12, 13, 14, 15, 16, 17, 18, 19] (.ok .next) (n + 10) (t + 39) [ef (n + 9) (tup [.ref r, .int (at_) ta, .ref nm]), ef (n + 8) (tup [sv [74] (kj 4), .int (at_) ta]), et Lt (fq0 hs ks (.ref n0) (.str (sb) ts) (.int (bg) tb) (.ref hi) (.ref pl) (.ref (n + 9)) (.ref c) (.int (at_) ta) (.ref nm) 9), et hd (fq1 hs' ks' (.ref vd) (.int 9999 (ks' 6)) (.ref rf) (.int 64 (ks' 7)) (.int (k + 1) (t + 3)) (.ref lg) 6), et vd (fq3 p kP (.ref pP) kQ (.ref pQ) kJ (.int (at_) ta) ve), et lg (lst (ls ++ [Value.ref n.succ.succ.succ.succ.succ.succ.succ.succ]) (le + 1)), ef hi (inst 589 hd), ef rf (lst [] re), ef rj (inst 208 dj), ⟨dj, { cls := .type "dict", data := .dict ⟨[eh hj kj 0 n_kind (sv n_var (kj 1)), ⟨hj 1, sv n_owner (kj 2), .none⟩, ⟨hj 2, sv n_key (kj 3), sv [74] (kj 4)⟩]⟩ 3 }, false⟩] [.up 122627580202994350266018413 [.ref lg, .ref (n + 8)] lg (lst (ls) le) (lst (ls ++ [Value.ref n.succ.succ.succ.succ.succ.succ.succ.succ]) (le + 1)) .none 0, .up 128106587276438692082622197436938218085 [.ref vd, sv [74] (kj 4), .int (at_) ta] vd (fq3 p kP (.ref pP) kQ (.ref pQ) kJ (.int (vJ) tJ) ve) (fq3 p kP (.ref pP) kQ (.ref pQ) kJ (.int (at_) ta) ve) .none 1, .gv 455126529904428302298986 [.int (k + 1) (t + 3), .int 9999 (ks' 6)] (fun _ => .bool false) 0] := by show _ = _; cases b1 <;> kernel_rfl
theorem tr_fail (p : Params) (b1 b2 : Bool) (n t : Nat) (Lt pl hi hd vd rf lg c n0 nm wy tb : Nat) (bg : Int) (hs hs' : Nat → Int) (ks ks' : Nat → Nat) (sb : Str) (ts : Nat) (k at_ : Int) (ta tk : Nat) (a r t1 : Nat) : FinI (rn p b1 b2 (inC p Lt) (testT (inT p) (inB1 p) (envAt p 614 Lt)) n t [ef c (tup [.ref a, .ref r]), ef a (tup [sv n_fail t1]), et Lt (fr9 hs ks (.ref n0) (.str sb ts) (.int bg tb) (.ref hi) (.ref pl) (.ref wy) (.ref c) (.int at_ ta) (.ref nm)), et hd (hostD hs' ks' vd rf lg k tk), ef hi (inst 589 hd)] (q289 (q356 (q145 (q135 (hy 0x4500140050a140400b (q15 (q239 (q18 (q31 (q0 (hy 133 (q0 (q66 []))))))))))))) [(455126529904428302298986, .gv (fun _ => .bool false) 0)]) [15, 16, 17] (.ok .brk) (n + 13) (t + 43) [et Lt (fq0 hs ks (.ref n0) (.str (sb) ts) (.int (bg) tb) (.ref hi) (.ref pl) .none (.ref c) (.int (at_) ta) (.ref nm) 9), et hd (fq1 hs' ks' (.ref vd) (.int 9999 (ks' 6)) (.ref rf) (.int 64 (ks' 7)) (.int (k + 1) (t + 3)) (.ref lg) 6), ef hi (inst 589 hd)] [.gv 455126529904428302298986 [.int (k + 1) (t + 3), .int 9999 (ks' 6)] (fun _ => .bool false) 0] := by show _ = _; cases b1 <;> kernel_rfl
theorem tr_failn (p : Params) (b1 b2 : Bool) (n t : Nat) (Lt pl hi hd vd rf lg c n0 nm wy tb : Nat) (bg : Int) (hs hs' : Nat → Int) (ks ks' : Nat → Nat) (sb : Str) (ts : Nat) (k at_ : Int) (ta tk : Nat) (a t1 : Nat) : FinI (rn p b1 b2 (inC p Lt) (testT (inT p) (inB1 p) (envAt p 614 Lt)) n t [ef c (tup [.ref a, .none]), ef a (tup [sv n_fail t1]), et Lt (fr9 hs ks (.ref n0) (.str sb ts) (.int bg tb) (.ref hi) (.ref pl) (.ref wy) (.ref c) (.int at_ ta) (.ref nm)), et hd (hostD hs' ks' vd rf lg k tk), ef hi (inst 589 hd)] (q289 (q356 (q145 (q135 (hy 0x4500140050a140400b (q15 (q239 (q18 (q31 (q0 (hy 133 (q0 (q66 []))))))))))))) [(455126529904428302298986, .gv (fun _ => .bool false) 0)]) [15, 16, 17] (.ok .brk) (n + 13) (t + 43) [et Lt (fq0 hs ks (.ref n0) (.str (sb) ts) (.int (bg) tb) (.ref hi) (.ref pl) .none (.ref c) (.int (at_) ta) (.ref nm) 9), et hd (fq1 hs' ks' (.ref vd) (.int 9999 (ks' 6)) (.ref rf) (.int 64 (ks' 7)) (.int (k + 1) (t + 3)) (.ref lg) 6), ef hi (inst 589 hd)] [.gv 455126529904428302298986 [.int (k + 1) (t + 3), .int 9999 (ks' 6)] (fun _ => .bool false) 0] := by show _ = _; cases b1 <;> kernel_rfl
theorem tr_any_hit (p : Params) (b1 b2 : Bool) (n t : Nat) (Lt pl hi hd vd rf lg c n0 nm wy tb : Nat) (bg : Int) (hs hs' : Nat → Int) (ks ks' : Nat → Nat) (sb : Str) (ts : Nat) (k at_ : Int) (ta tk : Nat) (a r t1 t2 ch : Nat) (cs : Str) : FinI (rn p b1 b2 (inC p Lt) (testT (inT p) (inB1 p) (envAt p 614 Lt)) n t [ef c (tup [.ref a, .ref r]), ef a (tup [sv n_any t1, .str cs t2]), et Lt (fr9 hs ks (.ref n0) (.str sb ts) (.int bg tb) (.ref hi) (.ref pl) (.ref wy) (.ref c) (.int at_ ta) (.ref nm)), et hd (hostD hs' ks' vd rf lg k tk), ef hi (inst 589 hd)] (q357 (q20 (q50 (q316 (q13 (q22 (q22 (q22 (q187 []))))))))) [(455126529904428302298986, .gv (fun _ => .bool false) 0), (7300717, .gv (fun t => .int (↑sb.length) (t + 1)) 2), (455126531311803185852266, .gv (fun _ => .bool true) 0), (500416356548588640944365259017385332, .gv (fun t => .str ({ cps := #[ch] }) t) 1), (128106709680535770272165659069392319860, .gv (fun _ => .bool true) 0)]) [0, 17, 18, 19] (.ok .next) (n + 15) (t + 78) [ef (n + 14) (tup [.ref r, .int (at_ + 1) (t + 75), .ref nm]), et Lt (fq0 hs ks (.ref n0) (.str (sb) ts) (.int (bg) tb) (.ref hi) (.ref pl) (.ref (n + 14)) (.ref c) (.int (at_) ta) (.ref nm) 9), et hd (fq1 hs' ks' (.ref vd) (.int 9999 (ks' 6)) (.ref rf) (.int 64 (ks' 7)) (.int (k + 1) (t + 3)) (.ref lg) 6), ef hi (inst 589 hd)] [.gv 128106709680535770272165659069392319860 [.str (cs) t2, sv [ch] (t + 73)] (fun _ => .bool true) 0, .gv 500416356548588640944365259017385332 [.str (sb) ts, .int (at_) ta] (fun t => .str ({ cps := #[ch] }) t) 1, .gv 455126531311803185852266 [.int (at_) ta, .int (↑sb.length) (t + 72)] (fun _ => .bool true) 0, .gv 7300717 [.str (sb) ts] (fun t => .int (↑sb.length) (t + 1)) 2, .gv 455126529904428302298986 [.int (k + 1) (t + 3), .int 9999 (ks' 6)] (fun _ => .bool false) 0] := by show _ = _; cases b1 <;> kernel_rfl
theorem tr_any_miss (p : Params) (b1 b2 : Bool) (n t : Nat) (Lt pl hi hd vd rf lg c n0 nm wy tb : Nat) (bg : Int) (hs hs' : Nat → Int) (ks ks' : Nat → Nat) (sb : Str) (ts : Nat) (k at_ : Int) (ta tk : Nat) (a r t1 t2 ch : Nat) (cs : Str) : FinI (rn p b1 b2 (inC p Lt) (testT (inT p) (inB1 p) (envAt p 614 Lt)) n t [ef c (tup [.ref a, .ref r]), ef a (tup [sv n_any t1, .str cs t2]), et Lt (fr9 hs ks (.ref n0) (.str sb ts) (.int bg tb) (.ref hi) (.ref pl) (.ref wy) (.ref c) (.int at_ ta) (.ref nm)), et hd (hostD hs' ks' vd rf lg k tk), ef hi (inst 589 hd)] (q357 (q20 (q50 (q316 (q65 (hy 2377873 [])))))) [(455126529904428302298986, .gv (fun _ => .bool false) 0), (7300717, .gv (fun t => .int (↑sb.length) (t + 1)) 2), (455126531311803185852266, .gv (fun _ => .bool true) 0), (500416356548588640944365259017385332, .gv (fun t => .str ({ cps := #[ch] }) t) 1), (128106709680535770272165659069392319860, .gv (fun _ => .bool false) 0)]) [16, 17, 18] (.ok .brk) (n + 14) (t + 76) [et Lt (fq0 hs ks (.ref n0) (.str (sb) ts) (.int (bg) tb) (.ref hi) (.ref pl) .none (.ref c) (.int (at_) ta) (.ref nm) 9), et hd (fq1 hs' ks' (.ref vd) (.int 9999 (ks' 6)) (.ref rf) (.int 64 (ks' 7)) (.int (k + 1) (t + 3)) (.ref lg) 6), ef hi (inst 589 hd)] [.gv 128106709680535770272165659069392319860 [.str (cs) t2, sv [ch] (t + 73)] (fun _ => .bool false) 0, .gv 500416356548588640944365259017385332 [.str (sb) ts, .int (at_) ta] (fun t => .str ({ cps := #[ch] }) t) 1, .gv 455126531311803185852266 [.int (at_) ta, .int (↑sb.length) (t + 72)] (fun _ => .bool true) 0, .gv 7300717 [.str (sb) ts] (fun t => .int (↑sb.length) (t + 1)) 2, .gv 455126529904428302298986 [.int (k + 1) (t + 3), .int 9999 (ks' 6)] (fun _ => .bool false) 0] := by show _ = _; cases b1 <;> kernel_rfl
theorem tr_any_end (p : Params) (b1 b2 : Bool) (n t : Nat) (Lt pl hi hd vd rf lg c n0 nm wy tb : Nat) (bg : Int) (hs hs' : Nat → Int) (ks ks' : Nat → Nat) (sb : Str) (ts : Nat) (k at_ : Int) (ta tk : Nat) (a r t1 t2 ch : Nat) (cs : Str) : FinI (rn p b1 b2 (inC p Lt) (testT (inT p) (inB1 p) (envAt p 614 Lt)) n t [ef c (tup [.ref a, .ref r]), ef a (tup [sv n_any t1, .str cs t2]), et Lt (fr9 hs ks (.ref n0) (.str sb ts) (.int bg tb) (.ref hi) (.ref pl) (.ref wy) (.ref c) (.int at_ ta) (.ref nm)), et hd (hostD hs' ks' vd rf lg k tk), ef hi (inst 589 hd)] (q357 (q20 (q50 (q252 (q4 (q65 (hy 2377873 []))))))) [(455126529904428302298986, .gv (fun _ => .bool false) 0), (7300717, .gv (fun t => .int (↑sb.length) (t + 1)) 2), (455126531311803185852266, .gv (fun _ => .bool false) 0)]) [16, 17, 18] (.ok .brk) (n + 14) (t + 75) [et Lt (fq0 hs ks (.ref n0) (.str (sb) ts) (.int (bg) tb) (.ref hi) (.ref pl) .none (.ref c) (.int (at_) ta) (.ref nm) 9), et hd (fq1 hs' ks' (.ref vd) (.int 9999 (ks' 6)) (.ref rf) (.int 64 (ks' 7)) (.int (k + 1) (t + 3)) (.ref lg) 6), ef hi (inst 589 hd)] [.gv 455126531311803185852266 [.int (at_) ta, .int (↑sb.length) (t + 72)] (fun _ => .bool false) 0, .gv 7300717 [.str (sb) ts] (fun t => .int (↑sb.length) (t + 1)) 2, .gv 455126529904428302298986 [.int (k + 1) (t + 3), .int 9999 (ks' 6)] (fun _ => .bool false) 0] := by show _ = _; cases b1 <;> kernel_rfl
theorem tr_chars (p : Params) (b1 b2 : Bool) (n t : Nat) (Lt pl hi hd vd rf lg c n0 nm wy tb : Nat) (bg : Int) (hs hs' : Nat → Int) (ks ks' : Nat → Nat) (sb : Str) (ts : Nat) (k at_ : Int) (ta tk : Nat) (a r t1 t2 : Nat) : FinI (rn p b1 b2 (inC p Lt) (testT (inT p) (inB1 p) (envAt p 614 Lt)) n t [ef c (tup [.ref a, .ref r]), ef a (tup [sv n_chars t1, sv [] t2]), et Lt (fr9 hs ks (.ref n0) (.str sb ts) (.int bg tb) (.ref hi) (.ref pl) (.ref wy) (.ref c) (.int at_ ta) (.ref nm)), et hd (hostD hs' ks' vd rf lg k tk), ef hi (inst 589 hd)] (q315 (q92 (q0 (q36 (hy 16512 (q40 (q17 (q61 (q358 (q38 (q358 (q20 (q358 (q391 (q2 (hy 131 (q98 (q22 (q22 (q22 (q187 []))))))))))))))))))))) [(455126529904428302298986, .gv (fun _ => .bool false) 0), (500416356548588640944365259017385332, .rd 0 (fun t => .str ({ cps := #[] }) t) 1)]) [0, 17, 18, 19] (.ok .next) (n + 15) (t + 70) [ef (n + 14) (tup [.ref r, .int (at_ + 0) (t + 65), .ref nm]), et Lt (fq0 hs ks (.ref n0) (.str (sb) ts) (.int (bg) tb) (.ref hi) (.ref pl) (.ref (n + 14)) (.ref c) (.int (at_) ta) (.ref nm) 9), et hd (fq1 hs' ks' (.ref vd) (.int 9999 (ks' 6)) (.ref rf) (.int 64 (ks' 7)) (.int (k + 1) (t + 3)) (.ref lg) 6), ef hi (inst 589 hd)] [.rd 500416356548588640944365259017385332 [.str (sb) ts, .ref (n + 13)] (n + 13) ({ cls := .type "slice", data := .fields ⟨[.int (at_) ta, .int (at_ + 0) (t + 65), .none]⟩ }) (fun t => .str ({ cps := #[] }) t) 1, .gv 455126529904428302298986 [.int (k + 1) (t + 3), .int 9999 (ks' 6)] (fun _ => .bool false) 0] := by show _ = _; cases b1 <;> kernel_rfl
theorem tr_charsw (p : Params) (b1 b2 : Bool) (n t : Nat) (Lt pl hi hd vd rf lg c n0 nm wy tb : Nat) (bg : Int) (hs hs' : Nat → Int) (ks ks' : Nat → Nat) (sb : Str) (ts : Nat) (k at_ : Int) (ta tk : Nat) (a r t1 t2 : Nat) : FinI (rn p b1 b2 (inC p Lt) (testT (inT p) (inB1 p) (envAt p 614 Lt)) n t [ef c (tup [.ref a, .ref r]), ef a (tup [sv n_chars t1, sv [] t2]), et Lt (fr9 hs ks (.ref n0) (.str sb ts) (.int bg tb) (.ref hi) (.ref pl) (.ref wy) (.ref c) (.int at_ ta) (.ref nm)), et hd (hostD hs' ks' vd rf lg k tk), ef hi (inst 589 hd)] (q315 (q92 (q0 (q36 (hy 16512 (q40 (q17 (q61 (q358 (q38 (q358 (q20 (q358 (q391 (q2 (hy 131 (q98 (q22 (q22 (q22 (q187 []))))))))))))))))))))) [(455126529904428302298986, .gv (fun _ => .bool false) 0), (500416356548588640944365259017385332, .rd 0 (fun _ => sv [] ts) 0)]) [0, 17, 18, 19] (.ok .next) (n + 15) (t + 69) [ef (n + 14) (tup [.ref r, .int (at_ + 0) (t + 65), .ref nm]), et Lt (fq0 hs ks (.ref n0) (.str (sb) ts) (.int (bg) tb) (.ref hi) (.ref pl) (.ref (n + 14)) (.ref c) (.int (at_) ta) (.ref nm) 9), et hd (fq1 hs' ks' (.ref vd) (.int 9999 (ks' 6)) (.ref rf) (.int 64 (ks' 7)) (.int (k + 1) (t + 3)) (.ref lg) 6), ef hi (inst 589 hd)] [.rd 500416356548588640944365259017385332 [.str (sb) ts, .ref (n + 13)] (n + 13) ({ cls := .type "slice", data := .fields ⟨[.int (at_) ta, .int (at_ + 0) (t + 65), .none]⟩ }) (fun _ => sv [] ts) 0, .gv 455126529904428302298986 [.int (k + 1) (t + 3), .int 9999 (ks' 6)] (fun _ => .bool false) 0] := by show _ = _; cases b1 <;> kernel_rfl
theorem tr_out5 (p : Params) (b1 b2 : Bool) (n t : Nat) (Lt pl hi hd vd rf lg c n0 nm wy tb : Nat) (bg : Int) (hs hs' : Nat → Int) (ks ks' : Nat → Nat) (sb : Str) (ts : Nat) (k at_ : Int) (ta tk : Nat) (xs : List Value) (pe : Nat) (v cc nn : Nat) (aa : Int) (ta2 : Nat) : FinI (rn p b1 b2 (outC p Lt) (testT (outT p) (outB1 p) (envAt p 614 Lt)) n t [ef v (tup [.ref cc, .int aa ta2, .ref nn]), ⟨Lt, fr5 hs ks (.ref n0) (.str sb ts) (.int bg tb) (.ref hi) (.ref pl), true⟩, et pl (lst (xs ++ [.ref v]) pe)] (q0 (hy 130 (q12 (hy 130 (q392 (q393 (q18 (q18 (q18 []))))))))) [(7300717, .rd 2 (fun t => .int (↑xs.length + 1) (t + 1)) 2), (455126529904428302298986, .gv (fun _ => .bool true) 0), (8174157772325415533, .up 2 (lst (xs) (pe + 1)) (.ref v) 0)]) [4, 5] (.ok .next) (n + 3) (t + 7) [et Lt (fo [eh hs ks 0 n_node (.ref n0), eh hs ks 1 n_subject (.str (sb) ts), eh hs ks 2 n_begin (.int (bg) tb), eh hs ks 3 n_host (.ref hi), eh hs ks 4 n_pile (.ref pl), ek p n_way (t + 3) (.ref v), ek p n_chain (t + 4) (.ref cc), ek p [97, 116] (t + 5) (.int (aa) ta2), ek p n_named (t + 6) (.ref nn)] 9), et pl (lst (xs) (pe + 1))] [.up 8174157772325415533 [.ref pl] pl (lst (xs ++ [Value.ref v]) pe) (lst (xs) (pe + 1)) (.ref v) 0, .gv 455126529904428302298986 [.int (↑xs.length + 1) (t + 1), .int 0 (t + 2)] (fun _ => .bool true) 0, .rd 7300717 [.ref pl] pl (lst (xs ++ [Value.ref v]) pe) (fun t => .int (↑xs.length + 1) (t + 1)) 2] := by show _ = _; cases b1 <;> kernel_rfl
theorem tr_out9 (p : Params) (b1 b2 : Bool) (n t : Nat) (Lt pl hi hd vd rf lg c n0 nm wy tb : Nat) (bg : Int) (hs hs' : Nat → Int) (ks ks' : Nat → Nat) (sb : Str) (ts : Nat) (k at_ : Int) (ta tk : Nat) (xs : List Value) (pe : Nat) (v cc nn : Nat) (aa : Int) (ta2 : Nat) : FinI (rn p b1 b2 (outC p Lt) (testT (outT p) (outB1 p) (envAt p 614 Lt)) n t [ef v (tup [.ref cc, .int aa ta2, .ref nn]), et Lt (fr9 hs ks (.ref n0) (.str sb ts) (.int bg tb) (.ref hi) (.ref pl) .none (.ref c) (.int at_ ta) (.ref nm)), et pl (lst (xs ++ [.ref v]) pe)] (q0 (hy 130 (q12 (hy 130 (q392 (q393 (q18 (q18 (q18 []))))))))) [(7300717, .rd 2 (fun t => .int (↑xs.length + 1) (t + 1)) 2), (455126529904428302298986, .gv (fun _ => .bool true) 0), (8174157772325415533, .up 2 (lst (xs) (pe + 1)) (.ref v) 0)]) [4, 5] (.ok .next) (n + 3) (t + 7) [et Lt (fq0 hs ks (.ref n0) (.str (sb) ts) (.int (bg) tb) (.ref hi) (.ref pl) (.ref v) (.ref cc) (.int (aa) ta2) (.ref nn) 9), et pl (lst (xs) (pe + 1))] [.up 8174157772325415533 [.ref pl] pl (lst (xs ++ [Value.ref v]) pe) (lst (xs) (pe + 1)) (.ref v) 0, .gv 455126529904428302298986 [.int (↑xs.length + 1) (t + 1), .int 0 (t + 2)] (fun _ => .bool true) 0, .rd 7300717 [.ref pl] pl (lst (xs ++ [Value.ref v]) pe) (fun t => .int (↑xs.length + 1) (t + 1)) 2] := by show _ = _; cases b1 <;> kernel_rfl
theorem tr_out_end (p : Params) (b1 b2 : Bool) (n t : Nat) (Lt pl hi hd vd rf lg c n0 nm wy tb : Nat) (bg : Int) (hs hs' : Nat → Int) (ks ks' : Nat → Nat) (sb : Str) (ts : Nat) (k at_ : Int) (ta tk : Nat) (pe : Nat) : FinI (rn p b1 b2 (outC p Lt) (testT (outT p) (outB1 p) (envAt p 614 Lt)) n t [et Lt (fr9 hs ks (.ref n0) (.str sb ts) (.int bg tb) (.ref hi) (.ref pl) .none (.ref c) (.int at_ ta) (.ref nm)), et pl (lst [] pe)] (q0 (q13 (hy 130 (q8 (q8 (q0 [])))))) []) [0, 1] (.ok .brk) n (t + 3) [et Lt (fq0 hs ks (.ref n0) (.str (sb) ts) (.int (bg) tb) (.ref hi) (.ref pl) .none (.ref c) (.int (at_) ta) (.ref nm) 9), et pl (lst [] pe)] [] := by show _ = _; cases b1 <;> kernel_rfl
theorem tr_if (p : Params) (b1 b2 : Bool) (n t : Nat) (Lt pl hi hd vd rf lg c n0 nm wy tb : Nat) (bg : Int) (hs hs' : Nat → Int) (ks ks' : Nat → Nat) (sb : Str) (ts : Nat) (k at_ : Int) (ta tk : Nat) : FinI (rn p b1 b2 (outC p Lt) (execsT (outB3 p) (envAt p 614 Lt)) n t [et Lt (fr9 hs ks (.ref n0) (.str sb ts) (.int bg tb) (.ref hi) (.ref pl) .none (.ref c) (.int at_ ta) (.ref nm))] (hy 129 []) []) [0] (.ok .next) n t [et Lt (fq0 hs ks (.ref n0) (.str (sb) ts) (.int (bg) tb) (.ref hi) (.ref pl) .none (.ref c) (.int (at_) ta) (.ref nm) 9)] [] := by show _ = _; cases b1 <;> kernel_rfl
theorem tr_way (p : Params) (b1 b2 : Bool) (n t : Nat) (Lt pl hi hd vd rf lg c n0 nm wy tb : Nat) (bg : Int) (hs hs' : Nat → Int) (ks ks' : Nat → Nat) (sb : Str) (ts : Nat) (k at_ : Int) (ta tk : Nat) : FinI (rn p b1 b2 (inC p Lt) (evalT (ifL (lostS p)) (envAt p 614 Lt)) n t [et Lt (fr9 hs ks (.ref n0) (.str sb ts) (.int bg tb) (.ref hi) (.ref pl) (.ref wy) (.ref c) (.int at_ ta) (.ref nm))] (hy 129 []) []) [0] (.ok (.ret (.ref wy))) n t [et Lt (fq0 hs ks (.ref n0) (.str (sb) ts) (.int (bg) tb) (.ref hi) (.ref pl) (.ref wy) (.ref c) (.int (at_) ta) (.ref nm) 9)] [] := by show _ = _; cases b1 <;> kernel_rfl
theorem tr_lost (p : Params) (b1 b2 : Bool) (n t : Nat) (Lt pl hi hd vd rf lg c n0 nm wy tb : Nat) (bg : Int) (hs hs' : Nat → Int) (ks ks' : Nat → Nat) (sb : Str) (ts : Nat) (k at_ : Int) (ta tk : Nat) : FinI (rn p b1 b2 (inC p Lt) (evalT (ifR (lostS p)) (envAt p 614 Lt)) n t [et Lt (fr9 hs ks (.ref n0) (.str sb ts) (.int bg tb) (.ref hi) (.ref pl) (.ref wy) (.ref c) (.int at_ ta) (.ref nm))] (hy 128 []) []) [0] (.ok (.ret (sv n_lost 1077))) n t [et Lt (fq0 hs ks (.ref n0) (.str (sb) ts) (.int (bg) tb) (.ref hi) (.ref pl) (.ref wy) (.ref c) (.int (at_) ta) (.ref nm) 9)] [] := by show _ = _; cases b1 <;> kernel_rfl
theorem tr_take (p : Params) (b1 b2 : Bool) (n t : Nat) (Lt pl hi hd vd rf lg c n0 nm wy tb : Nat) (bg : Int) (hs hs' : Nat → Int) (ks ks' : Nat → Nat) (sb : Str) (ts : Nat) (k at_ : Int) (ta tk : Nat) (cc nn : Nat) (aa : Int) (ta2 : Nat) : FinI (rn p b1 b2 (inC p Lt) (execsT (inB3 p) (envAt p 614 Lt)) n t [ef wy (tup [.ref cc, .int aa ta2, .ref nn]), et Lt (fr9 hs ks (.ref n0) (.str sb ts) (.int bg tb) (.ref hi) (.ref pl) (.ref wy) (.ref c) (.int at_ ta) (.ref nm))] (q43 (q87 (q43 (hy 130 (q20 (q18 (q18 (q18 [])))))))) []) [4] (.ok .next) (n + 3) (t + 3) [et Lt (fq0 hs ks (.ref n0) (.str (sb) ts) (.int (bg) tb) (.ref hi) (.ref pl) (.ref wy) (.ref cc) (.int (aa) ta2) (.ref nn) 9)] [] := by show _ = _; cases b1 <;> kernel_rfl
end
section
open PySem PySem.W PySem.W.X PySem.Calls PySem.Spec PyProof.Rows
inductive Nd where
  | any (cs : List Nat)
  | fail
  | chars
  | cat (x y : Nd)
  | alt (x y : Nd)
  | delay (q : Bool)
  | cursor
noncomputable abbrev cP : List Nat := [80]
structure TF where
  Lt : Nat
  pl : Nat
  hi : Nat
  hd : Nat
  vd : Nat
  rf : Nat
  lg : Nat
  n0 : Nat
  nm : Nat
  ts : Nat
  tb : Nat
  bg : Int
  hs' : Nat → Int
  ks' : Nat → Nat
  sb : List Nat
  kP : Nat
  kQ : Nat
  pP : Nat
  pQ : Nat
  dP : Nat
  dQ : Nat
  nP : Nat
  nQ : Nat
  kpP : Nat
  kpQ : Nat
  hpP : Nat → Int
  hpQ : Nat → Int
  re : Nat
  rj : Nat
  dj : Nat
  hj : Nat → Int
  kj : Nat → Nat
  h0 : Heap
  body : Bool → Nd
variable {F : TF}
noncomputable abbrev TF.sbS (F : TF) : Str := ⟨⟨F.sb⟩⟩
noncomputable def NdAt (F : TF) (h : Heap) : Nd → Addr → Prop
  | .any cs, a => ∃ t1 t2, h.get? a = some (tup [sv n_any t1, sv cs t2])
  | .fail, a => ∃ t1, h.get? a = some (tup [sv n_fail t1])
  | .chars, a => ∃ t1 t2, h.get? a = some (tup [sv n_chars t1, sv [] t2])
  | .cat x y, a => ∃ t1 ax ay, h.get? a = some (tup [sv n_cat t1, .ref ax, .ref ay]) ∧ NdAt F h x ax ∧ NdAt F h y ay
  | .alt x y, a => ∃ t1 ax ay, h.get? a = some (tup [sv n_alt t1, .ref ax, .ref ay]) ∧ NdAt F h x ax ∧ NdAt F h y ay
  | .delay q, a => ∃ t1 u t2 t3, h.get? a = some (tup [sv n_delay t1, .ref u]) ∧ h.get? u = some (tup [sv n_name t2, sv [if q then 81 else 80] t3])
  | .cursor, a => ∃ t1, h.get? a = some (tup [sv n_cursor t1, .ref F.rj])
noncomputable def ChV (F : TF) (h : Heap) : List Nd → Value → Prop
  | [], v => v = .none
  | x :: l, v => ∃ c a r, v = .ref c ∧ h.get? c = some (tup [.ref a, r]) ∧ NdAt F h x a ∧ ChV F h l r
noncomputable def PileAt (F : TF) (h : Heap) : List (List Nd × Nat) → List Value → Prop
  | [], vs => vs = []
  | (ch, at_) :: st, vs => ∃ vs' v c t, vs = vs' ++ [.ref v] ∧ h.get? v = some (tup [.ref c, .int at_ t, .ref F.nm]) ∧ ChV F h ch (.ref c) ∧ PileAt F h st vs'
noncomputable def LogAt (h : Heap) : List Nat → List Value → Prop
  | [], vs => vs = []
  | a :: l, vs => ∃ vs' e t t', vs = vs' ++ [.ref e] ∧ h.get? e = some (tup [sv [74] t, .int a t']) ∧ LogAt h l vs'
noncomputable def Ts (s s' : Heap) : Prop := ∀ a l, s.get? a = some (tup l) → s'.get? a = some (tup l)
theorem NdAt.mono {h h' : Heap} (T : Ts h h') : ∀ {x : Nd} {a : Addr}, NdAt F h x a → NdAt F h' x a
  | .any cs, a, ⟨t1, t2, e⟩ => ⟨t1, t2, T _ _ e⟩
  | .fail, a, ⟨t1, e⟩ => ⟨t1, T _ _ e⟩
  | .chars, a, ⟨t1, t2, e⟩ => ⟨t1, t2, T _ _ e⟩
  | .cat x y, a, ⟨t1, ax, ay, e, hx, hy⟩ => ⟨t1, ax, ay, T _ _ e, hx.mono T, hy.mono T⟩
  | .alt x y, a, ⟨t1, ax, ay, e, hx, hy⟩ => ⟨t1, ax, ay, T _ _ e, hx.mono T, hy.mono T⟩
  | .delay q, a, ⟨t1, u, t2, t3, e, e2⟩ => ⟨t1, u, t2, t3, T _ _ e, T _ _ e2⟩
  | .cursor, a, ⟨t1, e⟩ => ⟨t1, T _ _ e⟩
theorem ChV.mono {h h' : Heap} (T : Ts h h') : ∀ {l : List Nd} {v : Value}, ChV F h l v → ChV F h' l v
  | [], _, e => e
  | x :: l, _, ⟨c, a, r, e1, e2, e3, e4⟩ => ⟨c, a, r, e1, T _ _ e2, e3.mono T, ChV.mono T e4⟩
theorem PileAt.mono {h h' : Heap} (T : Ts h h') : ∀ {l : List (List Nd × Nat)} {v : List Value}, PileAt F h l v → PileAt F h' l v
  | [], _, e => e
  | (ch, at_) :: l, _, ⟨vs', v, c, t, e1, e2, e3, e4⟩ => ⟨vs', v, c, t, e1, T _ _ e2, e3.mono T, PileAt.mono T e4⟩
theorem LogAt.mono {h h' : Heap} (T : Ts h h') : ∀ {l : List Nat} {v : List Value}, LogAt h l v → LogAt h' l v
  | [], _, e => e
  | a :: l, _, ⟨vs', v, t, t', e1, e2, e3⟩ => ⟨vs', v, t, t', e1, T _ _ e2, LogAt.mono T e3⟩
theorem PileAt.len {h : Heap} : ∀ {l : List (List Nd × Nat)} {v : List Value}, PileAt F h l v → v.length = l.length
  | [], _, e => by rw [show _ = [] from e]; rfl
  | (ch, at_) :: l, _, ⟨vs', v, c, t, e1, _, _, e4⟩ => by rw [e1, List.length_append, PileAt.len e4]; rfl
theorem LogAt.len {h : Heap} : ∀ {l : List Nat} {v : List Value}, LogAt h l v → v.length = l.length
  | [], _, e => by rw [show _ = [] from e]; rfl
  | a :: l, _, ⟨vs', v, t, t', e1, _, e4⟩ => by rw [e1, List.length_append, LogAt.len e4]; rfl
noncomputable abbrev TF.vd0 (F : TF) (p : Params) (ve : Nat) : Obj := { cls := .type "dict", data := .dict ⟨[⟨kh p [80], sv [80] F.kP, .ref F.pP⟩, ⟨kh p [81], sv [81] F.kQ, .ref F.pQ⟩]⟩ ve }
noncomputable abbrev TF.vd1 (F : TF) (p : Params) (ve kJ : Nat) (vJ : Int) (tJ : Nat) : Obj := { cls := .type "dict", data := .dict ⟨[⟨kh p [80], sv [80] F.kP, .ref F.pP⟩, ⟨kh p [81], sv [81] F.kQ, .ref F.pQ⟩, ek p [74] kJ (.int vJ tJ)]⟩ ve }
noncomputable def VdOk (p : Params) (F : TF) (o : Obj) : Prop := (∃ ve, o = F.vd0 p ve) ∨ (∃ ve kJ vJ tJ, o = F.vd1 p ve kJ vJ tJ)
noncomputable abbrev patD (hp : Nat → Int) (kp nd : Nat) : Obj := { cls := .type "dict", data := .dict ⟨[⟨hp 0, sv n_node kp, .ref nd⟩]⟩ 1 }
noncomputable abbrev refDT (hj : Nat → Int) (kj : Nat → Nat) : Obj := { cls := .type "dict", data := .dict ⟨[eh hj kj 0 n_kind (sv n_var (kj 1)), ⟨hj 1, sv n_owner (kj 2), .none⟩, ⟨hj 2, sv n_key (kj 3), sv [74] (kj 4)⟩]⟩ 3 }
noncomputable def TF.fix (F : TF) : List En := [⟨F.hi, inst 589 F.hd, false⟩, ⟨F.rf, lst [] F.re, false⟩, ⟨F.pP, inst 166 F.dP, false⟩, ⟨F.dP, patD F.hpP F.kpP F.nP, false⟩, ⟨F.pQ, inst 166 F.dQ, false⟩, ⟨F.dQ, patD F.hpQ F.kpQ F.nQ, false⟩,
  ⟨F.rj, inst 208 F.dj, false⟩, ⟨F.dj, refDT F.hj F.kj, false⟩]
noncomputable def TF.TL (F : TF) (fo vo : Obj) (ls : List Value) (le : Nat) (vs : List Value) (pe : Nat) (k : Int) (tk : Nat) : List En :=
  ⟨F.Lt, fo, true⟩ :: ⟨F.hd, hostD F.hs' F.ks' F.vd F.rf F.lg k tk, true⟩ :: ⟨F.vd, vo, true⟩ :: ⟨F.lg, lst ls le, true⟩ :: ⟨F.pl, lst vs pe, true⟩ :: F.fix
structure TB (Y : Cy) (F : TF) (fo : Obj) (st : List (List Nd × Nat)) (k : Nat) (log : List Nat) (s : Shared) (vo : Obj) (ls : List Value) (le : Nat) (vs : List Value) (pe tk : Nat) : Prop where
  inv : Inv Y.x s (F.TL fo vo ls le vs pe k tk)
  hpile : PileAt F s.heap st vs
  hlog : LogAt s.heap log ls
  vd : VdOk Y.p F vo
  nP : NdAt F s.heap (F.body false) F.nP
  nQ : NdAt F s.heap (F.body true) F.nQ
  kp : ∀ b o, F.h0.get? b = some o → b ∉ [F.Lt, F.hd, F.vd, F.lg, F.pl] → s.heap.get? b = some o
  grow : F.h0.objs.size ≤ s.heap.objs.size
  bp : st.length ≤ k + 1
  bl : log.length ≤ k
noncomputable abbrev TF.fr (F : TF) (hs : Nat → Int) (ks : Nat → Nat) (way : Value) (c : Nat) (at_ : Int) (ta : Nat) : Obj :=
  fr9 hs ks (.ref F.n0) (.str F.sbS F.ts) (.int F.bg F.tb) (.ref F.hi) (.ref F.pl) way (.ref c) (.int at_ ta) (.ref F.nm)
noncomputable abbrev TF.f5 (F : TF) (hs : Nat → Int) (ks : Nat → Nat) : Obj := fr5 hs ks (.ref F.n0) (.str F.sbS F.ts) (.int F.bg F.tb) (.ref F.hi) (.ref F.pl)
noncomputable def TIn (Y : Cy) (F : TF) (ch : List Nd) (at_ : Nat) (st : List (List Nd × Nat)) (k : Nat) (log : List Nat) (s : Shared) : Prop :=
  ∃ hs ks wy c ta vo ls le vs pe tk, TB Y F (F.fr hs ks (.ref wy) c at_ ta) st k log s vo ls le vs pe tk ∧ ChV F s.heap ch (.ref c)
noncomputable def TOut (Y : Cy) (F : TF) (st : List (List Nd × Nat)) (k : Nat) (log : List Nat) (s : Shared) : Prop :=
  ∃ hs ks c at_ ta vo ls le vs pe tk, TB Y F (F.fr hs ks .none c at_ ta) st k log s vo ls le vs pe tk
section
variable {Y : Cy} {s s' : Shared} {A : Around} {d u : Nat} {R : Result → Shared → Prop} {fo fo' : Obj} {st : List (List Nd × Nat)} {k : Nat} {log : List Nat} {vo : Obj} {ls : List Value} {le : Nat} {vs : List Value} {pe tk : Nat}
theorem TF.mut (F : TF) {b : Addr} (hb : b ∉ [F.Lt, F.hd, F.vd, F.lg, F.pl]) {fo vo ls le vs pe k tk} : ∀ e ∈ F.TL fo vo ls le vs pe k tk, e.m = true → e.a ≠ b := by
  intro e he hm
  unfold TF.TL TF.fix at he
  simp only [List.mem_cons, List.not_mem_nil, or_false] at he hb
  rcases he with rfl | rfl | rfl | rfl | rfl | rfl | rfl | rfl | rfl | rfl | rfl | rfl | rfl
  all_goals first | (cases hm; done) | (intro e; apply hb; simp [← e])
theorem TB.next (T : TB Y F fo st k log s vo ls le vs pe tk) {kk : Int} {tk0 : Nat} (T' : Tr (F.TL fo vo ls le vs pe kk tk0) s s') (hk : kk = k ∧ tk0 = tk) {st' log' k' vo' ls' le' vs' pe' tk'}
    (I : Inv Y.x s' (F.TL fo' vo' ls' le' vs' pe' (k' : Nat) tk')) (hp : PileAt F s'.heap st' vs') (hl : LogAt s'.heap log' ls') (hv : VdOk Y.p F vo') (b1 : st'.length ≤ k' + 1) (b2 : log'.length ≤ k') :
    TB Y F fo' st' k' log' s' vo' ls' le' vs' pe' tk' := by
  obtain ⟨rfl, rfl⟩ := hk
  have ts : Ts s.heap s'.heap := fun a l h => T.inv.tup T' h
  exact ⟨I, hp, hl, hv, T.nP.mono ts, T.nQ.mono ts, fun b o hb hn => T'.keep b o (T.kp b o hb hn) (F.mut hn), Nat.le_trans T.grow T'.size, b1, b2⟩
theorem TB.ts (T : TB Y F fo st k log s vo ls le vs pe tk) (T' : Tr (F.TL fo vo ls le vs pe k tk) s s') : Ts s.heap s'.heap := fun a l h => T.inv.tup T' h
end
end
section
open PySem PySem.W PySem.W.X PySem.Calls PySem.Spec PyProof.Rows
theorem inB2_eq (P : Params) : inB2 P = lostS P :: inB3 P := by kernel_rfl
theorem lost_parts (P : Params) : ifParts (lostS P) = some (ifL (lostS P), .Eq, ifR (lostS P), ifP (lostS P), ifB (lostS P), ifQ (lostS P)) := by kernel_rfl
theorem lost_marks (P : Params) : behindInMarks .Eq (ifR (lostS P)) = false := by kernel_rfl
section
variable {Y : Cy} {F : TF} {s s' : Shared} {A : Around} {d u : Nat} {R : Result → Shared → Prop}
theorem behind (O : Y.x.Ok) (hd : d ≤ 500) (hu : u ≤ 9000) (hA : AB d u A) {hs ks c at_ ta wy cc aa ta2} {H : List En}
    (I : Inv Y.x s (⟨F.Lt, F.fr hs ks (.ref wy) c at_ ta, true⟩ :: H)) (hw : s.heap.get? wy = some (tup [.ref cc, .int aa ta2, .ref F.nm]))
    (K : ∀ s', Inv Y.x s' (⟨F.Lt, F.fr hs ks (.ref wy) cc aa ta2, true⟩ :: H) → Tr (⟨F.Lt, F.fr hs ks (.ref wy) c at_ ta, true⟩ :: H) s s' → codeAny Y.x.M A (inC Y.p F.Lt) R s') :
    wpOwn Y.x.M A (inC Y.p F.Lt) (execs (inB2 Y.p) (envAt Y.p 614 F.Lt)) (After Y.x A (inC Y.p F.Lt) R) (fun _ _ => False) s := by
  have key : ∀ (n t : Nat) (v : Value) (N : Nat) (e : PySem.Expr) (hs0 : List Nat) (s : Shared), Inv Y.x s (⟨F.Lt, F.fr hs ks (.ref wy) c at_ ta, true⟩ :: H) → True := fun _ _ _ _ _ _ _ _ => trivial
  rw [inB2_eq, ifParts_eq (lost_parts Y.p)]
  refine own_execs_append (b₁ := [_]) (own_execs_one (own_If (own_isTrue_Compare1 ?_ (lost_marks Y.p))))
  refine wpOwn_mono (own_evalT (X := Y.x) (R := fun r' s1 => ∃ v, r' = .ok (.ret v) ∧ v = .ref wy ∧ Inv Y.x s1 (⟨F.Lt, F.fr hs ks (.ref wy) c at_ ta, true⟩ :: H) ∧ Tr (⟨F.Lt, F.fr hs ks (.ref wy) c at_ ta, true⟩ :: H) s s1)
    (tgo O hd hA I [true] [] (by simp) (tr_way Y.p Y.b1 Y.b2 s.heap.objs.size s.toks F.Lt F.pl F.hi 0 0 0 0 c F.n0 F.nm wy F.tb F.bg hs hs ks ks F.sbS F.ts 0 at_ ta 0) trivial fun s1 I1 T1 _ => ⟨_, rfl, rfl, I1, T1⟩)) (fun v s1 k => ?_) fun _ _ h => ?_
  rotate_left
  · obtain ⟨v, h, _⟩ := h; cases h
  obtain ⟨v, h, rfl, I1, T1⟩ := k
  cases h
  refine wpOwn_mono (own_evalT (X := Y.x) (R := fun r' s2 => ∃ v, r' = .ok (.ret v) ∧ (∃ x t, v = .str x t) ∧ Inv Y.x s2 (⟨F.Lt, F.fr hs ks (.ref wy) c at_ ta, true⟩ :: H) ∧ Tr (⟨F.Lt, F.fr hs ks (.ref wy) c at_ ta, true⟩ :: H) s1 s2)
    (tgo O hd hA I1 [true] [] (by simp) (tr_lost Y.p Y.b1 Y.b2 s1.heap.objs.size s1.toks F.Lt F.pl F.hi 0 0 0 0 c F.n0 F.nm wy F.tb F.bg hs hs ks ks F.sbS F.ts 0 at_ ta 0) trivial fun s2 I2 T2 _ => ⟨_, rfl, ⟨_, _, rfl⟩, I2, T2⟩)) (fun v s2 k => ?_) fun _ _ h => ?_
  rotate_left
  · obtain ⟨v, h, _⟩ := h; cases h
  obtain ⟨v, h, ⟨x, t, rfl⟩, I2, T2⟩ := k
  cases h
  have hw1 := I.tup T1 hw
  have hw2 := I1.tup T2 hw1
  have hunits : (A.under (inC Y.p F.Lt)).units < cLine := by
    have h1 := hA.units
    have h2 := units_le (inC Y.p F.Lt)
    show A.units + (inC Y.p F.Lt).cUnits < 9900
    omega
  refine wpOwn_of_wpAny (PySem.SeqAt.RcAt.tuple_str (items := ⟨[.ref cc, .int aa ta2, .ref F.nm]⟩) x t ⟨_, hw2, rfl, 0, rfl⟩ hunits _ _ _ _ ?_)
  refine wpOwn_of_wpAny (wpAny_truthy_bool ?_)
  simp only [Bool.false_eq_true, if_false]
  refine own_execs_nil ?_
  refine wpOwn_mono (own_execsT (X := Y.x) (R := fun r' s3 => r' = .ok .next ∧ Inv Y.x s3 (⟨F.Lt, F.fr hs ks (.ref wy) cc aa ta2, true⟩ :: H) ∧ Tr (⟨F.Lt, F.fr hs ks (.ref wy) c at_ ta, true⟩ :: H) s2 s3)
    (tgo O hd hA I2 [true] [(wy, [.ref cc, .int aa ta2, .ref F.nm])] (by simpa using hw2) (tr_take Y.p Y.b1 Y.b2 s2.heap.objs.size s2.toks F.Lt F.pl F.hi 0 0 0 0 c F.n0 F.nm wy F.tb F.bg hs hs ks ks F.sbS F.ts 0 at_ ta 0 cc F.nm aa ta2) trivial fun s3 I3 T3 _ => ⟨rfl, I3, T3⟩)) (fun f s3 k => ?_) fun _ _ h => ?_
  rotate_left
  · cases h.1
  obtain ⟨h, I3, T3⟩ := k
  cases h
  exact K s3 I3 ⟨fun b o h n => T3.keep b o (T2.keep b o (T1.keep b o h n) n) n, Nat.le_trans T1.size (Nat.le_trans T2.size T3.size)⟩
end
end
section
open PySem PySem.W PySem.W.X PySem.Calls PySem.Spec PyProof.Rows
section
variable {Y : Cy} {F : TF} {s s1 : Shared} {A : Around} {d u : Nat} {R : Result → Shared → Prop} {fo : Obj} {st st' : List (List Nd × Nat)} {k k' : Nat} {log log' : List Nat} {vo vo' : Obj} {ls ls' : List Value} {le le' : Nat} {vs vs' : List Value} {pe tk pe' tk' : Nat}
theorem after_way (O : Y.x.Ok) (hd : d ≤ 500) (hu : u ≤ 9000) (hA : AB d u A) (T : TB Y F fo st k log s vo ls le vs pe tk) (T1 : Tr (F.TL fo vo ls le vs pe k tk) s s1) {hs ks wy c at_ ta}
    (I1 : Inv Y.x s1 (F.TL (F.fr hs ks (.ref wy) c at_ ta) vo' ls' le' vs' pe' (k' : Nat) tk')) (hpl : PileAt F s1.heap st' vs') (hlg : LogAt s1.heap log' ls') (hv : VdOk Y.p F vo') (b1 : st'.length ≤ k' + 1) (b2 : log'.length ≤ k')
    {cc : Nat} {aa : Int} {ta2 at' : Nat} {ch : List Nd} (hw : s1.heap.get? wy = some (tup [.ref cc, .int aa ta2, .ref F.nm])) (hch : ChV F s1.heap ch (.ref cc)) (haa : aa = (at' : Nat))
    (K : ∀ s', TIn Y F ch at' st' k' log' s' → codeAny Y.x.M A (inC Y.p F.Lt) R s') :
    wpOwn Y.x.M A (inC Y.p F.Lt) (execs (inB2 Y.p) (envAt Y.p 614 F.Lt)) (After Y.x A (inC Y.p F.Lt) R) (fun _ _ => False) s1 := by
  subst haa
  have B1 := T.next T1 ⟨rfl, rfl⟩ I1 hpl hlg hv b1 b2
  refine behind O hd hu hA (H := (F.TL (F.fr hs ks (.ref wy) c at_ ta) vo' ls' le' vs' pe' (k' : Nat) tk').tail) B1.inv hw fun s2 I2 T2 => ?_
  have ts := B1.ts T2
  exact K s2 ⟨hs, ks, wy, cc, ta2, vo', ls', le', vs', pe', tk', B1.next T2 ⟨rfl, rfl⟩ I2 (hpl.mono ts) (hlg.mono ts) hv b1 b2, hch.mono ts⟩
variable {at_ : Nat} {x y : Nd} {l : List Nd}
theorem ChV.refs {h : Heap} {v : Value} (C : ChV F h l v) (hl : l ≠ []) : ∃ r, v = .ref r := by
  cases l with
  | nil => exact absurd rfl hl
  | cons x l => obtain ⟨c, _, _, e, _⟩ := C; exact ⟨c, e⟩
theorem turn_cat (O : Y.x.Ok) (hd : d ≤ 500) (hu : u ≤ 9000) (hA : AB d u A) (T : TIn Y F (.cat x y :: l) at_ st k log s) (hk : k + 1 ≤ 9999)
    (K : ∀ s', TIn Y F (x :: y :: l) at_ st (k + 1) log s' → codeAny Y.x.M A (inC Y.p F.Lt) R s') : codeAny Y.x.M A (inC Y.p F.Lt) R s := by
  obtain ⟨hs, ks, wy, c, ta, vo, ls, le, vs, pe, tk, T, C⟩ := T
  obtain ⟨_, a, r, hc, e1, ⟨t1, ax, ay, e2, hx, hy⟩, hl⟩ := C
  cases hc
  refine while_turn (b₁ := inB1 Y.p) (b₂ := inB2 Y.p) ?_
  have hgt : decide ((k : Int) + 1 > 9999) = false := by simp; omega
  cases l with
  | nil =>
    cases (show r = .none from hl)
    refine tgo O hd hA T.inv [true, true, false, false, false, true] [(c, [.ref a, .none]), (a, [sv n_cat t1, .ref ax, .ref ay])] (by simp [e1, e2]) (tr_catn Y.p Y.b1 Y.b2 s.heap.objs.size s.toks F.Lt F.pl F.hi F.hd F.vd F.rf F.lg c F.n0 F.nm wy F.tb F.bg hs F.hs' ks F.ks' F.sbS F.ts k at_ ta tk a ax ay t1) ⟨oc_gt hgt, trivial⟩ fun s1 I1 T1 _ => ?_
    have ts := T.ts T1
    have I2 := Inv.back [true, true, false, false, false, true] (F.TL (F.fr hs ks (.ref (s.heap.objs.size + 9)) c at_ ta) vo ls le vs pe ((k + 1 : Nat) : Int) (s.toks + 3)) 3 I1 rfl rfl
    exact after_way O hd hu hA T T1 I2 (T.hpile.mono ts) (T.hlog.mono ts) T.vd (Nat.le_succ_of_le T.bp) (Nat.le_succ_of_le T.bl) (ch := x :: y :: []) (at' := at_) (Inv.tups I1 (.head _)) ⟨_, _, _, rfl, Inv.tups I1 (.tail _ (.head _)), hx.mono ts, ⟨_, _, _, rfl, Inv.tups I1 (.tail _ (.tail _ (.head _))), hy.mono ts, rfl⟩⟩ rfl K
  | cons z l =>
    obtain ⟨r, rfl⟩ := hl.refs (by simp)
    refine tgo O hd hA T.inv [true, true, false, false, false, true] [(c, [.ref a, .ref r]), (a, [sv n_cat t1, .ref ax, .ref ay])] (by simp [e1, e2]) (tr_cat Y.p Y.b1 Y.b2 s.heap.objs.size s.toks F.Lt F.pl F.hi F.hd F.vd F.rf F.lg c F.n0 F.nm wy F.tb F.bg hs F.hs' ks F.ks' F.sbS F.ts k at_ ta tk a r ax ay t1) ⟨oc_gt hgt, trivial⟩ fun s1 I1 T1 _ => ?_
    have ts := T.ts T1
    have I2 := Inv.back [true, true, false, false, false, true] (F.TL (F.fr hs ks (.ref (s.heap.objs.size + 9)) c at_ ta) vo ls le vs pe ((k + 1 : Nat) : Int) (s.toks + 3)) 3 I1 rfl rfl
    exact after_way O hd hu hA T T1 I2 (T.hpile.mono ts) (T.hlog.mono ts) T.vd (Nat.le_succ_of_le T.bp) (Nat.le_succ_of_le T.bl) (ch := x :: y :: _) (at' := at_) (Inv.tups I1 (.head _)) ⟨_, _, _, rfl, Inv.tups I1 (.tail _ (.head _)), hx.mono ts, ⟨_, _, _, rfl, Inv.tups I1 (.tail _ (.tail _ (.head _))), hy.mono ts, hl.mono ts⟩⟩ rfl K
theorem turn_alt (O : Y.x.Ok) (hd : d ≤ 500) (hu : u ≤ 9000) (hA : AB d u A) (T : TIn Y F (.alt x y :: l) at_ st k log s) (hk : k + 1 ≤ 9999) (hl0 : l ≠ [])
    (K : ∀ s', TIn Y F (x :: l) (at_) ((y :: l, at_) :: st) (k + 1) (log) s' → codeAny Y.x.M A (inC Y.p F.Lt) R s') : codeAny Y.x.M A (inC Y.p F.Lt) R s := by
  obtain ⟨hs, ks, wy, c, ta, vo, ls, le, vs, pe, tk, T, C⟩ := T
  obtain ⟨_, a, r, hc, e1, ⟨t1, ax, ay, e2, hx, hy⟩, hl⟩ := C
  cases hc
  obtain ⟨r, rfl⟩ := hl.refs hl0
  refine while_turn (b₁ := inB1 Y.p) (b₂ := inB2 Y.p) ?_
  have hgt : decide ((k : Int) + 1 > 9999) = false := by simp; omega
  refine tgo O hd hA T.inv [true, true, false, false, true, true] [(c, [.ref a, .ref r]), (a, [sv n_alt t1, .ref ax, .ref ay])] (by simp [e1, e2]) (tr_alt Y.p Y.b1 Y.b2 s.heap.objs.size s.toks F.Lt F.pl F.hi F.hd F.vd F.rf F.lg c F.n0 F.nm wy F.tb F.bg hs F.hs' ks F.ks' F.sbS F.ts k at_ ta tk a r ax ay t1 vs pe) ⟨oc_append (by have := T.hpile.len; have := T.bp; omega), oc_gt hgt, trivial⟩ fun s1 I1 T1 _ => ?_
  have ts := T.ts T1
  have I2 := Inv.back [true, true, false, false, true, true] (F.TL (F.fr hs ks (.ref (s.heap.objs.size + 10)) c at_ ta) vo ls le (vs ++ [.ref (s.heap.objs.size + 8)]) (pe + 1) ((k + 1 : Nat) : Int) (s.toks + 3)) 4 I1 rfl rfl
  exact after_way O hd hu hA T T1 I2 (st' := (y :: l, at_) :: st) ⟨vs, _, _, _, rfl, Inv.tups I1 (.tail _ (.tail _ (.head _))), ⟨_, _, _, rfl, Inv.tups I1 (.tail _ (.tail _ (.tail _ (.head _)))), hy.mono ts, hl.mono ts⟩, T.hpile.mono ts⟩ (T.hlog.mono ts) T.vd (Nat.succ_le_succ T.bp) (Nat.le_succ_of_le T.bl) (ch := x :: l) (at' := at_) (Inv.tups I1 (.head _)) ⟨_, _, _, rfl, Inv.tups I1 (.tail _ (.head _)), hx.mono ts, hl.mono ts⟩ rfl K
theorem turn_delay {q : Bool} (O : Y.x.Ok) (hd : d ≤ 500) (hu : u ≤ 9000) (hA : AB d u A) (T : TIn Y F (.delay q :: l) at_ st k log s) (hk : k + 1 ≤ 9999) (hl0 : l ≠ [])
    (K : ∀ s', TIn Y F (F.body q :: l) (at_) (st) (k + 1) (log) s' → codeAny Y.x.M A (inC Y.p F.Lt) R s') : codeAny Y.x.M A (inC Y.p F.Lt) R s := by
  obtain ⟨hs, ks, wy, c, ta, vo, ls, le, vs, pe, tk, T, C⟩ := T
  obtain ⟨_, a, r, hc, e1, ⟨t1, v, t2, t3, e2, e3⟩, hl⟩ := C
  cases hc
  obtain ⟨r, rfl⟩ := hl.refs hl0
  refine while_turn (b₁ := inB1 Y.p) (b₂ := inB2 Y.p) ?_
  have hgt : decide ((k : Int) + 1 > 9999) = false := by simp; omega
  cases q with
  | false =>
    rcases T.vd with ⟨ve, rfl⟩ | ⟨ve, kJ, vJ, tJ, rfl⟩
    · refine tgo O hd hA T.inv [true, true, true, false, false, true, false, true, true] [(c, [.ref a, .ref r]), (a, [sv n_delay t1, .ref v]), (v, [sv n_name t2, sv [80] t3])] (by simp [e1, e2]; exact e3) ((tr_delayP0 Y.p Y.b1 Y.b2 s.heap.objs.size s.toks F.Lt F.pl F.hi F.hd F.vd F.rf F.lg c F.n0 F.nm wy F.tb F.bg hs F.hs' ks F.ks' F.sbS F.ts k at_ ta tk a r v t1 t2 t3 F.dP F.dQ F.kpP F.nP F.hpP F.kP F.kQ F.pP F.pQ ve)) ⟨oc_dget (i := 0) (by simp [isExactStrKey]) (by simp [Value.isStr, List.findIdx?_cons]) rfl rfl, oc_gt hgt, trivial⟩ fun s1 I1 T1 _ => ?_
      have ts := T.ts T1
      have I2 := Inv.back [true, true, true, false, false, true, false, true, true] (F.TL (F.fr hs ks (.ref (s.heap.objs.size + 11)) c at_ ta) (F.vd0 Y.p ve) ls le vs pe ((k + 1 : Nat) : Int) (s.toks + 3)) 2 I1 rfl rfl
      exact after_way O hd hu hA T T1 I2 (T.hpile.mono ts) (T.hlog.mono ts) T.vd (Nat.le_succ_of_le T.bp) (Nat.le_succ_of_le T.bl) (ch := F.body false :: l) (at' := at_) (Inv.tups I1 (.head _)) ⟨_, _, _, rfl, Inv.tups I1 (.tail _ (.head _)), T.nP.mono ts, hl.mono ts⟩ rfl K
    · refine tgo O hd hA T.inv [true, true, true, false, false, true, false, true, true] [(c, [.ref a, .ref r]), (a, [sv n_delay t1, .ref v]), (v, [sv n_name t2, sv [80] t3])] (by simp [e1, e2]; exact e3) ((tr_delayP1 Y.p Y.b1 Y.b2 s.heap.objs.size s.toks F.Lt F.pl F.hi F.hd F.vd F.rf F.lg c F.n0 F.nm wy F.tb F.bg hs F.hs' ks F.ks' F.sbS F.ts k at_ ta tk a r v t1 t2 t3 F.dP F.dQ F.kpP F.nP F.hpP F.kP F.kQ F.pP F.pQ ve kJ tJ vJ)) ⟨oc_dget (i := 0) (by simp [isExactStrKey]) (by simp [Value.isStr, List.findIdx?_cons]) rfl rfl, oc_gt hgt, trivial⟩ fun s1 I1 T1 _ => ?_
      have ts := T.ts T1
      have I2 := Inv.back [true, true, true, false, false, true, false, true, true] (F.TL (F.fr hs ks (.ref (s.heap.objs.size + 11)) c at_ ta) (F.vd1 Y.p ve kJ vJ tJ) ls le vs pe ((k + 1 : Nat) : Int) (s.toks + 3)) 2 I1 rfl rfl
      exact after_way O hd hu hA T T1 I2 (T.hpile.mono ts) (T.hlog.mono ts) T.vd (Nat.le_succ_of_le T.bp) (Nat.le_succ_of_le T.bl) (ch := F.body false :: l) (at' := at_) (Inv.tups I1 (.head _)) ⟨_, _, _, rfl, Inv.tups I1 (.tail _ (.head _)), T.nP.mono ts, hl.mono ts⟩ rfl K
  | true =>
    rcases T.vd with ⟨ve, rfl⟩ | ⟨ve, kJ, vJ, tJ, rfl⟩
    · refine tgo O hd hA T.inv [true, true, true, false, false, true, false, false, false, true, true] [(c, [.ref a, .ref r]), (a, [sv n_delay t1, .ref v]), (v, [sv n_name t2, sv [81] t3])] (by simp [e1, e2]; exact e3) ((tr_delayQ0 Y.p Y.b1 Y.b2 s.heap.objs.size s.toks F.Lt F.pl F.hi F.hd F.vd F.rf F.lg c F.n0 F.nm wy F.tb F.bg hs F.hs' ks F.ks' F.sbS F.ts k at_ ta tk a r v t1 t2 t3 F.dP F.dQ F.kpQ F.nQ F.hpQ F.kP F.kQ F.pP F.pQ ve)) ⟨oc_dget (i := 1) (by simp [isExactStrKey]) (by simp [Value.isStr, List.findIdx?_cons]) rfl rfl, oc_gt hgt, trivial⟩ fun s1 I1 T1 _ => ?_
      have ts := T.ts T1
      have I2 := Inv.back [true, true, true, false, false, true, false, false, false, true, true] (F.TL (F.fr hs ks (.ref (s.heap.objs.size + 11)) c at_ ta) (F.vd0 Y.p ve) ls le vs pe ((k + 1 : Nat) : Int) (s.toks + 3)) 2 I1 rfl rfl
      exact after_way O hd hu hA T T1 I2 (T.hpile.mono ts) (T.hlog.mono ts) T.vd (Nat.le_succ_of_le T.bp) (Nat.le_succ_of_le T.bl) (ch := F.body true :: l) (at' := at_) (Inv.tups I1 (.head _)) ⟨_, _, _, rfl, Inv.tups I1 (.tail _ (.head _)), T.nQ.mono ts, hl.mono ts⟩ rfl K
    · refine tgo O hd hA T.inv [true, true, true, false, false, true, false, false, false, true, true] [(c, [.ref a, .ref r]), (a, [sv n_delay t1, .ref v]), (v, [sv n_name t2, sv [81] t3])] (by simp [e1, e2]; exact e3) ((tr_delayQ1 Y.p Y.b1 Y.b2 s.heap.objs.size s.toks F.Lt F.pl F.hi F.hd F.vd F.rf F.lg c F.n0 F.nm wy F.tb F.bg hs F.hs' ks F.ks' F.sbS F.ts k at_ ta tk a r v t1 t2 t3 F.dP F.dQ F.kpQ F.nQ F.hpQ F.kP F.kQ F.pP F.pQ ve kJ tJ vJ)) ⟨oc_dget (i := 1) (by simp [isExactStrKey]) (by simp [Value.isStr, List.findIdx?_cons]) rfl rfl, oc_gt hgt, trivial⟩ fun s1 I1 T1 _ => ?_
      have ts := T.ts T1
      have I2 := Inv.back [true, true, true, false, false, true, false, false, false, true, true] (F.TL (F.fr hs ks (.ref (s.heap.objs.size + 11)) c at_ ta) (F.vd1 Y.p ve kJ vJ tJ) ls le vs pe ((k + 1 : Nat) : Int) (s.toks + 3)) 2 I1 rfl rfl
      exact after_way O hd hu hA T T1 I2 (T.hpile.mono ts) (T.hlog.mono ts) T.vd (Nat.le_succ_of_le T.bp) (Nat.le_succ_of_le T.bl) (ch := F.body true :: l) (at' := at_) (Inv.tups I1 (.head _)) ⟨_, _, _, rfl, Inv.tups I1 (.tail _ (.head _)), T.nQ.mono ts, hl.mono ts⟩ rfl K
theorem turn_cursor (O : Y.x.Ok) (hd : d ≤ 500) (hu : u ≤ 9000) (hA : AB d u A) (T : TIn Y F (.cursor :: l) at_ st k log s) (hk : k + 1 ≤ 9999) (hl0 : l ≠ []) (hw : Y.w.params = PP Y.p Y.b1 Y.b2)
    (K : ∀ s', TIn Y F (l) (at_) (st) (k + 1) (at_ :: log) s' → codeAny Y.x.M A (inC Y.p F.Lt) R s') : codeAny Y.x.M A (inC Y.p F.Lt) R s := by
  obtain ⟨hs, ks, wy, c, ta, vo, ls, le, vs, pe, tk, T, C⟩ := T
  obtain ⟨_, a, r, hc, e1, ⟨t1, e2⟩, hl⟩ := C
  cases hc
  obtain ⟨r, rfl⟩ := hl.refs hl0
  refine while_turn (b₁ := inB1 Y.p) (b₂ := inB2 Y.p) ?_
  have hgt : decide ((k : Int) + 1 > 9999) = false := by simp; omega
  have hh : hashStr Y.w ⟨⟨[74]⟩⟩ = kh Y.p [74] := by unfold hashStr; rw [hw]; rfl
  have hlen : ls.length ≤ 10000 := by have := T.hlog.len; have := T.bl; omega
  rcases T.vd with ⟨ve, rfl⟩ | ⟨ve, kJ, vJ, tJ, rfl⟩
  · refine tgo O hd hA T.inv [true, true, true, true, false, true, true, false, false, false, false, true, true] [(c, [.ref a, .ref r]), (a, [sv n_cursor t1, .ref F.rj])] (by simp [e1, e2]) ((tr_cursor0 Y.p Y.b1 Y.b2 s.heap.objs.size s.toks F.Lt F.pl F.hi F.hd F.vd F.rf F.lg c F.n0 F.nm wy F.tb F.bg hs F.hs' ks F.ks' F.sbS F.ts k at_ ta tk a r t1 F.re ls le F.rj F.dj F.hj F.kj F.kP F.kQ F.pP F.pQ ve)) ⟨oc_append hlen, oc_dnew (by simp [isExactStrKey]) (by simp [Value.isStr, List.findIdx?_cons]) hh (by simp), oc_gt hgt, trivial⟩ fun s1 I1 T1 _ => ?_
    have ts := T.ts T1
    have I2 := Inv.back [true, true, true, true, false, true, true, false, false, false, false, true, true] (F.TL (F.fr hs ks (.ref (s.heap.objs.size + 9)) c at_ ta) (F.vd1 Y.p (ve + 1) (F.kj 4) at_ ta) (ls ++ [.ref (s.heap.objs.size + 8)]) (le + 1) vs pe ((k + 1 : Nat) : Int) (s.toks + 3)) 2 I1 rfl rfl
    exact after_way O hd hu hA T T1 I2 (T.hpile.mono ts) (log' := at_ :: log) ⟨ls, _, _, _, rfl, Inv.tups I1 (.tail _ (.head _)), T.hlog.mono ts⟩ (.inr ⟨_, _, _, _, rfl⟩) (Nat.le_succ_of_le T.bp) (Nat.succ_le_succ T.bl) (ch := l) (at' := at_) (Inv.tups I1 (.head _)) (hl.mono ts) rfl K
  · refine tgo O hd hA T.inv [true, true, true, true, false, true, true, false, false, false, false, true, true] [(c, [.ref a, .ref r]), (a, [sv n_cursor t1, .ref F.rj])] (by simp [e1, e2]) ((tr_cursor1 Y.p Y.b1 Y.b2 s.heap.objs.size s.toks F.Lt F.pl F.hi F.hd F.vd F.rf F.lg c F.n0 F.nm wy F.tb F.bg hs F.hs' ks F.ks' F.sbS F.ts k at_ ta tk a r t1 F.re ls le F.rj F.dj F.hj F.kj F.kP F.kQ F.pP F.pQ ve kJ tJ vJ)) ⟨oc_append hlen, oc_dset (i := 2) (by simp [isExactStrKey]) (by simp [Value.isStr, List.findIdx?_cons]) rfl rfl, oc_gt hgt, trivial⟩ fun s1 I1 T1 _ => ?_
    have ts := T.ts T1
    have I2 := Inv.back [true, true, true, true, false, true, true, false, false, false, false, true, true] (F.TL (F.fr hs ks (.ref (s.heap.objs.size + 9)) c at_ ta) (F.vd1 Y.p ve kJ at_ ta) (ls ++ [.ref (s.heap.objs.size + 8)]) (le + 1) vs pe ((k + 1 : Nat) : Int) (s.toks + 3)) 2 I1 rfl rfl
    exact after_way O hd hu hA T T1 I2 (T.hpile.mono ts) (log' := at_ :: log) ⟨ls, _, _, _, rfl, Inv.tups I1 (.tail _ (.head _)), T.hlog.mono ts⟩ (.inr ⟨_, _, _, _, rfl⟩) (Nat.le_succ_of_le T.bp) (Nat.succ_le_succ T.bl) (ch := l) (at' := at_) (Inv.tups I1 (.head _)) (hl.mono ts) rfl K
theorem item_ok {l : List Nat} {i c : Nat} (h : l[i]? = some c) (hz : l.length ≤ 10000) : (seqIndex? (i : Int) (⟨⟨l⟩⟩ : Str).length).bind ((⟨⟨l⟩⟩ : Str).cps[·]?) = some c := by
  have hi : i < l.length := (List.getElem?_eq_some_iff.mp h).1
  have e : seqIndex? (i : Int) (⟨⟨l⟩⟩ : Str).length = some i := by
    unfold seqIndex?
    have : (⟨⟨l⟩⟩ : Str).length = l.length := rfl
    simp [this]
    omega
  rw [e]
  simpa using h
theorem turn_any {cs : List Nat} {ch : Nat} (O : Y.x.Ok) (hd : d ≤ 500) (hu : u ≤ 9000) (hA : AB d u A) (T : TIn Y F (.any cs :: l) at_ st k log s) (hk : k + 1 ≤ 9999) (hl0 : l ≠ []) (hz : F.sb.length ≤ 10000) (hc : F.sb[at_]? = some ch) (hin : decide (ch ∈ cs) = true)
    (K : ∀ s', TIn Y F (l) (at_ + 1) (st) (k + 1) (log) s' → codeAny Y.x.M A (inC Y.p F.Lt) R s') : codeAny Y.x.M A (inC Y.p F.Lt) R s := by
  obtain ⟨hs, ks, wy, c, ta, vo, ls, le, vs, pe, tk, T, C⟩ := T
  obtain ⟨_, a, r, hc', e1, ⟨t1, t2, e2⟩, hl⟩ := C
  cases hc'
  obtain ⟨r, rfl⟩ := hl.refs hl0
  refine while_turn (b₁ := inB1 Y.p) (b₂ := inB2 Y.p) ?_
  have hgt : decide ((k : Int) + 1 > 9999) = false := by simp; omega
  have hi : at_ < F.sb.length := (List.getElem?_eq_some_iff.mp hc).1
  refine tgo O hd hA T.inv [true, true, false, false, false, true] [(c, [.ref a, .ref r]), (a, [sv n_any t1, sv cs t2])] (by simp [e1, e2]) (tr_any_hit Y.p Y.b1 Y.b2 s.heap.objs.size s.toks F.Lt F.pl F.hi F.hd F.vd F.rf F.lg c F.n0 F.nm wy F.tb F.bg hs F.hs' ks F.ks' F.sbS F.ts k at_ ta tk a r t1 t2 ch ⟨⟨cs⟩⟩) ⟨oc_in (by rw [StrLaws.found_one]; exact hin), oc_item (by simp; omega) (item_ok hc hz), oc_lt (by show decide ((at_ : Int) < (F.sb.length : Nat)) = true; simp; omega), oc_len_str hz, oc_gt hgt, trivial⟩ fun s1 I1 T1 _ => ?_
  have ts := T.ts T1
  have I2 := Inv.back [true, true, false, false, false, true] (F.TL (F.fr hs ks (.ref (s.heap.objs.size + 14)) c at_ ta) vo ls le vs pe ((k + 1 : Nat) : Int) (s.toks + 3)) 1 I1 rfl rfl
  exact after_way O hd hu hA T T1 I2 (T.hpile.mono ts) (T.hlog.mono ts) T.vd (Nat.le_succ_of_le T.bp) (Nat.le_succ_of_le T.bl) (ch := l) (at' := at_ + 1) (Inv.tups I1 (.head _)) (hl.mono ts) (by simp) K
theorem turn_any_miss {cs : List Nat} {ch : Nat} (O : Y.x.Ok) (hd : d ≤ 500) (hu : u ≤ 9000) (hA : AB d u A) (T : TIn Y F (.any cs :: l) at_ st k log s) (hk : k + 1 ≤ 9999) (hl0 : l ≠ []) (hz : F.sb.length ≤ 10000) (hc : F.sb[at_]? = some ch) (hin : decide (ch ∈ cs) = false)
    (K : ∀ s', TOut Y F st (k + 1) log s' → R (.ok .next) s') : codeAny Y.x.M A (inC Y.p F.Lt) R s := by
  obtain ⟨hs, ks, wy, c, ta, vo, ls, le, vs, pe, tk, T, C⟩ := T
  obtain ⟨_, a, r, hc', e1, ⟨t1, t2, e2⟩, hl⟩ := C
  cases hc'
  obtain ⟨r, rfl⟩ := hl.refs hl0
  refine while_turn (b₁ := inB1 Y.p) (b₂ := inB2 Y.p) ?_
  have hgt : decide ((k : Int) + 1 > 9999) = false := by simp; omega
  have hi : at_ < F.sb.length := (List.getElem?_eq_some_iff.mp hc).1
  refine tgo O hd hA T.inv [true, true, false, false, false, true] [(c, [.ref a, .ref r]), (a, [sv n_any t1, sv cs t2])] (by simp [e1, e2]) (tr_any_miss Y.p Y.b1 Y.b2 s.heap.objs.size s.toks F.Lt F.pl F.hi F.hd F.vd F.rf F.lg c F.n0 F.nm wy F.tb F.bg hs F.hs' ks F.ks' F.sbS F.ts k at_ ta tk a r t1 t2 ch ⟨⟨cs⟩⟩) ⟨oc_in (by rw [StrLaws.found_one]; exact hin), oc_item (by simp; omega) (item_ok hc hz), oc_lt (by show decide ((at_ : Int) < (F.sb.length : Nat)) = true; simp; omega), oc_len_str hz, oc_gt hgt, trivial⟩ fun s1 I1 T1 _ => ?_
  have ts := T.ts T1
  have I2 := Inv.back [true, true, false, false, false, true] (F.TL (F.fr hs ks .none c at_ ta) vo ls le vs pe ((k + 1 : Nat) : Int) (s.toks + 3)) 0 I1 rfl rfl
  exact K s1 ⟨hs, ks, c, at_, ta, vo, ls, le, vs, pe, _, T.next T1 ⟨rfl, rfl⟩ I2 (T.hpile.mono ts) (T.hlog.mono ts) T.vd (Nat.le_succ_of_le T.bp) (Nat.le_succ_of_le T.bl)⟩
theorem turn_any_end {cs : List Nat} (O : Y.x.Ok) (hd : d ≤ 500) (hu : u ≤ 9000) (hA : AB d u A) (T : TIn Y F (.any cs :: l) at_ st k log s) (hk : k + 1 ≤ 9999) (hl0 : l ≠ []) (hz : F.sb.length ≤ 10000) (hc : F.sb.length ≤ at_)
    (K : ∀ s', TOut Y F st (k + 1) log s' → R (.ok .next) s') : codeAny Y.x.M A (inC Y.p F.Lt) R s := by
  obtain ⟨hs, ks, wy, c, ta, vo, ls, le, vs, pe, tk, T, C⟩ := T
  obtain ⟨_, a, r, hc', e1, ⟨t1, t2, e2⟩, hl⟩ := C
  cases hc'
  obtain ⟨r, rfl⟩ := hl.refs hl0
  refine while_turn (b₁ := inB1 Y.p) (b₂ := inB2 Y.p) ?_
  have hgt : decide ((k : Int) + 1 > 9999) = false := by simp; omega
  refine tgo O hd hA T.inv [true, true, false, false, false, true] [(c, [.ref a, .ref r]), (a, [sv n_any t1, sv cs t2])] (by simp [e1, e2]) (tr_any_end Y.p Y.b1 Y.b2 s.heap.objs.size s.toks F.Lt F.pl F.hi F.hd F.vd F.rf F.lg c F.n0 F.nm wy F.tb F.bg hs F.hs' ks F.ks' F.sbS F.ts k at_ ta tk a r t1 t2 0 ⟨⟨cs⟩⟩) ⟨oc_lt (by show decide ((at_ : Int) < (F.sb.length : Nat)) = false; simp; omega), oc_len_str hz, oc_gt hgt, trivial⟩ fun s1 I1 T1 _ => ?_
  have ts := T.ts T1
  have I2 := Inv.back [true, true, false, false, false, true] (F.TL (F.fr hs ks .none c at_ ta) vo ls le vs pe ((k + 1 : Nat) : Int) (s.toks + 3)) 0 I1 rfl rfl
  exact K s1 ⟨hs, ks, c, at_, ta, vo, ls, le, vs, pe, _, T.next T1 ⟨rfl, rfl⟩ I2 (T.hpile.mono ts) (T.hlog.mono ts) T.vd (Nat.le_succ_of_le T.bp) (Nat.le_succ_of_le T.bl)⟩
theorem turn_fail (O : Y.x.Ok) (hd : d ≤ 500) (hu : u ≤ 9000) (hA : AB d u A) (T : TIn Y F (.fail :: l) at_ st k log s) (hk : k + 1 ≤ 9999)
    (K : ∀ s', TOut Y F st (k + 1) log s' → R (.ok .next) s') : codeAny Y.x.M A (inC Y.p F.Lt) R s := by
  obtain ⟨hs, ks, wy, c, ta, vo, ls, le, vs, pe, tk, T, C⟩ := T
  obtain ⟨_, a, r, hc', e1, ⟨t1, e2⟩, hl⟩ := C
  cases hc'
  refine while_turn (b₁ := inB1 Y.p) (b₂ := inB2 Y.p) ?_
  have hgt : decide ((k : Int) + 1 > 9999) = false := by simp; omega
  cases l with
  | nil =>
    cases (show r = .none from hl)
    refine tgo O hd hA T.inv [true, true, false, false, false, true] [(c, [.ref a, .none]), (a, [sv n_fail t1])] (by simp [e1, e2]) (tr_failn Y.p Y.b1 Y.b2 s.heap.objs.size s.toks F.Lt F.pl F.hi F.hd F.vd F.rf F.lg c F.n0 F.nm wy F.tb F.bg hs F.hs' ks F.ks' F.sbS F.ts k at_ ta tk a t1) ⟨oc_gt hgt, trivial⟩ fun s1 I1 T1 _ => ?_
    have ts := T.ts T1
    have I2 := Inv.back [true, true, false, false, false, true] (F.TL (F.fr hs ks .none c at_ ta) vo ls le vs pe ((k + 1 : Nat) : Int) (s.toks + 3)) 0 I1 rfl rfl
    exact K s1 ⟨hs, ks, c, at_, ta, vo, ls, le, vs, pe, _, T.next T1 ⟨rfl, rfl⟩ I2 (T.hpile.mono ts) (T.hlog.mono ts) T.vd (Nat.le_succ_of_le T.bp) (Nat.le_succ_of_le T.bl)⟩
  | cons z l =>
    obtain ⟨r, rfl⟩ := hl.refs (by simp)
    refine tgo O hd hA T.inv [true, true, false, false, false, true] [(c, [.ref a, .ref r]), (a, [sv n_fail t1])] (by simp [e1, e2]) (tr_fail Y.p Y.b1 Y.b2 s.heap.objs.size s.toks F.Lt F.pl F.hi F.hd F.vd F.rf F.lg c F.n0 F.nm wy F.tb F.bg hs F.hs' ks F.ks' F.sbS F.ts k at_ ta tk a r t1) ⟨oc_gt hgt, trivial⟩ fun s1 I1 T1 _ => ?_
    have ts := T.ts T1
    have I2 := Inv.back [true, true, false, false, false, true] (F.TL (F.fr hs ks .none c at_ ta) vo ls le vs pe ((k + 1 : Nat) : Int) (s.toks + 3)) 0 I1 rfl rfl
    exact K s1 ⟨hs, ks, c, at_, ta, vo, ls, le, vs, pe, _, T.next T1 ⟨rfl, rfl⟩ I2 (T.hpile.mono ts) (T.hlog.mono ts) T.vd (Nat.le_succ_of_le T.bp) (Nat.le_succ_of_le T.bl)⟩
theorem slice_none {x : Str} {i j : Int} {t t' : Tok} (h : i = j) : slicePicked x (some (i, t)) (some (j, t')) none = [] := by
  subst h
  unfold slicePicked Builtin.Str.strSliceIndices sliceRange
  simp
theorem turn_chars (O : Y.x.Ok) (hd : d ≤ 500) (hu : u ≤ 9000) (hA : AB d u A) (T : TIn Y F (.chars :: l) at_ st k log s) (hk : k + 1 ≤ 9999) (hl0 : l ≠ []) (hz : F.sb.length ≤ 10000)
    (K : ∀ s', TIn Y F (l) (at_) (st) (k + 1) (log) s' → codeAny Y.x.M A (inC Y.p F.Lt) R s') : codeAny Y.x.M A (inC Y.p F.Lt) R s := by
  obtain ⟨hs, ks, wy, c, ta, vo, ls, le, vs, pe, tk, T, C⟩ := T
  obtain ⟨_, a, r, hc', e1, ⟨t1, t2, e2⟩, hl⟩ := C
  cases hc'
  obtain ⟨r, rfl⟩ := hl.refs hl0
  refine while_turn (b₁ := inB1 Y.p) (b₂ := inB2 Y.p) ?_
  have hgt : decide ((k : Int) + 1 > 9999) = false := by simp; omega
  cases hsb : F.sb with
  | nil =>
    have hS : F.sbS = ⟨⟨[]⟩⟩ := by unfold TF.sbS; rw [hsb]
    refine tgo O hd hA T.inv [true, true, false, false, false, true] [(c, [.ref a, .ref r]), (a, [sv n_chars t1, sv [] t2])] (by simp [e1, e2]) (tr_charsw Y.p Y.b1 Y.b2 s.heap.objs.size s.toks F.Lt F.pl F.hi F.hd F.vd F.rf F.lg c F.n0 F.nm wy F.tb F.bg hs F.hs' ks F.ks' F.sbS F.ts k at_ ta tk a r t1 t2) ⟨(by rw [hS]; exact oc_slice_all (by rw [slice_none (by simp)]; rfl)), oc_gt hgt, trivial⟩ fun s1 I1 T1 _ => ?_
    have ts := T.ts T1
    have I2 := Inv.back [true, true, false, false, false, true] (F.TL (F.fr hs ks (.ref (s.heap.objs.size + 14)) c at_ ta) vo ls le vs pe ((k + 1 : Nat) : Int) (s.toks + 3)) 1 I1 rfl rfl
    exact after_way O hd hu hA T T1 I2 (T.hpile.mono ts) (T.hlog.mono ts) T.vd (Nat.le_succ_of_le T.bp) (Nat.le_succ_of_le T.bl) (ch := l) (at' := at_) (Inv.tups I1 (.head _)) (hl.mono ts) (by simp) K
  | cons c0 sb0 =>
    refine tgo O hd hA T.inv [true, true, false, false, false, true] [(c, [.ref a, .ref r]), (a, [sv n_chars t1, sv [] t2])] (by simp [e1, e2]) (tr_chars Y.p Y.b1 Y.b2 s.heap.objs.size s.toks F.Lt F.pl F.hi F.hd F.vd F.rf F.lg c F.n0 F.nm wy F.tb F.bg hs F.hs' ks F.ks' F.sbS F.ts k at_ ta tk a r t1 t2) ⟨oc_slice (by rw [slice_none (by simp)]; show 0 ≠ F.sb.length; rw [hsb]; simp) (by rw [slice_none (by simp)]; rfl) (by decide), oc_gt hgt, trivial⟩ fun s1 I1 T1 _ => ?_
    have ts := T.ts T1
    have I2 := Inv.back [true, true, false, false, false, true] (F.TL (F.fr hs ks (.ref (s.heap.objs.size + 14)) c at_ ta) vo ls le vs pe ((k + 1 : Nat) : Int) (s.toks + 3)) 1 I1 rfl rfl
    exact after_way O hd hu hA T T1 I2 (T.hpile.mono ts) (T.hlog.mono ts) T.vd (Nat.le_succ_of_le T.bp) (Nat.le_succ_of_le T.bl) (ch := l) (at' := at_) (Inv.tups I1 (.head _)) (hl.mono ts) (by simp) K
end
end
section
open PySem PySem.W PySem.W.X PySem.Calls PySem.Spec PyProof.Rows
noncomputable def tin (body : Bool → Nd) (sb : List Nat) : Nat → List Nd → Nat → List (List Nd × Nat) → Nat → List Nat → Option (Nat × List Nat)
  | 0, _, _, _, _, _ => none
  | _ + 1, [], _, _, _, _ => none
  | f + 1, .cat x y :: l, at_, st, k, log => tin body sb f (x :: y :: l) at_ st (k + 1) log
  | f + 1, .fail :: _, _, st, k, log => match st with
    | [] => some (k + 1, log)
    | p :: st' => tin body sb f p.1 p.2 st' (k + 1) log
  | _ + 1, [_], _, _, _, _ => none
  | f + 1, .alt x y :: z :: l, at_, st, k, log => tin body sb f (x :: z :: l) at_ ((y :: z :: l, at_) :: st) (k + 1) log
  | f + 1, .delay q :: z :: l, at_, st, k, log => tin body sb f (body q :: z :: l) at_ st (k + 1) log
  | f + 1, .any cs :: z :: l, at_, st, k, log => match sb[at_]? with
    | some c => match decide (c ∈ cs) with
      | true => tin body sb f (z :: l) (at_ + 1) st (k + 1) log
      | false => match st with
        | [] => some (k + 1, log)
        | p :: st' => tin body sb f p.1 p.2 st' (k + 1) log
    | none => match st with
      | [] => some (k + 1, log)
      | p :: st' => tin body sb f p.1 p.2 st' (k + 1) log
  | f + 1, .chars :: z :: l, at_, st, k, log => tin body sb f (z :: l) at_ st (k + 1) log
  | f + 1, .cursor :: z :: l, at_, st, k, log => tin body sb f (z :: l) at_ st (k + 1) (at_ :: log)
noncomputable def tback (body : Bool → Nd) (sb : List Nat) (f : Nat) (st : List (List Nd × Nat)) (k : Nat) (log : List Nat) : Option (Nat × List Nat) := match st with
  | [] => some (k, log)
  | p :: st' => tin body sb f p.1 p.2 st' k log
noncomputable def outB2 (P : Params) : List Stmt := (outB P).drop 3
noncomputable def inS (P : Params) : Stmt := stAt (outB P) 3
noncomputable def posOf (x : Stmt) : Pos := match x with | .While _ _ _ p => p | _ => default
theorem outC_eq (P : Params) (L : Addr) : outC P L = .whileLoop (outT P) (outB1 P ++ outB2 P) [] (envAt P 614 L) := by
  unfold outC outB1 outB2
  rw [List.take_append_drop]
theorem outB2_eq (P : Params) : outB2 P = [inS P] ++ outB3 P := by kernel_rfl
theorem inS_eq (P : Params) : inS P = .While (inT P) (inB P) [] (posOf (inS P)) := by kernel_rfl
theorem inC_eq (P : Params) (L : Addr) : inC P L = .whileLoop (inT P) (inB P) [] (envAt P 614 L) := by
  unfold inC inB1 inB2
  rw [List.take_append_drop]
section
variable {Y : Cy} {F : TF} {d u : Nat}
theorem inner (O : Y.x.Ok) (hd : d ≤ 500) (hu : u ≤ 9000) (hw : Y.w.params = PP Y.p Y.b1 Y.b2) (hz : F.sb.length ≤ 10000) {res : Nat × List Nat} {A : Around} (hA : AB d u A) {R : Result → Shared → Prop} : ∀ (f : Nat) (ch : List Nd) (at_ : Nat) (st : List (List Nd × Nat)) (k : Nat) (log : List Nat) (s : Shared),
    tin F.body F.sb f ch at_ st k log = some res → k + f ≤ 9999 → TIn Y F ch at_ st k log s →
    (∀ f' st' k' log' s', f' < f → tback F.body F.sb f' st' k' log' = some res → k' + f' ≤ 9999 → TOut Y F st' k' log' s' → R (.ok .next) s') → codeAny Y.x.M A (inC Y.p F.Lt) R s := by
  intro f
  induction f with
  | zero => intro ch at_ st k log s h; cases h
  | succ f ih =>
    intro ch at_ st k log s h hk T B
    have go : ∀ ch at_ st log s, tin F.body F.sb f ch at_ st (k + 1) log = some res → TIn Y F ch at_ st (k + 1) log s → codeAny Y.x.M A (inC Y.p F.Lt) R s := fun ch at_ st log s h T =>
      ih ch at_ st (k + 1) log s h (by omega) T fun f' st' k' log' s' hf h1 h2 h3 => B f' st' k' log' s' (by omega) h1 h2 h3
    have bk : ∀ s', tback F.body F.sb f st (k + 1) log = some res → TOut Y F st (k + 1) log s' → R (.ok .next) s' := fun s' h T' => B f st (k + 1) log s' (by omega) h (by omega) T'
    have hk1 : k + 1 ≤ 9999 := by omega
    cases ch with
    | nil => cases h
    | cons x l =>
      cases x with
      | cat x y => exact turn_cat O hd hu hA T hk1 fun s' T' => go _ _ _ _ _ h T'
      | fail =>
        refine turn_fail O hd hu hA T hk1 fun s' T' => bk s' ?_ T'
        unfold tin at h
        cases st <;> exact h
      | alt x y =>
        cases l with
        | nil => cases h
        | cons z l => exact turn_alt O hd hu hA T hk1 (by simp) fun s' T' => go _ _ _ _ _ h T'
      | delay q =>
        cases l with
        | nil => cases h
        | cons z l => exact turn_delay O hd hu hA T hk1 (by simp) fun s' T' => go _ _ _ _ _ h T'
      | chars =>
        cases l with
        | nil => cases h
        | cons z l => exact turn_chars O hd hu hA T hk1 (by simp) hz fun s' T' => go _ _ _ _ _ h T'
      | cursor =>
        cases l with
        | nil => cases h
        | cons z l => exact turn_cursor O hd hu hA T hk1 (by simp) hw fun s' T' => go _ _ _ _ _ h T'
      | any cs =>
        cases l with
        | nil => cases h
        | cons z l =>
          unfold tin at h
          cases hc : F.sb[at_]? with
          | none =>
            rw [hc] at h
            refine turn_any_end O hd hu hA T hk1 (by simp) hz (by simpa using hc) fun s' T' => bk s' ?_ T'
            cases st <;> exact h
          | some c =>
            rw [hc] at h
            dsimp only at h
            cases hi : decide (c ∈ cs) with
            | true =>
              rw [hi] at h
              exact turn_any O hd hu hA T hk1 (by simp) hz hc hi fun s' T' => go _ _ _ _ _ h T'
            | false =>
              rw [hi] at h
              refine turn_any_miss O hd hu hA T hk1 (by simp) hz hc hi fun s' T' => bk s' ?_ T'
              cases st <;> exact h
theorem AB.under {A : Around} {c : Code} (h : AB d u A) (hc : callerQ c = false) : AB (d + 5) (u + 10) (A.under c) := by
  refine ⟨h.handled, ?_, ?_⟩
  · have := caller_weight hc
    have := h.depth
    show A.depth + c.weight ≤ _
    omega
  · have := units_le c
    have := h.units
    show A.units + c.cUnits ≤ _
    omega
theorem rest (O : Y.x.Ok) (hd : d ≤ 490) (hu : u ≤ 8900) (hw : Y.w.params = PP Y.p Y.b1 Y.b2) (hz : F.sb.length ≤ 10000) {res : Nat × List Nat} {A : Around} (hA : AB d u A) {R : Result → Shared → Prop} {f : Nat} {ch : List Nd} {at_ : Nat} {st : List (List Nd × Nat)} {k : Nat} {log : List Nat} {s : Shared}
    (h : tin F.body F.sb f ch at_ st k log = some res) (hk : k + f ≤ 9999) (T : TIn Y F ch at_ st k log s)
    (B : ∀ f' st' k' log' s', f' < f → tback F.body F.sb f' st' k' log' = some res → k' + f' ≤ 9999 → TOut Y F st' k' log' s' → codeAny Y.x.M A (outC Y.p F.Lt) R s') :
    wpOwn Y.x.M A (outC Y.p F.Lt) (execs (outB2 Y.p) (envAt Y.p 614 F.Lt)) (After Y.x A (outC Y.p F.Lt) R) (fun _ _ => False) s := by
  rw [outB2_eq]
  refine own_execs_append (own_execs_one ?_)
  rw [inS_eq]
  refine wpOwn_of_wpAny (wpAny_While ?_)
  rw [← inC_eq]
  refine inner O (d := d + 5) (u := u + 10) (by omega) (by omega) hw hz (hA.under (by kernel_rfl)) f ch at_ st k log s h hk T fun f' st' k' log' s' hf h1 h2 T' => ?_
  obtain ⟨hs, ks, c, at2, ta, vo, ls, le, vs, pe, tk, T'⟩ := T'
  show wpOwn _ _ _ _ _ _ _
  refine wpOwn_mono (own_execsT (X := Y.x) (R := fun r' s3 => r' = .ok .next ∧ TOut Y F st' k' log' s3)
    (tgo O (by omega) hA T'.inv [true] [] (by simp) (tr_if Y.p Y.b1 Y.b2 s'.heap.objs.size s'.toks F.Lt F.pl F.hi 0 0 0 0 c F.n0 F.nm 0 F.tb F.bg hs hs ks ks F.sbS F.ts 0 at2 ta 0) trivial fun s3 I3 T3 _ => ⟨rfl, ?_⟩)) (fun f s3 q => ?_) fun _ _ q => ?_
  · exact ⟨hs, ks, c, at2, ta, vo, ls, le, vs, pe, tk, T'.next T3 ⟨rfl, rfl⟩ I3 (T'.hpile.mono (T'.ts T3)) (T'.hlog.mono (T'.ts T3)) T'.vd T'.bp T'.bl⟩
  · obtain ⟨q, T3⟩ := q
    cases q
    exact B f' st' k' log' s3 hf h1 h2 T3
  · cases q.1
theorem outer (O : Y.x.Ok) (hd : d ≤ 490) (hu : u ≤ 8900) (hw : Y.w.params = PP Y.p Y.b1 Y.b2) (hz : F.sb.length ≤ 10000) {res : Nat × List Nat} {A : Around} (hA : AB d u A) {R : Result → Shared → Prop} (E : ∀ s', TOut Y F [] res.1 res.2 s' → R (.ok .next) s') :
    ∀ (f : Nat) (st : List (List Nd × Nat)) (k : Nat) (log : List Nat) (s : Shared), tback F.body F.sb f st k log = some res → k + f ≤ 9999 → TOut Y F st k log s → codeAny Y.x.M A (outC Y.p F.Lt) R s := by
  intro f
  induction f using Nat.strongRecOn with
  | ind f ih =>
    intro st k log s h hk T
    obtain ⟨hs, ks, c, at_, ta, vo, ls, le, vs, pe, tk, T⟩ := T
    rw [outC_eq]
    refine while_turn ?_
    cases st with
    | nil =>
      cases (show vs = [] from T.hpile)
      cases (show some (k, log) = some res from h)
      refine tgo O (by omega) hA T.inv [true, false, false, false, true] [] (by simp) (tr_out_end Y.p Y.b1 Y.b2 s.heap.objs.size s.toks F.Lt F.pl F.hi 0 0 0 0 c F.n0 F.nm 0 F.tb F.bg hs hs ks ks F.sbS F.ts 0 at_ ta 0 pe) trivial fun s1 I1 T1 _ => ?_
      have I2 := Inv.back [true, false, false, false, true] (F.TL (F.fr hs ks .none c at_ ta) vo ls le [] pe (k : Nat) tk) 0 I1 rfl rfl
      exact E s1 ⟨hs, ks, c, at_, ta, vo, ls, le, [], pe, tk, T.next T1 ⟨rfl, rfl⟩ I2 rfl (T.hlog.mono (T.ts T1)) T.vd T.bp T.bl⟩
    | cons q st =>
      obtain ⟨ch, a2⟩ := q
      obtain ⟨vs', v, cc, t2, rfl, e1, hch, hpl⟩ := T.hpile
      have hlen : vs'.length ≤ 9999 := by have := hpl.len; have := T.bp; simp at this; omega
      refine tgo O (by omega) hA T.inv [true, false, false, false, true] [(v, [.ref cc, .int a2 t2, .ref F.nm])] (by simpa using e1) (tr_out9 Y.p Y.b1 Y.b2 s.heap.objs.size s.toks F.Lt F.pl F.hi 0 0 0 0 c F.n0 F.nm 0 F.tb F.bg hs hs ks ks F.sbS F.ts 0 at_ ta 0 vs' pe v cc F.nm a2 t2)
        ⟨oc_pop (by omega), oc_gt (by simp), oc_len_list (by simp) (by simp; omega), trivial⟩ fun s1 I1 T1 _ => ?_
      have ts := T.ts T1
      have I2 := Inv.back [true, false, false, false, true] (F.TL (F.fr hs ks (.ref v) cc a2 t2) vo ls le vs' (pe + 1) (k : Nat) tk) 0 I1 rfl rfl
      have T2 : TIn Y F ch a2 st k log s1 := ⟨hs, ks, v, cc, t2, vo, ls, le, vs', pe + 1, tk, T.next T1 ⟨rfl, rfl⟩ I2 (hpl.mono ts) (T.hlog.mono ts) T.vd (Nat.le_of_succ_le T.bp) T.bl, hch.mono ts⟩
      have r := rest O hd hu hw hz hA (R := R) h hk T2 fun f' st' k' log' s' hf h1 h2 h3 => ih f' hf st' k' log' s' h1 h2 h3
      rw [outC_eq] at r
      exact r
theorem outer5 (O : Y.x.Ok) (hd : d ≤ 490) (hu : u ≤ 8900) (hw : Y.w.params = PP Y.p Y.b1 Y.b2) (hz : F.sb.length ≤ 10000) {res : Nat × List Nat} {A : Around} (hA : AB d u A) {R : Result → Shared → Prop} (E : ∀ s', TOut Y F [] res.1 res.2 s' → R (.ok .next) s') {f : Nat} {ch : List Nd} {a2 : Nat} {s : Shared} {hs ks vo ls le vs pe tk}
    (h : tback F.body F.sb f [(ch, a2)] 0 [] = some res) (hk : f ≤ 9999) (T : TB Y F (F.f5 hs ks) [(ch, a2)] 0 [] s vo ls le vs pe tk) : codeAny Y.x.M A (outC Y.p F.Lt) R s := by
  rw [outC_eq]
  refine while_turn ?_
  obtain ⟨vs', v, cc, t2, rfl, e1, hch, hpl⟩ := T.hpile
  have hlen : vs'.length ≤ 9999 := by rw [hpl.len]; simp
  refine tgo O (by omega) hA T.inv [true, false, false, false, true] [(v, [.ref cc, .int a2 t2, .ref F.nm])] (by simpa using e1) (tr_out5 Y.p Y.b1 Y.b2 s.heap.objs.size s.toks F.Lt F.pl F.hi 0 0 0 0 0 F.n0 F.nm 0 F.tb F.bg hs hs ks ks F.sbS F.ts 0 0 0 0 vs' pe v cc F.nm a2 t2)
    ⟨oc_pop (by omega), oc_gt (by simp), oc_len_list (by simp) (by simp; omega), trivial⟩ fun s1 I1 T1 _ => ?_
  have ts := T.ts T1
  have I2 := Inv.back [true, false, false, false, true] (F.TL (F.fr (fun i => [hs 0, hs 1, hs 2, hs 3, hs 4, kh Y.p n_way, kh Y.p n_chain, kh Y.p [97, 116], kh Y.p n_named].getD i 0) (fun i => [ks 0, ks 1, ks 2, ks 3, ks 4, s.toks + 3, s.toks + 4, s.toks + 5, s.toks + 6].getD i 0) (.ref v) cc a2 t2) vo ls le vs' (pe + 1) ((0 : Nat) : Int) tk) 0 I1 rfl rfl
  have T2 : TIn Y F ch a2 [] 0 [] s1 := ⟨_, _, v, cc, t2, vo, ls, le, vs', pe + 1, tk, T.next T1 ⟨rfl, rfl⟩ I2 (hpl.mono ts) (T.hlog.mono ts) T.vd (by simp) T.bl, hch.mono ts⟩
  have r := rest O hd hu hw hz hA (R := R) h (by omega) T2 fun f' st' k' log' s' hf h1 h2 h3 => outer O hd hu hw hz hA E f' st' k' log' s' h1 h2 h3
  rw [outC_eq] at r
  exact r
end
end
section
open PySem PySem.W PySem.W.X PySem.Calls PySem.Spec PyProof.Rows
theorem m_split_n (p : Params) (b1 b2 : Bool) (n t : Nat) (Lm hd wd hl vd lg wa mi md hi ol rf ob oa : Nat) (bg : Int) (tb : Nat) (hs hs' hw hm : Nat → Int) (ks ks' kw km : Nat → Nat) (sb : Str) (ts oe he : Nat) (os xs : List Value) (k pc at_ : Int) (tk tp ta : Nat) (t1 tg : Nat) (g : Int) : FinI (rn p b1 b2 (mC p Lm) (mTT p Lm) n t [ef oa (tup [sv n_split t1, .int g tg]), et Lm (fq4 hs ks (.ref mi) (.ref ol) (.int bg tb) (.ref wa) (.ref ob) 5), et hd (hostD hs' ks' vd rf lg k tk), et hl (lst xs he), ef mi (inst 526 md), ef md (matD hm km (.str sb ts) hi hl), ef hi (inst 589 hd), ef ol (lst os oe), et wd (wayD hw kw ol pc tp at_ ta (.none)), ef wa (inst 449 wd)] (q17 (q290 (q18 (q24 (q236 (hy 131 (q8 (q16 (q359 (q389 (q25 (hy 129 (q359 (hy 129 (q359 (q35 (q207 (hy 131 (q207 (q33 (hy 16777 (q4 (q6 (q106 (q106 (q128 (hy 17286 (q188 (q38 (q38 (q76 (q14 (hy 17408 (q22 (q22 (hy 17921 (q3 (hy 140 (q3 (q189 (hy 139 (q49 (q12 (q8 (q1 (q1 (q34 (q190 (q1 (q190 (hy 129 (q190 (hy 129 (q190 (hy 129 (q190 (q394 (q191 (q191 (hy 2147584 (q395 (q360 [])))))))))))))))))))))))))))))))))))))))))))))))))))))))))))))) [(455126529904428302298986, .gv (fun _ => .bool false) 0), (128106587276438692081757506308484131437, .rd 8 (fun _ => .ref oa) 0), (122627580202994350266018413, .up 9 (lst (xs ++ [Value.ref n.succ.succ.succ.succ]) (he + 1)) .none 0)]) [1, 2, 7, 8, 9, 10, 11, 12, 13, 14, 15] (.ok (.ret (.bool false))) (n + 6) (t + 52) [et (n + 4) (inst 449 (n + 3)), et (n + 3) (fq5 p (t + 36) (.ref ol) (t + 38) (.int (g) tg) (t + 40) (.int (at_) ta) (t + 42) .none (t + 44) .none (t + 46) .none 6), et Lm (fq4 hs ks (.ref mi) (.ref ol) (.int (bg) tb) (.ref wa) (.ref oa) 5), et hd (fq1 hs' ks' (.ref vd) (.int 9999 (ks' 6)) (.ref rf) (.int 64 (ks' 7)) (.int (k + 1) (t + 4)) (.ref lg) 6), et hl (lst (xs ++ [Value.ref n.succ.succ.succ.succ]) (he + 1)), ef mi (inst 526 md), ef md (fq6 hm km (.str (sb) ts) (.ref hi) (.ref hl) 3), ef hi (inst 589 hd), ef ol (lst (os) oe), et wd (fq7 hw kw (.ref ol) (.int (pc + 1) (t + 49)) (.int (at_) ta) .none .none .none 6), ef wa (inst 449 wd)] [.up 122627580202994350266018413 [.ref hl, .ref (n + 4)] hl (lst (xs) he) (lst (xs ++ [Value.ref n.succ.succ.succ.succ]) (he + 1)) .none 0, .rd 128106587276438692081757506308484131437 [.ref ol, .int (pc) tp] ol (lst (os) oe) (fun _ => .ref oa) 0, .gv 455126529904428302298986 [.int (k + 1) (t + 4), .int 9999 (ks' 6)] (fun _ => .bool false) 0] := by show _ = _; cases b1 <;> kernel_rfl
theorem m_jump_n (p : Params) (b1 b2 : Bool) (n t : Nat) (Lm hd wd hl vd lg wa mi md hi ol rf ob oa : Nat) (bg : Int) (tb : Nat) (hs hs' hw hm : Nat → Int) (ks ks' kw km : Nat → Nat) (sb : Str) (ts oe he : Nat) (os xs : List Value) (k pc at_ : Int) (tk tp ta : Nat) (t1 tg : Nat) (g : Int) : FinI (rn p b1 b2 (mC p Lm) (mTT p Lm) n t [ef oa (tup [sv n_jump t1, .int g tg]), et Lm (fq4 hs ks (.ref mi) (.ref ol) (.int bg tb) (.ref wa) (.ref ob) 5), et hd (hostD hs' ks' vd rf lg k tk), ef mi (inst 526 md), ef md (matD hm km (.str sb ts) hi hl), ef hi (inst 589 hd), ef ol (lst os oe), et wd (wayD hw kw ol pc tp at_ ta (.none)), ef wa (inst 449 wd)] (q241 (q38 (q38 (q38 (q30 (q12 (hy 17793 (q5 (hy 139 (q0 (hy 2277387 (q3 (hy 16395 (q73 [])))))))))))))) [(455126529904428302298986, .gv (fun _ => .bool false) 0), (128106587276438692081757506308484131437, .rd 7 (fun _ => .ref oa) 0)]) [3, 4, 5, 6, 7, 8, 9, 10] (.ok (.ret (.bool false))) (n + 2) (t + 22) [et Lm (fq4 hs ks (.ref mi) (.ref ol) (.int (bg) tb) (.ref wa) (.ref oa) 5), et hd (fq1 hs' ks' (.ref vd) (.int 9999 (ks' 6)) (.ref rf) (.int 64 (ks' 7)) (.int (k + 1) (t + 4)) (.ref lg) 6), ef mi (inst 526 md), ef md (fq6 hm km (.str (sb) ts) (.ref hi) (.ref hl) 3), ef hi (inst 589 hd), ef ol (lst (os) oe), et wd (fq7 hw kw (.ref ol) (.int (g) tg) (.int (at_) ta) .none .none .none 6), ef wa (inst 449 wd)] [.rd 128106587276438692081757506308484131437 [.ref ol, .int (pc) tp] ol (lst (os) oe) (fun _ => .ref oa) 0, .gv 455126529904428302298986 [.int (k + 1) (t + 4), .int 9999 (ks' 6)] (fun _ => .bool false) 0] := by show _ = _; cases b1 <;> kernel_rfl
theorem m_mark_n (p : Params) (b1 b2 : Bool) (n t : Nat) (Lm hd wd hl vd lg wa mi md hi ol rf ob oa : Nat) (bg : Int) (tb : Nat) (hs hs' hw hm : Nat → Int) (ks ks' kw km : Nat → Nat) (sb : Str) (ts oe he : Nat) (os xs : List Value) (k pc at_ : Int) (tk tp ta : Nat) (t1 : Nat) : FinI (rn p b1 b2 (mC p Lm) (mTT p Lm) n t [ef oa (tup [sv n_mark t1]), et Lm (fq4 hs ks (.ref mi) (.ref ol) (.int bg tb) (.ref wa) (.ref ob) 5), et hd (hostD hs' ks' vd rf lg k tk), ef mi (inst 526 md), ef md (matD hm km (.str sb ts) hi hl), ef hi (inst 589 hd), ef ol (lst os oe), et wd (wayD hw kw ol pc tp at_ ta (.none)), ef wa (inst 449 wd)] (q241 (q38 (q38 (q38 (q38 (q207 (hy 129 (q207 (hy 130 (q396 (hy 130 (q254 (hy 17792 (q0 (q396 []))))))))))))))) [(455126529904428302298986, .gv (fun _ => .bool false) 0), (128106587276438692081757506308484131437, .rd 7 (fun _ => .ref oa) 0)]) [0, 4, 5, 6, 7, 8, 9, 10, 11] (.ok (.ret (.bool false))) (n + 3) (t + 28) [ef (n + 2) (tup [.none, .int (at_) ta]), et Lm (fq4 hs ks (.ref mi) (.ref ol) (.int (bg) tb) (.ref wa) (.ref oa) 5), et hd (fq1 hs' ks' (.ref vd) (.int 9999 (ks' 6)) (.ref rf) (.int 64 (ks' 7)) (.int (k + 1) (t + 4)) (.ref lg) 6), ef mi (inst 526 md), ef md (fq6 hm km (.str (sb) ts) (.ref hi) (.ref hl) 3), ef hi (inst 589 hd), ef ol (lst (os) oe), et wd (fq7 hw kw (.ref ol) (.int (pc + 1) (t + 25)) (.int (at_) ta) .none (.ref (n + 2)) .none 6), ef wa (inst 449 wd)] [.rd 128106587276438692081757506308484131437 [.ref ol, .int (pc) tp] ol (lst (os) oe) (fun _ => .ref oa) 0, .gv 455126529904428302298986 [.int (k + 1) (t + 4), .int 9999 (ks' 6)] (fun _ => .bool false) 0] := by show _ = _; cases b1 <;> kernel_rfl
theorem m_fail_n (p : Params) (b1 b2 : Bool) (n t : Nat) (Lm hd wd hl vd lg wa mi md hi ol rf ob oa : Nat) (bg : Int) (tb : Nat) (hs hs' hw hm : Nat → Int) (ks ks' kw km : Nat → Nat) (sb : Str) (ts oe he : Nat) (os xs : List Value) (k pc at_ : Int) (tk tp ta : Nat) (t1 : Nat) : FinI (rn p b1 b2 (mC p Lm) (mTT p Lm) n t [ef oa (tup [sv n_fail t1]), et Lm (fq4 hs ks (.ref mi) (.ref ol) (.int bg tb) (.ref wa) (.ref ob) 5), et hd (hostD hs' ks' vd rf lg k tk), ef mi (inst 526 md), ef md (matD hm km (.str sb ts) hi hl), ef hi (inst 589 hd), ef ol (lst os oe), et wd (wayD hw kw ol pc tp at_ ta (.none)), ef wa (inst 449 wd)] (q241 (q317 (hy 130 (q36 (q236 (hy 136 (q17 (q61 (q57 (q20 (q3 []))))))))))) [(455126529904428302298986, .gv (fun _ => .bool false) 0), (128106587276438692081757506308484131437, .rd 7 (fun _ => .ref oa) 0)]) [5, 6, 7, 8, 9, 10, 11, 12] (.ok (.ret (.bool true))) (n + 4) (t + 24) [et Lm (fq4 hs ks (.ref mi) (.ref ol) (.int (bg) tb) (.ref wa) (.ref oa) 5), et hd (fq1 hs' ks' (.ref vd) (.int 9999 (ks' 6)) (.ref rf) (.int 64 (ks' 7)) (.int (k + 1) (t + 4)) (.ref lg) 6), ef mi (inst 526 md), ef md (fq6 hm km (.str (sb) ts) (.ref hi) (.ref hl) 3), ef hi (inst 589 hd), ef ol (lst (os) oe), et wd (fq7 hw kw (.ref ol) (.int (pc) tp) (.int (at_) ta) .none .none .none 6), ef wa (inst 449 wd)] [.rd 128106587276438692081757506308484131437 [.ref ol, .int (pc) tp] ol (lst (os) oe) (fun _ => .ref oa) 0, .gv 455126529904428302298986 [.int (k + 1) (t + 4), .int 9999 (ks' 6)] (fun _ => .bool false) 0] := by show _ = _; cases b1 <;> kernel_rfl
theorem m_any_hit_n (p : Params) (b1 b2 : Bool) (n t : Nat) (Lm hd wd hl vd lg wa mi md hi ol rf ob oa : Nat) (bg : Int) (tb : Nat) (hs hs' hw hm : Nat → Int) (ks ks' kw km : Nat → Nat) (sb : Str) (ts oe he : Nat) (os xs : List Value) (k pc at_ : Int) (tk tp ta : Nat) (t1 t2 t3 ch : Nat) (cs : Str) : FinI (rn p b1 b2 (mC p Lm) (mTT p Lm) n t [ef oa (tup [sv n_one t1, sv n_any t2, .str cs t3]), et Lm (fq4 hs ks (.ref mi) (.ref ol) (.int bg tb) (.ref wa) (.ref ob) 5), et hd (hostD hs' ks' vd rf lg k tk), ef mi (inst 526 md), ef md (matD hm km (.str sb ts) hi hl), ef hi (inst 589 hd), ef ol (lst os oe), et wd (wayD hw kw ol pc tp at_ ta (.none)), ef wa (inst 449 wd)] (q318 (q316 (q13 (q18 (q31 (hy 144 (q5 (hy 144 (q360 (q395 (q360 []))))))))))) [(455126529904428302298986, .gv (fun _ => .bool false) 0), (128106587276438692081757506308484131437, .rd 7 (fun _ => .ref oa) 0), (7300717, .gv (fun t => .int (↑sb.length) (t + 1)) 2), (455126531311803185852266, .gv (fun _ => .bool true) 0), (500416356548588640944365259017385332, .gv (fun t => .str ({ cps := #[ch] }) t) 1), (128106709680535770272165659069392319860, .gv (fun _ => .bool true) 0)]) [8, 9, 10, 11, 12, 13, 14, 15] (.ok (.ret (.bool false))) (n + 7) (t + 62) [et Lm (fq4 hs ks (.ref mi) (.ref ol) (.int (bg) tb) (.ref wa) (.ref oa) 5), et hd (fq1 hs' ks' (.ref vd) (.int 9999 (ks' 6)) (.ref rf) (.int 64 (ks' 7)) (.int (k + 1) (t + 4)) (.ref lg) 6), ef mi (inst 526 md), ef md (fq6 hm km (.str (sb) ts) (.ref hi) (.ref hl) 3), ef hi (inst 589 hd), ef ol (lst (os) oe), et wd (fq7 hw kw (.ref ol) (.int (pc + 1) (t + 59)) (.int (at_ + 1) (t + 53)) .none .none .none 6), ef wa (inst 449 wd)] [.gv 128106709680535770272165659069392319860 [.str (cs) t3, sv [ch] (t + 51)] (fun _ => .bool true) 0, .gv 500416356548588640944365259017385332 [.str (sb) ts, .int (at_) ta] (fun t => .str ({ cps := #[ch] }) t) 1, .gv 455126531311803185852266 [.int (at_) ta, .int (↑sb.length) (t + 50)] (fun _ => .bool true) 0, .gv 7300717 [.str (sb) ts] (fun t => .int (↑sb.length) (t + 1)) 2, .rd 128106587276438692081757506308484131437 [.ref ol, .int (pc) tp] ol (lst (os) oe) (fun _ => .ref oa) 0, .gv 455126529904428302298986 [.int (k + 1) (t + 4), .int 9999 (ks' 6)] (fun _ => .bool false) 0] := by show _ = _; cases b1 <;> kernel_rfl
theorem m_any_miss_n (p : Params) (b1 b2 : Bool) (n t : Nat) (Lm hd wd hl vd lg wa mi md hi ol rf ob oa : Nat) (bg : Int) (tb : Nat) (hs hs' hw hm : Nat → Int) (ks ks' kw km : Nat → Nat) (sb : Str) (ts oe he : Nat) (os xs : List Value) (k pc at_ : Int) (tk tp ta : Nat) (t1 t2 t3 ch : Nat) (cs : Str) : FinI (rn p b1 b2 (mC p Lm) (mTT p Lm) n t [ef oa (tup [sv n_one t1, sv n_any t2, .str cs t3]), et Lm (fq4 hs ks (.ref mi) (.ref ol) (.int bg tb) (.ref wa) (.ref ob) 5), et hd (hostD hs' ks' vd rf lg k tk), ef mi (inst 526 md), ef md (matD hm km (.str sb ts) hi hl), ef hi (inst 589 hd), ef ol (lst os oe), et wd (wayD hw kw ol pc tp at_ ta (.none)), ef wa (inst 449 wd)] (q318 (q316 (q31 []))) [(455126529904428302298986, .gv (fun _ => .bool false) 0), (128106587276438692081757506308484131437, .rd 7 (fun _ => .ref oa) 0), (7300717, .gv (fun t => .int (↑sb.length) (t + 1)) 2), (455126531311803185852266, .gv (fun _ => .bool true) 0), (500416356548588640944365259017385332, .gv (fun t => .str ({ cps := #[ch] }) t) 1), (128106709680535770272165659069392319860, .gv (fun _ => .bool false) 0)]) [8, 9, 10, 11, 12, 13, 14, 15] (.ok (.ret (.bool true))) (n + 7) (t + 53) [et Lm (fq4 hs ks (.ref mi) (.ref ol) (.int (bg) tb) (.ref wa) (.ref oa) 5), et hd (fq1 hs' ks' (.ref vd) (.int 9999 (ks' 6)) (.ref rf) (.int 64 (ks' 7)) (.int (k + 1) (t + 4)) (.ref lg) 6), ef mi (inst 526 md), ef md (fq6 hm km (.str (sb) ts) (.ref hi) (.ref hl) 3), ef hi (inst 589 hd), ef ol (lst (os) oe), et wd (fq7 hw kw (.ref ol) (.int (pc) tp) (.int (at_) ta) .none .none .none 6), ef wa (inst 449 wd)] [.gv 128106709680535770272165659069392319860 [.str (cs) t3, sv [ch] (t + 51)] (fun _ => .bool false) 0, .gv 500416356548588640944365259017385332 [.str (sb) ts, .int (at_) ta] (fun t => .str ({ cps := #[ch] }) t) 1, .gv 455126531311803185852266 [.int (at_) ta, .int (↑sb.length) (t + 50)] (fun _ => .bool true) 0, .gv 7300717 [.str (sb) ts] (fun t => .int (↑sb.length) (t + 1)) 2, .rd 128106587276438692081757506308484131437 [.ref ol, .int (pc) tp] ol (lst (os) oe) (fun _ => .ref oa) 0, .gv 455126529904428302298986 [.int (k + 1) (t + 4), .int 9999 (ks' 6)] (fun _ => .bool false) 0] := by show _ = _; cases b1 <;> kernel_rfl
theorem m_any_end_n (p : Params) (b1 b2 : Bool) (n t : Nat) (Lm hd wd hl vd lg wa mi md hi ol rf ob oa : Nat) (bg : Int) (tb : Nat) (hs hs' hw hm : Nat → Int) (ks ks' kw km : Nat → Nat) (sb : Str) (ts oe he : Nat) (os xs : List Value) (k pc at_ : Int) (tk tp ta : Nat) (t1 t2 t3 ch : Nat) (cs : Str) : FinI (rn p b1 b2 (mC p Lm) (mTT p Lm) n t [ef oa (tup [sv n_one t1, sv n_any t2, .str cs t3]), et Lm (fq4 hs ks (.ref mi) (.ref ol) (.int bg tb) (.ref wa) (.ref ob) 5), et hd (hostD hs' ks' vd rf lg k tk), ef mi (inst 526 md), ef md (matD hm km (.str sb ts) hi hl), ef hi (inst 589 hd), ef ol (lst os oe), et wd (wayD hw kw ol pc tp at_ ta (.none)), ef wa (inst 449 wd)] (q318 (q252 (q4 (q31 [])))) [(455126529904428302298986, .gv (fun _ => .bool false) 0), (128106587276438692081757506308484131437, .rd 7 (fun _ => .ref oa) 0), (7300717, .gv (fun t => .int (↑sb.length) (t + 1)) 2), (455126531311803185852266, .gv (fun _ => .bool false) 0)]) [8, 9, 10, 11, 12, 13, 14, 15] (.ok (.ret (.bool true))) (n + 7) (t + 52) [et Lm (fq4 hs ks (.ref mi) (.ref ol) (.int (bg) tb) (.ref wa) (.ref oa) 5), et hd (fq1 hs' ks' (.ref vd) (.int 9999 (ks' 6)) (.ref rf) (.int 64 (ks' 7)) (.int (k + 1) (t + 4)) (.ref lg) 6), ef mi (inst 526 md), ef md (fq6 hm km (.str (sb) ts) (.ref hi) (.ref hl) 3), ef hi (inst 589 hd), ef ol (lst (os) oe), et wd (fq7 hw kw (.ref ol) (.int (pc) tp) (.int (at_) ta) .none .none .none 6), ef wa (inst 449 wd)] [.gv 455126531311803185852266 [.int (at_) ta, .int (↑sb.length) (t + 50)] (fun _ => .bool false) 0, .gv 7300717 [.str (sb) ts] (fun t => .int (↑sb.length) (t + 1)) 2, .rd 128106587276438692081757506308484131437 [.ref ol, .int (pc) tp] ol (lst (os) oe) (fun _ => .ref oa) 0, .gv 455126529904428302298986 [.int (k + 1) (t + 4), .int 9999 (ks' 6)] (fun _ => .bool false) 0] := by show _ = _; cases b1 <;> kernel_rfl
theorem m_charsf_n (p : Params) (b1 b2 : Bool) (n t : Nat) (Lm hd wd hl vd lg wa mi md hi ol rf ob oa : Nat) (bg : Int) (tb : Nat) (hs hs' hw hm : Nat → Int) (ks ks' kw km : Nat → Nat) (sb : Str) (ts oe he : Nat) (os xs : List Value) (k pc at_ : Int) (tk tp ta : Nat) (t1 t2 t3 : Nat) : FinI (rn p b1 b2 (mC p Lm) (mTT p Lm) n t [ef oa (tup [sv n_one t1, sv n_chars t2, sv [] t3]), et Lm (fq4 hs ks (.ref mi) (.ref ol) (.int bg tb) (.ref wa) (.ref ob) 5), et hd (hostD hs' ks' vd rf lg k tk), ef mi (inst 526 md), ef md (matD hm km (.str sb ts) hi hl), ef hi (inst 589 hd), ef ol (lst os oe), et wd (wayD hw kw ol pc tp at_ ta (.none)), ef wa (inst 449 wd)] (q318 (q391 (q2 (hy 131 (q98 (q22 (q22 (hy 134 (q319 (q83 (hy 134 (q320 (q0 (q319 (q83 []))))))))))))))) [(455126529904428302298986, .gv (fun _ => .bool false) 0), (128106587276438692081757506308484131437, .rd 7 (fun _ => .ref oa) 0), (500416356548588640944365259017385332, .rd 0 (fun t => .str ({ cps := #[] }) t) 1)]) [9, 10, 11, 12, 13, 14, 15, 16] (.ok (.ret (.bool false))) (n + 8) (t + 56) [et Lm (fq4 hs ks (.ref mi) (.ref ol) (.int (bg) tb) (.ref wa) (.ref oa) 5), et hd (fq1 hs' ks' (.ref vd) (.int 9999 (ks' 6)) (.ref rf) (.int 64 (ks' 7)) (.int (k + 1) (t + 4)) (.ref lg) 6), ef mi (inst 526 md), ef md (fq6 hm km (.str (sb) ts) (.ref hi) (.ref hl) 3), ef hi (inst 589 hd), ef ol (lst (os) oe), et wd (fq7 hw kw (.ref ol) (.int (pc + 1) (t + 53)) (.int (at_ + 0) (t + 45)) .none .none .none 6), ef wa (inst 449 wd)] [.rd 500416356548588640944365259017385332 [.str (sb) ts, .ref (n + 7)] (n + 7) ({ cls := .type "slice", data := .fields ⟨[.int (at_) ta, .int (at_ + 0) (t + 45), .none]⟩ }) (fun t => .str ({ cps := #[] }) t) 1, .rd 128106587276438692081757506308484131437 [.ref ol, .int (pc) tp] ol (lst (os) oe) (fun _ => .ref oa) 0, .gv 455126529904428302298986 [.int (k + 1) (t + 4), .int 9999 (ks' 6)] (fun _ => .bool false) 0] := by show _ = _; cases b1 <;> kernel_rfl
theorem m_charsw_n (p : Params) (b1 b2 : Bool) (n t : Nat) (Lm hd wd hl vd lg wa mi md hi ol rf ob oa : Nat) (bg : Int) (tb : Nat) (hs hs' hw hm : Nat → Int) (ks ks' kw km : Nat → Nat) (sb : Str) (ts oe he : Nat) (os xs : List Value) (k pc at_ : Int) (tk tp ta : Nat) (t1 t2 t3 : Nat) : FinI (rn p b1 b2 (mC p Lm) (mTT p Lm) n t [ef oa (tup [sv n_one t1, sv n_chars t2, sv [] t3]), et Lm (fq4 hs ks (.ref mi) (.ref ol) (.int bg tb) (.ref wa) (.ref ob) 5), et hd (hostD hs' ks' vd rf lg k tk), ef mi (inst 526 md), ef md (matD hm km (.str sb ts) hi hl), ef hi (inst 589 hd), ef ol (lst os oe), et wd (wayD hw kw ol pc tp at_ ta (.none)), ef wa (inst 449 wd)] (q318 (q391 (q2 (hy 131 (q98 (q22 (q22 (hy 134 (q319 (q83 (hy 134 (q320 (q0 (q319 (q83 []))))))))))))))) [(455126529904428302298986, .gv (fun _ => .bool false) 0), (128106587276438692081757506308484131437, .rd 7 (fun _ => .ref oa) 0), (500416356548588640944365259017385332, .rd 0 (fun _ => sv [] ts) 0)]) [9, 10, 11, 12, 13, 14, 15, 16] (.ok (.ret (.bool false))) (n + 8) (t + 55) [et Lm (fq4 hs ks (.ref mi) (.ref ol) (.int (bg) tb) (.ref wa) (.ref oa) 5), et hd (fq1 hs' ks' (.ref vd) (.int 9999 (ks' 6)) (.ref rf) (.int 64 (ks' 7)) (.int (k + 1) (t + 4)) (.ref lg) 6), ef mi (inst 526 md), ef md (fq6 hm km (.str (sb) ts) (.ref hi) (.ref hl) 3), ef hi (inst 589 hd), ef ol (lst (os) oe), et wd (fq7 hw kw (.ref ol) (.int (pc + 1) (t + 52)) (.int (at_ + 0) (t + 45)) .none .none .none 6), ef wa (inst 449 wd)] [.rd 500416356548588640944365259017385332 [.str (sb) ts, .ref (n + 7)] (n + 7) ({ cls := .type "slice", data := .fields ⟨[.int (at_) ta, .int (at_ + 0) (t + 45), .none]⟩ }) (fun _ => sv [] ts) 0, .rd 128106587276438692081757506308484131437 [.ref ol, .int (pc) tp] ol (lst (os) oe) (fun _ => .ref oa) 0, .gv 455126529904428302298986 [.int (k + 1) (t + 4), .int 9999 (ks' 6)] (fun _ => .bool false) 0] := by show _ = _; cases b1 <;> kernel_rfl
theorem m_gain0f_n (p : Params) (b1 b2 : Bool) (n t : Nat) (Lm hd wd hl vd lg wa mi md hi ol rf ob oa : Nat) (bg : Int) (tb : Nat) (hs hs' hw hm : Nat → Int) (ks ks' kw km : Nat → Nat) (sb : Str) (ts oe he : Nat) (os xs : List Value) (k pc at_ : Int) (tk tp ta : Nat) (ma t1 tb2 : Nat) (b2_ : Int) (tx : Str) : FinI (rn p b1 b2 (mC p Lm) (mTT p Lm) n t [ef oa (tup [sv n_gain t1]), ef ma (tup [.none, .int b2_ tb2]), et Lm (fq4 hs ks (.ref mi) (.ref ol) (.int bg tb) (.ref wa) (.ref ob) 5), et hd (hostD hs' ks' vd rf lg k tk), ef mi (inst 526 md), ef md (matD hm km (.str sb ts) hi hl), ef hi (inst 589 hd), ef ol (lst os oe), et wd (wayD hw kw ol pc tp at_ ta (.ref ma)), ef wa (inst 449 wd)] (q397 (q4 [])) [(455126529904428302298986, .gv (fun _ => .bool false) 0), (128106587276438692081757506308484131437, .rd 8 (fun _ => .ref oa) 0), (500416356548588640944365259017385332, .rd 0 (fun t => .str (tx) t) 1), (455126529904428302298986, .gv (fun _ => .bool false) 0)]) [10, 11, 12, 13, 14, 15, 16, 17] (.ok (.ret (.bool true))) (n + 8) (t + 33) [et Lm (fq4 hs ks (.ref mi) (.ref ol) (.int (bg) tb) (.ref wa) (.ref oa) 5), et hd (fq1 hs' ks' (.ref vd) (.int 9999 (ks' 6)) (.ref rf) (.int 64 (ks' 7)) (.int (k + 1) (t + 4)) (.ref lg) 6), ef mi (inst 526 md), ef md (fq6 hm km (.str (sb) ts) (.ref hi) (.ref hl) 3), ef hi (inst 589 hd), ef ol (lst (os) oe), et wd (fq7 hw kw (.ref ol) (.int (pc) tp) (.int (at_) ta) .none .none .none 6), ef wa (inst 449 wd)] [.gv 455126529904428302298986 [.int (at_) ta, .int (b2_) tb2] (fun _ => .bool false) 0, .rd 500416356548588640944365259017385332 [.str (sb) ts, .ref (n + 7)] (n + 7) ({ cls := .type "slice", data := .fields ⟨[.int (b2_) tb2, .int (at_) ta, .none]⟩ }) (fun t => .str (tx) t) 1, .rd 128106587276438692081757506308484131437 [.ref ol, .int (pc) tp] ol (lst (os) oe) (fun _ => .ref oa) 0, .gv 455126529904428302298986 [.int (k + 1) (t + 4), .int 9999 (ks' 6)] (fun _ => .bool false) 0] := by show _ = _; cases b1 <;> kernel_rfl
theorem m_gain0w_n (p : Params) (b1 b2 : Bool) (n t : Nat) (Lm hd wd hl vd lg wa mi md hi ol rf ob oa : Nat) (bg : Int) (tb : Nat) (hs hs' hw hm : Nat → Int) (ks ks' kw km : Nat → Nat) (sb : Str) (ts oe he : Nat) (os xs : List Value) (k pc at_ : Int) (tk tp ta : Nat) (ma t1 tb2 : Nat) (b2_ : Int) (tx : Str) : FinI (rn p b1 b2 (mC p Lm) (mTT p Lm) n t [ef oa (tup [sv n_gain t1]), ef ma (tup [.none, .int b2_ tb2]), et Lm (fq4 hs ks (.ref mi) (.ref ol) (.int bg tb) (.ref wa) (.ref ob) 5), et hd (hostD hs' ks' vd rf lg k tk), ef mi (inst 526 md), ef md (matD hm km (.str sb ts) hi hl), ef hi (inst 589 hd), ef ol (lst os oe), et wd (wayD hw kw ol pc tp at_ ta (.ref ma)), ef wa (inst 449 wd)] (q397 (q4 [])) [(455126529904428302298986, .gv (fun _ => .bool false) 0), (128106587276438692081757506308484131437, .rd 8 (fun _ => .ref oa) 0), (500416356548588640944365259017385332, .rd 0 (fun _ => .str (sb) ts) 0), (455126529904428302298986, .gv (fun _ => .bool false) 0)]) [10, 11, 12, 13, 14, 15, 16, 17] (.ok (.ret (.bool true))) (n + 8) (t + 32) [et Lm (fq4 hs ks (.ref mi) (.ref ol) (.int (bg) tb) (.ref wa) (.ref oa) 5), et hd (fq1 hs' ks' (.ref vd) (.int 9999 (ks' 6)) (.ref rf) (.int 64 (ks' 7)) (.int (k + 1) (t + 4)) (.ref lg) 6), ef mi (inst 526 md), ef md (fq6 hm km (.str (sb) ts) (.ref hi) (.ref hl) 3), ef hi (inst 589 hd), ef ol (lst (os) oe), et wd (fq7 hw kw (.ref ol) (.int (pc) tp) (.int (at_) ta) .none .none .none 6), ef wa (inst 449 wd)] [.gv 455126529904428302298986 [.int (at_) ta, .int (b2_) tb2] (fun _ => .bool false) 0, .rd 500416356548588640944365259017385332 [.str (sb) ts, .ref (n + 7)] (n + 7) ({ cls := .type "slice", data := .fields ⟨[.int (b2_) tb2, .int (at_) ta, .none]⟩ }) (fun _ => .str (sb) ts) 0, .rd 128106587276438692081757506308484131437 [.ref ol, .int (pc) tp] ol (lst (os) oe) (fun _ => .ref oa) 0, .gv 455126529904428302298986 [.int (k + 1) (t + 4), .int 9999 (ks' 6)] (fun _ => .bool false) 0] := by show _ = _; cases b1 <;> kernel_rfl
theorem m_gain1f_n (p : Params) (b1 b2 : Bool) (n t : Nat) (Lm hd wd hl vd lg wa mi md hi ol rf ob oa : Nat) (bg : Int) (tb : Nat) (hs hs' hw hm : Nat → Int) (ks ks' kw km : Nat → Nat) (sb : Str) (ts oe he : Nat) (os xs : List Value) (k pc at_ : Int) (tk tp ta : Nat) (ma t1 tb2 : Nat) (b2_ : Int) (tx : Str) : FinI (rn p b1 b2 (mC p Lm) (mTT p Lm) n t [ef oa (tup [sv n_gain t1]), ef ma (tup [.none, .int b2_ tb2]), et Lm (fq4 hs ks (.ref mi) (.ref ol) (.int bg tb) (.ref wa) (.ref ob) 5), et hd (hostD hs' ks' vd rf lg k tk), ef mi (inst 526 md), ef md (matD hm km (.str sb ts) hi hl), ef hi (inst 589 hd), ef ol (lst os oe), et wd (wayD hw kw ol pc tp at_ ta (.ref ma)), ef wa (inst 449 wd)] (q397 (q4 (hy 135 (q314 (hy 145 (q0 (hy 146 (q5 (hy 146 (q0 (hy 2392082 (q3 (hy 38959071250 []))))))))))))) [(455126529904428302298986, .gv (fun _ => .bool false) 0), (128106587276438692081757506308484131437, .rd 8 (fun _ => .ref oa) 0), (500416356548588640944365259017385332, .rd 0 (fun t => .str (tx) t) 1), (455126529904428302298986, .gv (fun _ => .bool true) 0)]) [10, 11, 12, 13, 14, 15, 16, 17] (.ok (.ret (.bool false))) (n + 8) (t + 38) [et Lm (fq4 hs ks (.ref mi) (.ref ol) (.int (bg) tb) (.ref wa) (.ref oa) 5), et hd (fq1 hs' ks' (.ref vd) (.int 9999 (ks' 6)) (.ref rf) (.int 64 (ks' 7)) (.int (k + 1) (t + 4)) (.ref lg) 6), ef mi (inst 526 md), ef md (fq6 hm km (.str (sb) ts) (.ref hi) (.ref hl) 3), ef hi (inst 589 hd), ef ol (lst (os) oe), et wd (fq7 hw kw (.ref ol) (.int (pc + 1) (t + 35)) (.int (at_) ta) .none .none .none 6), ef wa (inst 449 wd)] [.gv 455126529904428302298986 [.int (at_) ta, .int (b2_) tb2] (fun _ => .bool true) 0, .rd 500416356548588640944365259017385332 [.str (sb) ts, .ref (n + 7)] (n + 7) ({ cls := .type "slice", data := .fields ⟨[.int (b2_) tb2, .int (at_) ta, .none]⟩ }) (fun t => .str (tx) t) 1, .rd 128106587276438692081757506308484131437 [.ref ol, .int (pc) tp] ol (lst (os) oe) (fun _ => .ref oa) 0, .gv 455126529904428302298986 [.int (k + 1) (t + 4), .int 9999 (ks' 6)] (fun _ => .bool false) 0] := by show _ = _; cases b1 <;> kernel_rfl
theorem m_gain1w_n (p : Params) (b1 b2 : Bool) (n t : Nat) (Lm hd wd hl vd lg wa mi md hi ol rf ob oa : Nat) (bg : Int) (tb : Nat) (hs hs' hw hm : Nat → Int) (ks ks' kw km : Nat → Nat) (sb : Str) (ts oe he : Nat) (os xs : List Value) (k pc at_ : Int) (tk tp ta : Nat) (ma t1 tb2 : Nat) (b2_ : Int) (tx : Str) : FinI (rn p b1 b2 (mC p Lm) (mTT p Lm) n t [ef oa (tup [sv n_gain t1]), ef ma (tup [.none, .int b2_ tb2]), et Lm (fq4 hs ks (.ref mi) (.ref ol) (.int bg tb) (.ref wa) (.ref ob) 5), et hd (hostD hs' ks' vd rf lg k tk), ef mi (inst 526 md), ef md (matD hm km (.str sb ts) hi hl), ef hi (inst 589 hd), ef ol (lst os oe), et wd (wayD hw kw ol pc tp at_ ta (.ref ma)), ef wa (inst 449 wd)] (q397 (q4 (hy 135 (q314 (hy 145 (q0 (hy 146 (q5 (hy 146 (q0 (hy 2392082 (q3 (hy 38959071250 []))))))))))))) [(455126529904428302298986, .gv (fun _ => .bool false) 0), (128106587276438692081757506308484131437, .rd 8 (fun _ => .ref oa) 0), (500416356548588640944365259017385332, .rd 0 (fun _ => .str (sb) ts) 0), (455126529904428302298986, .gv (fun _ => .bool true) 0)]) [10, 11, 12, 13, 14, 15, 16, 17] (.ok (.ret (.bool false))) (n + 8) (t + 37) [et Lm (fq4 hs ks (.ref mi) (.ref ol) (.int (bg) tb) (.ref wa) (.ref oa) 5), et hd (fq1 hs' ks' (.ref vd) (.int 9999 (ks' 6)) (.ref rf) (.int 64 (ks' 7)) (.int (k + 1) (t + 4)) (.ref lg) 6), ef mi (inst 526 md), ef md (fq6 hm km (.str (sb) ts) (.ref hi) (.ref hl) 3), ef hi (inst 589 hd), ef ol (lst (os) oe), et wd (fq7 hw kw (.ref ol) (.int (pc + 1) (t + 34)) (.int (at_) ta) .none .none .none 6), ef wa (inst 449 wd)] [.gv 455126529904428302298986 [.int (at_) ta, .int (b2_) tb2] (fun _ => .bool true) 0, .rd 500416356548588640944365259017385332 [.str (sb) ts, .ref (n + 7)] (n + 7) ({ cls := .type "slice", data := .fields ⟨[.int (b2_) tb2, .int (at_) ta, .none]⟩ }) (fun _ => .str (sb) ts) 0, .rd 128106587276438692081757506308484131437 [.ref ol, .int (pc) tp] ol (lst (os) oe) (fun _ => .ref oa) 0, .gv 455126529904428302298986 [.int (k + 1) (t + 4), .int 9999 (ks' 6)] (fun _ => .bool false) 0] := by show _ = _; cases b1 <;> kernel_rfl
theorem m_place0_n (p : Params) (b1 b2 : Bool) (n t : Nat) (Lm hd wd hl vd lg wa mi md hi ol rf ob oa : Nat) (bg : Int) (tb : Nat) (hs hs' hw hm : Nat → Int) (ks ks' kw km : Nat → Nat) (sb : Str) (ts oe he : Nat) (os xs : List Value) (k pc at_ : Int) (tk tp ta : Nat) (t1 re rj dj ve le : Nat) (hj : Nat → Int) (kj : Nat → Nat) (ls : List Value) : FinI (rn p b1 b2 (mC p Lm) (mTT p Lm) n t [ef oa (tup [sv n_place t1, .ref rj]), et Lm (fq4 hs ks (.ref mi) (.ref ol) (.int bg tb) (.ref wa) (.ref ob) 5), et hd (hostD hs' ks' vd rf lg k tk), et vd (di [] ve), et lg (lst ls le), ef mi (inst 526 md), ef md (matD hm km (.str sb ts) hi hl), ef hi (inst 589 hd), ef ol (lst os oe), ef rf (lst [] re), ef rj (inst 208 dj), ef dj (refD hj kj), et wd (wayD hw kw ol pc tp at_ ta (.none)), ef wa (inst 449 wd)] (q17 (q90 (q22 (hy 17280 (q291 (hy 16776 (q8 (q16 (q255 (hy 132 (q0 (hy 137 (q5 (q46 (q19 (hy 137 (q3 (q19 (q25 (hy 129 (q255 (hy 16516 (q255 (hy 132 (q35 (q186 (hy 2148096 (q186 (hy 73790427068794624 (q4 (q6 (q106 (q106 (q236 (hy 136 (q188 (q317 (hy 130 (q36 (q255 (hy 17802 (q3 (hy 139 (q3 (hy 139 (q5 (hy 2130699 (q192 (hy 130 (q320 (q61 (q186 (hy 2115584 (q254 (hy 4879112438656 (q0 (hy 142 (q1 (q254 (hy 2114432 (q186 (hy 18432 (q21 (hy 270582784 (q254 (hy 567659672519552 (q186 (hy 18432 (q2 (hy 308347274 (q5 (hy 147 (q3 (hy 306186643 (q0 (hy 147 (q5 (hy 147 (q0 (hy 2408467 (q3 (hy 16403 (q187 []))))))))))))))))))))))))))))))))))))))))))))))))))))))))))))))))))))))))))))))))))) [(455126529904428302298986, .gv (fun _ => .bool false) 0), (128106587276438692081757506308484131437, .rd 9 (fun _ => .ref oa) 0), (128106587276438692082622197436938218085, .up 7 ({ cls := .type "dict", data := .dict ⟨[ek p [74] (kj 4) (.int (at_) ta)]⟩ (ve + 1) }) .none 1), (122627580202994350266018413, .up 9 (lst (ls ++ [Value.ref n.succ.succ.succ.succ]) (le + 1)) .none 0)]) [0, 6, 7, 8, 9, 10, 11, 12, 13, 14, 15, 16, 17, 18] (.ok (.ret (.bool false))) (n + 5) (t + 37) [ef (n + 4) (tup [sv [74] (kj 4), .int (at_) ta]), et Lm (fq4 hs ks (.ref mi) (.ref ol) (.int (bg) tb) (.ref wa) (.ref oa) 5), et hd (fq1 hs' ks' (.ref vd) (.int 9999 (ks' 6)) (.ref rf) (.int 64 (ks' 7)) (.int (k + 1) (t + 4)) (.ref lg) 6), ⟨vd, { cls := .type "dict", data := .dict ⟨[ek p [74] (kj 4) (.int (at_) ta)]⟩ (ve + 1) }, true⟩, et lg (lst (ls ++ [Value.ref n.succ.succ.succ.succ]) (le + 1)), ef mi (inst 526 md), ef md (fq6 hm km (.str (sb) ts) (.ref hi) (.ref hl) 3), ef hi (inst 589 hd), ef ol (lst (os) oe), ef rf (lst [] re), ef rj (inst 208 dj), ⟨dj, { cls := .type "dict", data := .dict ⟨[eh hj kj 0 n_kind (sv n_var (kj 1)), ⟨hj 1, sv n_owner (kj 2), .none⟩, ⟨hj 2, sv n_key (kj 3), sv [74] (kj 4)⟩]⟩ 3 }, false⟩, et wd (fq7 hw kw (.ref ol) (.int (pc + 1) (t + 34)) (.int (at_) ta) .none .none .none 6), ef wa (inst 449 wd)] [.up 122627580202994350266018413 [.ref lg, .ref (n + 4)] lg (lst (ls) le) (lst (ls ++ [Value.ref n.succ.succ.succ.succ]) (le + 1)) .none 0, .up 128106587276438692082622197436938218085 [.ref vd, sv [74] (kj 4), .int (at_) ta] vd (di [] ve) ({ cls := .type "dict", data := .dict ⟨[ek p [74] (kj 4) (.int (at_) ta)]⟩ (ve + 1) }) .none 1, .rd 128106587276438692081757506308484131437 [.ref ol, .int (pc) tp] ol (lst (os) oe) (fun _ => .ref oa) 0, .gv 455126529904428302298986 [.int (k + 1) (t + 4), .int 9999 (ks' 6)] (fun _ => .bool false) 0] := by show _ = _; cases b1 <;> kernel_rfl
theorem m_place1_n (p : Params) (b1 b2 : Bool) (n t : Nat) (Lm hd wd hl vd lg wa mi md hi ol rf ob oa : Nat) (bg : Int) (tb : Nat) (hs hs' hw hm : Nat → Int) (ks ks' kw km : Nat → Nat) (sb : Str) (ts oe he : Nat) (os xs : List Value) (k pc at_ : Int) (tk tp ta : Nat) (t1 re rj dj ve le : Nat) (hj : Nat → Int) (kj : Nat → Nat) (ls : List Value) (kJ tJ : Nat) (vJ : Int) : FinI (rn p b1 b2 (mC p Lm) (mTT p Lm) n t [ef oa (tup [sv n_place t1, .ref rj]), et Lm (fq4 hs ks (.ref mi) (.ref ol) (.int bg tb) (.ref wa) (.ref ob) 5), et hd (hostD hs' ks' vd rf lg k tk), et vd (fq8 p kJ (.int vJ tJ) ve), et lg (lst ls le), ef mi (inst 526 md), ef md (matD hm km (.str sb ts) hi hl), ef hi (inst 589 hd), ef ol (lst os oe), ef rf (lst [] re), ef rj (inst 208 dj), ef dj (refD hj kj), et wd (wayD hw kw ol pc tp at_ ta (.none)), ef wa (inst 449 wd)] (q17 (q90 (q22 (hy 17280 (q291 (hy 16776 (q8 (q16 (q255 (hy 132 (q0 (hy 137 (q5 (q46 (q19 (hy 137 (q3 (q19 (q25 (hy 129 (q255 (hy 16516 (q255 (hy 132 (q35 (q186 (hy 2148096 (q186 (hy 73790427068794624 (q4 (q6 (q106 (q106 (q236 (hy 136 (q188 (q317 (hy 130 (q36 (q255 (hy 17802 (q3 (hy 139 (q3 (hy 139 (q5 (hy 2130699 (q192 (hy 130 (q320 (q61 (q186 (hy 2115584 (q254 (hy 4879112438656 (q0 (hy 142 (q1 (q254 (hy 2114432 (q186 (hy 18432 (q21 (hy 270582784 (q254 (hy 567659672519552 (q186 (hy 18432 (q2 (hy 308347274 (q5 (hy 147 (q3 (hy 306186643 (q0 (hy 147 (q5 (hy 147 (q0 (hy 2408467 (q3 (hy 16403 (q187 []))))))))))))))))))))))))))))))))))))))))))))))))))))))))))))))))))))))))))))))))))) [(455126529904428302298986, .gv (fun _ => .bool false) 0), (128106587276438692081757506308484131437, .rd 9 (fun _ => .ref oa) 0), (128106587276438692082622197436938218085, .up 7 (fq8 p kJ (.int (at_) ta) ve) .none 1), (122627580202994350266018413, .up 9 (lst (ls ++ [Value.ref n.succ.succ.succ.succ]) (le + 1)) .none 0)]) [0, 6, 7, 8, 9, 10, 11, 12, 13, 14, 15, 16, 17, 18] (.ok (.ret (.bool false))) (n + 5) (t + 37) [ef (n + 4) (tup [sv [74] (kj 4), .int (at_) ta]), et Lm (fq4 hs ks (.ref mi) (.ref ol) (.int (bg) tb) (.ref wa) (.ref oa) 5), et hd (fq1 hs' ks' (.ref vd) (.int 9999 (ks' 6)) (.ref rf) (.int 64 (ks' 7)) (.int (k + 1) (t + 4)) (.ref lg) 6), et vd (fq8 p kJ (.int (at_) ta) ve), et lg (lst (ls ++ [Value.ref n.succ.succ.succ.succ]) (le + 1)), ef mi (inst 526 md), ef md (fq6 hm km (.str (sb) ts) (.ref hi) (.ref hl) 3), ef hi (inst 589 hd), ef ol (lst (os) oe), ef rf (lst [] re), ef rj (inst 208 dj), ⟨dj, { cls := .type "dict", data := .dict ⟨[eh hj kj 0 n_kind (sv n_var (kj 1)), ⟨hj 1, sv n_owner (kj 2), .none⟩, ⟨hj 2, sv n_key (kj 3), sv [74] (kj 4)⟩]⟩ 3 }, false⟩, et wd (fq7 hw kw (.ref ol) (.int (pc + 1) (t + 34)) (.int (at_) ta) .none .none .none 6), ef wa (inst 449 wd)] [.up 122627580202994350266018413 [.ref lg, .ref (n + 4)] lg (lst (ls) le) (lst (ls ++ [Value.ref n.succ.succ.succ.succ]) (le + 1)) .none 0, .up 128106587276438692082622197436938218085 [.ref vd, sv [74] (kj 4), .int (at_) ta] vd (fq8 p kJ (.int (vJ) tJ) ve) (fq8 p kJ (.int (at_) ta) ve) .none 1, .rd 128106587276438692081757506308484131437 [.ref ol, .int (pc) tp] ol (lst (os) oe) (fun _ => .ref oa) 0, .gv 455126529904428302298986 [.int (k + 1) (t + 4), .int 9999 (ks' 6)] (fun _ => .bool false) 0] := by show _ = _; cases b1 <;> kernel_rfl
theorem m_split_r (p : Params) (b1 b2 : Bool) (n t : Nat) (Lm hd wd hl vd lg wa mi md hi ol rf ob oa : Nat) (bg : Int) (tb : Nat) (hs hs' hw hm : Nat → Int) (ks ks' kw km : Nat → Nat) (sb : Str) (ts oe he : Nat) (os xs : List Value) (k pc at_ : Int) (tk tp ta : Nat) (mk : Nat) (t1 tg : Nat) (g : Int) : FinI (rn p b1 b2 (mC p Lm) (mTT p Lm) n t [ef oa (tup [sv n_split t1, .int g tg]), et Lm (fq4 hs ks (.ref mi) (.ref ol) (.int bg tb) (.ref wa) (.ref ob) 5), et hd (hostD hs' ks' vd rf lg k tk), et hl (lst xs he), ef mi (inst 526 md), ef md (matD hm km (.str sb ts) hi hl), ef hi (inst 589 hd), ef ol (lst os oe), et wd (wayD hw kw ol pc tp at_ ta (.ref mk)), ef wa (inst 449 wd)] (q17 (q290 (q18 (q24 (q236 (hy 131 (q8 (q16 (q359 (q389 (q25 (hy 129 (q359 (hy 129 (q359 (q35 (q207 (hy 131 (q207 (q33 (hy 16777 (q4 (q6 (q106 (q106 (q128 (hy 17286 (q188 (q38 (q38 (q76 (q14 (hy 17408 (q22 (q22 (hy 17921 (q3 (hy 140 (q3 (q189 (hy 139 (q49 (q12 (q8 (q1 (q1 (q34 (q190 (q1 (q190 (hy 129 (q190 (hy 129 (q190 (hy 129 (q190 (q394 (q191 (q191 (hy 2147584 (q395 (q360 [])))))))))))))))))))))))))))))))))))))))))))))))))))))))))))))) [(455126529904428302298986, .gv (fun _ => .bool false) 0), (128106587276438692081757506308484131437, .rd 8 (fun _ => .ref oa) 0), (122627580202994350266018413, .up 9 (lst (xs ++ [Value.ref n.succ.succ.succ.succ]) (he + 1)) .none 0)]) [1, 2, 7, 8, 9, 10, 11, 12, 13, 14, 15] (.ok (.ret (.bool false))) (n + 6) (t + 52) [et (n + 4) (inst 449 (n + 3)), et (n + 3) (fq5 p (t + 36) (.ref ol) (t + 38) (.int (g) tg) (t + 40) (.int (at_) ta) (t + 42) .none (t + 44) (.ref mk) (t + 46) .none 6), et Lm (fq4 hs ks (.ref mi) (.ref ol) (.int (bg) tb) (.ref wa) (.ref oa) 5), et hd (fq1 hs' ks' (.ref vd) (.int 9999 (ks' 6)) (.ref rf) (.int 64 (ks' 7)) (.int (k + 1) (t + 4)) (.ref lg) 6), et hl (lst (xs ++ [Value.ref n.succ.succ.succ.succ]) (he + 1)), ef mi (inst 526 md), ef md (fq6 hm km (.str (sb) ts) (.ref hi) (.ref hl) 3), ef hi (inst 589 hd), ef ol (lst (os) oe), et wd (fq7 hw kw (.ref ol) (.int (pc + 1) (t + 49)) (.int (at_) ta) .none (.ref mk) .none 6), ef wa (inst 449 wd)] [.up 122627580202994350266018413 [.ref hl, .ref (n + 4)] hl (lst (xs) he) (lst (xs ++ [Value.ref n.succ.succ.succ.succ]) (he + 1)) .none 0, .rd 128106587276438692081757506308484131437 [.ref ol, .int (pc) tp] ol (lst (os) oe) (fun _ => .ref oa) 0, .gv 455126529904428302298986 [.int (k + 1) (t + 4), .int 9999 (ks' 6)] (fun _ => .bool false) 0] := by show _ = _; cases b1 <;> kernel_rfl
theorem m_jump_r (p : Params) (b1 b2 : Bool) (n t : Nat) (Lm hd wd hl vd lg wa mi md hi ol rf ob oa : Nat) (bg : Int) (tb : Nat) (hs hs' hw hm : Nat → Int) (ks ks' kw km : Nat → Nat) (sb : Str) (ts oe he : Nat) (os xs : List Value) (k pc at_ : Int) (tk tp ta : Nat) (mk : Nat) (t1 tg : Nat) (g : Int) : FinI (rn p b1 b2 (mC p Lm) (mTT p Lm) n t [ef oa (tup [sv n_jump t1, .int g tg]), et Lm (fq4 hs ks (.ref mi) (.ref ol) (.int bg tb) (.ref wa) (.ref ob) 5), et hd (hostD hs' ks' vd rf lg k tk), ef mi (inst 526 md), ef md (matD hm km (.str sb ts) hi hl), ef hi (inst 589 hd), ef ol (lst os oe), et wd (wayD hw kw ol pc tp at_ ta (.ref mk)), ef wa (inst 449 wd)] (q241 (q38 (q38 (q38 (q30 (q12 (hy 17793 (q5 (hy 139 (q0 (hy 2277387 (q3 (hy 16395 (q73 [])))))))))))))) [(455126529904428302298986, .gv (fun _ => .bool false) 0), (128106587276438692081757506308484131437, .rd 7 (fun _ => .ref oa) 0)]) [3, 4, 5, 6, 7, 8, 9, 10] (.ok (.ret (.bool false))) (n + 2) (t + 22) [et Lm (fq4 hs ks (.ref mi) (.ref ol) (.int (bg) tb) (.ref wa) (.ref oa) 5), et hd (fq1 hs' ks' (.ref vd) (.int 9999 (ks' 6)) (.ref rf) (.int 64 (ks' 7)) (.int (k + 1) (t + 4)) (.ref lg) 6), ef mi (inst 526 md), ef md (fq6 hm km (.str (sb) ts) (.ref hi) (.ref hl) 3), ef hi (inst 589 hd), ef ol (lst (os) oe), et wd (fq7 hw kw (.ref ol) (.int (g) tg) (.int (at_) ta) .none (.ref mk) .none 6), ef wa (inst 449 wd)] [.rd 128106587276438692081757506308484131437 [.ref ol, .int (pc) tp] ol (lst (os) oe) (fun _ => .ref oa) 0, .gv 455126529904428302298986 [.int (k + 1) (t + 4), .int 9999 (ks' 6)] (fun _ => .bool false) 0] := by show _ = _; cases b1 <;> kernel_rfl
theorem m_mark_r (p : Params) (b1 b2 : Bool) (n t : Nat) (Lm hd wd hl vd lg wa mi md hi ol rf ob oa : Nat) (bg : Int) (tb : Nat) (hs hs' hw hm : Nat → Int) (ks ks' kw km : Nat → Nat) (sb : Str) (ts oe he : Nat) (os xs : List Value) (k pc at_ : Int) (tk tp ta : Nat) (mk : Nat) (t1 : Nat) : FinI (rn p b1 b2 (mC p Lm) (mTT p Lm) n t [ef oa (tup [sv n_mark t1]), et Lm (fq4 hs ks (.ref mi) (.ref ol) (.int bg tb) (.ref wa) (.ref ob) 5), et hd (hostD hs' ks' vd rf lg k tk), ef mi (inst 526 md), ef md (matD hm km (.str sb ts) hi hl), ef hi (inst 589 hd), ef ol (lst os oe), et wd (wayD hw kw ol pc tp at_ ta (.ref mk)), ef wa (inst 449 wd)] (q241 (q38 (q38 (q38 (q38 (q207 (hy 129 (q207 (hy 130 (q396 (hy 130 (q254 (hy 17792 (q0 (q396 []))))))))))))))) [(455126529904428302298986, .gv (fun _ => .bool false) 0), (128106587276438692081757506308484131437, .rd 7 (fun _ => .ref oa) 0)]) [0, 4, 5, 6, 7, 8, 9, 10, 11] (.ok (.ret (.bool false))) (n + 3) (t + 28) [ef (n + 2) (tup [.ref mk, .int (at_) ta]), et Lm (fq4 hs ks (.ref mi) (.ref ol) (.int (bg) tb) (.ref wa) (.ref oa) 5), et hd (fq1 hs' ks' (.ref vd) (.int 9999 (ks' 6)) (.ref rf) (.int 64 (ks' 7)) (.int (k + 1) (t + 4)) (.ref lg) 6), ef mi (inst 526 md), ef md (fq6 hm km (.str (sb) ts) (.ref hi) (.ref hl) 3), ef hi (inst 589 hd), ef ol (lst (os) oe), et wd (fq7 hw kw (.ref ol) (.int (pc + 1) (t + 25)) (.int (at_) ta) .none (.ref (n + 2)) .none 6), ef wa (inst 449 wd)] [.rd 128106587276438692081757506308484131437 [.ref ol, .int (pc) tp] ol (lst (os) oe) (fun _ => .ref oa) 0, .gv 455126529904428302298986 [.int (k + 1) (t + 4), .int 9999 (ks' 6)] (fun _ => .bool false) 0] := by show _ = _; cases b1 <;> kernel_rfl
theorem m_fail_r (p : Params) (b1 b2 : Bool) (n t : Nat) (Lm hd wd hl vd lg wa mi md hi ol rf ob oa : Nat) (bg : Int) (tb : Nat) (hs hs' hw hm : Nat → Int) (ks ks' kw km : Nat → Nat) (sb : Str) (ts oe he : Nat) (os xs : List Value) (k pc at_ : Int) (tk tp ta : Nat) (mk : Nat) (t1 : Nat) : FinI (rn p b1 b2 (mC p Lm) (mTT p Lm) n t [ef oa (tup [sv n_fail t1]), et Lm (fq4 hs ks (.ref mi) (.ref ol) (.int bg tb) (.ref wa) (.ref ob) 5), et hd (hostD hs' ks' vd rf lg k tk), ef mi (inst 526 md), ef md (matD hm km (.str sb ts) hi hl), ef hi (inst 589 hd), ef ol (lst os oe), et wd (wayD hw kw ol pc tp at_ ta (.ref mk)), ef wa (inst 449 wd)] (q241 (q317 (hy 130 (q36 (q236 (hy 136 (q17 (q61 (q57 (q20 (q3 []))))))))))) [(455126529904428302298986, .gv (fun _ => .bool false) 0), (128106587276438692081757506308484131437, .rd 7 (fun _ => .ref oa) 0)]) [5, 6, 7, 8, 9, 10, 11, 12] (.ok (.ret (.bool true))) (n + 4) (t + 24) [et Lm (fq4 hs ks (.ref mi) (.ref ol) (.int (bg) tb) (.ref wa) (.ref oa) 5), et hd (fq1 hs' ks' (.ref vd) (.int 9999 (ks' 6)) (.ref rf) (.int 64 (ks' 7)) (.int (k + 1) (t + 4)) (.ref lg) 6), ef mi (inst 526 md), ef md (fq6 hm km (.str (sb) ts) (.ref hi) (.ref hl) 3), ef hi (inst 589 hd), ef ol (lst (os) oe), et wd (fq7 hw kw (.ref ol) (.int (pc) tp) (.int (at_) ta) .none (.ref mk) .none 6), ef wa (inst 449 wd)] [.rd 128106587276438692081757506308484131437 [.ref ol, .int (pc) tp] ol (lst (os) oe) (fun _ => .ref oa) 0, .gv 455126529904428302298986 [.int (k + 1) (t + 4), .int 9999 (ks' 6)] (fun _ => .bool false) 0] := by show _ = _; cases b1 <;> kernel_rfl
theorem m_any_hit_r (p : Params) (b1 b2 : Bool) (n t : Nat) (Lm hd wd hl vd lg wa mi md hi ol rf ob oa : Nat) (bg : Int) (tb : Nat) (hs hs' hw hm : Nat → Int) (ks ks' kw km : Nat → Nat) (sb : Str) (ts oe he : Nat) (os xs : List Value) (k pc at_ : Int) (tk tp ta : Nat) (mk : Nat) (t1 t2 t3 ch : Nat) (cs : Str) : FinI (rn p b1 b2 (mC p Lm) (mTT p Lm) n t [ef oa (tup [sv n_one t1, sv n_any t2, .str cs t3]), et Lm (fq4 hs ks (.ref mi) (.ref ol) (.int bg tb) (.ref wa) (.ref ob) 5), et hd (hostD hs' ks' vd rf lg k tk), ef mi (inst 526 md), ef md (matD hm km (.str sb ts) hi hl), ef hi (inst 589 hd), ef ol (lst os oe), et wd (wayD hw kw ol pc tp at_ ta (.ref mk)), ef wa (inst 449 wd)] (q318 (q316 (q13 (q18 (q31 (hy 144 (q5 (hy 144 (q360 (q395 (q360 []))))))))))) [(455126529904428302298986, .gv (fun _ => .bool false) 0), (128106587276438692081757506308484131437, .rd 7 (fun _ => .ref oa) 0), (7300717, .gv (fun t => .int (↑sb.length) (t + 1)) 2), (455126531311803185852266, .gv (fun _ => .bool true) 0), (500416356548588640944365259017385332, .gv (fun t => .str ({ cps := #[ch] }) t) 1), (128106709680535770272165659069392319860, .gv (fun _ => .bool true) 0)]) [8, 9, 10, 11, 12, 13, 14, 15] (.ok (.ret (.bool false))) (n + 7) (t + 62) [et Lm (fq4 hs ks (.ref mi) (.ref ol) (.int (bg) tb) (.ref wa) (.ref oa) 5), et hd (fq1 hs' ks' (.ref vd) (.int 9999 (ks' 6)) (.ref rf) (.int 64 (ks' 7)) (.int (k + 1) (t + 4)) (.ref lg) 6), ef mi (inst 526 md), ef md (fq6 hm km (.str (sb) ts) (.ref hi) (.ref hl) 3), ef hi (inst 589 hd), ef ol (lst (os) oe), et wd (fq7 hw kw (.ref ol) (.int (pc + 1) (t + 59)) (.int (at_ + 1) (t + 53)) .none (.ref mk) .none 6), ef wa (inst 449 wd)] [.gv 128106709680535770272165659069392319860 [.str (cs) t3, sv [ch] (t + 51)] (fun _ => .bool true) 0, .gv 500416356548588640944365259017385332 [.str (sb) ts, .int (at_) ta] (fun t => .str ({ cps := #[ch] }) t) 1, .gv 455126531311803185852266 [.int (at_) ta, .int (↑sb.length) (t + 50)] (fun _ => .bool true) 0, .gv 7300717 [.str (sb) ts] (fun t => .int (↑sb.length) (t + 1)) 2, .rd 128106587276438692081757506308484131437 [.ref ol, .int (pc) tp] ol (lst (os) oe) (fun _ => .ref oa) 0, .gv 455126529904428302298986 [.int (k + 1) (t + 4), .int 9999 (ks' 6)] (fun _ => .bool false) 0] := by show _ = _; cases b1 <;> kernel_rfl
theorem m_any_miss_r (p : Params) (b1 b2 : Bool) (n t : Nat) (Lm hd wd hl vd lg wa mi md hi ol rf ob oa : Nat) (bg : Int) (tb : Nat) (hs hs' hw hm : Nat → Int) (ks ks' kw km : Nat → Nat) (sb : Str) (ts oe he : Nat) (os xs : List Value) (k pc at_ : Int) (tk tp ta : Nat) (mk : Nat) (t1 t2 t3 ch : Nat) (cs : Str) : FinI (rn p b1 b2 (mC p Lm) (mTT p Lm) n t [ef oa (tup [sv n_one t1, sv n_any t2, .str cs t3]), et Lm (fq4 hs ks (.ref mi) (.ref ol) (.int bg tb) (.ref wa) (.ref ob) 5), et hd (hostD hs' ks' vd rf lg k tk), ef mi (inst 526 md), ef md (matD hm km (.str sb ts) hi hl), ef hi (inst 589 hd), ef ol (lst os oe), et wd (wayD hw kw ol pc tp at_ ta (.ref mk)), ef wa (inst 449 wd)] (q318 (q316 (q31 []))) [(455126529904428302298986, .gv (fun _ => .bool false) 0), (128106587276438692081757506308484131437, .rd 7 (fun _ => .ref oa) 0), (7300717, .gv (fun t => .int (↑sb.length) (t + 1)) 2), (455126531311803185852266, .gv (fun _ => .bool true) 0), (500416356548588640944365259017385332, .gv (fun t => .str ({ cps := #[ch] }) t) 1), (128106709680535770272165659069392319860, .gv (fun _ => .bool false) 0)]) [8, 9, 10, 11, 12, 13, 14, 15] (.ok (.ret (.bool true))) (n + 7) (t + 53) [et Lm (fq4 hs ks (.ref mi) (.ref ol) (.int (bg) tb) (.ref wa) (.ref oa) 5), et hd (fq1 hs' ks' (.ref vd) (.int 9999 (ks' 6)) (.ref rf) (.int 64 (ks' 7)) (.int (k + 1) (t + 4)) (.ref lg) 6), ef mi (inst 526 md), ef md (fq6 hm km (.str (sb) ts) (.ref hi) (.ref hl) 3), ef hi (inst 589 hd), ef ol (lst (os) oe), et wd (fq7 hw kw (.ref ol) (.int (pc) tp) (.int (at_) ta) .none (.ref mk) .none 6), ef wa (inst 449 wd)] [.gv 128106709680535770272165659069392319860 [.str (cs) t3, sv [ch] (t + 51)] (fun _ => .bool false) 0, .gv 500416356548588640944365259017385332 [.str (sb) ts, .int (at_) ta] (fun t => .str ({ cps := #[ch] }) t) 1, .gv 455126531311803185852266 [.int (at_) ta, .int (↑sb.length) (t + 50)] (fun _ => .bool true) 0, .gv 7300717 [.str (sb) ts] (fun t => .int (↑sb.length) (t + 1)) 2, .rd 128106587276438692081757506308484131437 [.ref ol, .int (pc) tp] ol (lst (os) oe) (fun _ => .ref oa) 0, .gv 455126529904428302298986 [.int (k + 1) (t + 4), .int 9999 (ks' 6)] (fun _ => .bool false) 0] := by show _ = _; cases b1 <;> kernel_rfl
theorem m_any_end_r (p : Params) (b1 b2 : Bool) (n t : Nat) (Lm hd wd hl vd lg wa mi md hi ol rf ob oa : Nat) (bg : Int) (tb : Nat) (hs hs' hw hm : Nat → Int) (ks ks' kw km : Nat → Nat) (sb : Str) (ts oe he : Nat) (os xs : List Value) (k pc at_ : Int) (tk tp ta : Nat) (mk : Nat) (t1 t2 t3 ch : Nat) (cs : Str) : FinI (rn p b1 b2 (mC p Lm) (mTT p Lm) n t [ef oa (tup [sv n_one t1, sv n_any t2, .str cs t3]), et Lm (fq4 hs ks (.ref mi) (.ref ol) (.int bg tb) (.ref wa) (.ref ob) 5), et hd (hostD hs' ks' vd rf lg k tk), ef mi (inst 526 md), ef md (matD hm km (.str sb ts) hi hl), ef hi (inst 589 hd), ef ol (lst os oe), et wd (wayD hw kw ol pc tp at_ ta (.ref mk)), ef wa (inst 449 wd)] (q318 (q252 (q4 (q31 [])))) [(455126529904428302298986, .gv (fun _ => .bool false) 0), (128106587276438692081757506308484131437, .rd 7 (fun _ => .ref oa) 0), (7300717, .gv (fun t => .int (↑sb.length) (t + 1)) 2), (455126531311803185852266, .gv (fun _ => .bool false) 0)]) [8, 9, 10, 11, 12, 13, 14, 15] (.ok (.ret (.bool true))) (n + 7) (t + 52) [et Lm (fq4 hs ks (.ref mi) (.ref ol) (.int (bg) tb) (.ref wa) (.ref oa) 5), et hd (fq1 hs' ks' (.ref vd) (.int 9999 (ks' 6)) (.ref rf) (.int 64 (ks' 7)) (.int (k + 1) (t + 4)) (.ref lg) 6), ef mi (inst 526 md), ef md (fq6 hm km (.str (sb) ts) (.ref hi) (.ref hl) 3), ef hi (inst 589 hd), ef ol (lst (os) oe), et wd (fq7 hw kw (.ref ol) (.int (pc) tp) (.int (at_) ta) .none (.ref mk) .none 6), ef wa (inst 449 wd)] [.gv 455126531311803185852266 [.int (at_) ta, .int (↑sb.length) (t + 50)] (fun _ => .bool false) 0, .gv 7300717 [.str (sb) ts] (fun t => .int (↑sb.length) (t + 1)) 2, .rd 128106587276438692081757506308484131437 [.ref ol, .int (pc) tp] ol (lst (os) oe) (fun _ => .ref oa) 0, .gv 455126529904428302298986 [.int (k + 1) (t + 4), .int 9999 (ks' 6)] (fun _ => .bool false) 0] := by show _ = _; cases b1 <;> kernel_rfl
theorem m_charsf_r (p : Params) (b1 b2 : Bool) (n t : Nat) (Lm hd wd hl vd lg wa mi md hi ol rf ob oa : Nat) (bg : Int) (tb : Nat) (hs hs' hw hm : Nat → Int) (ks ks' kw km : Nat → Nat) (sb : Str) (ts oe he : Nat) (os xs : List Value) (k pc at_ : Int) (tk tp ta : Nat) (mk : Nat) (t1 t2 t3 : Nat) : FinI (rn p b1 b2 (mC p Lm) (mTT p Lm) n t [ef oa (tup [sv n_one t1, sv n_chars t2, sv [] t3]), et Lm (fq4 hs ks (.ref mi) (.ref ol) (.int bg tb) (.ref wa) (.ref ob) 5), et hd (hostD hs' ks' vd rf lg k tk), ef mi (inst 526 md), ef md (matD hm km (.str sb ts) hi hl), ef hi (inst 589 hd), ef ol (lst os oe), et wd (wayD hw kw ol pc tp at_ ta (.ref mk)), ef wa (inst 449 wd)] (q318 (q391 (q2 (hy 131 (q98 (q22 (q22 (hy 134 (q319 (q83 (hy 134 (q320 (q0 (q319 (q83 []))))))))))))))) [(455126529904428302298986, .gv (fun _ => .bool false) 0), (128106587276438692081757506308484131437, .rd 7 (fun _ => .ref oa) 0), (500416356548588640944365259017385332, .rd 0 (fun t => .str ({ cps := #[] }) t) 1)]) [9, 10, 11, 12, 13, 14, 15, 16] (.ok (.ret (.bool false))) (n + 8) (t + 56) [et Lm (fq4 hs ks (.ref mi) (.ref ol) (.int (bg) tb) (.ref wa) (.ref oa) 5), et hd (fq1 hs' ks' (.ref vd) (.int 9999 (ks' 6)) (.ref rf) (.int 64 (ks' 7)) (.int (k + 1) (t + 4)) (.ref lg) 6), ef mi (inst 526 md), ef md (fq6 hm km (.str (sb) ts) (.ref hi) (.ref hl) 3), ef hi (inst 589 hd), ef ol (lst (os) oe), et wd (fq7 hw kw (.ref ol) (.int (pc + 1) (t + 53)) (.int (at_ + 0) (t + 45)) .none (.ref mk) .none 6), ef wa (inst 449 wd)] [.rd 500416356548588640944365259017385332 [.str (sb) ts, .ref (n + 7)] (n + 7) ({ cls := .type "slice", data := .fields ⟨[.int (at_) ta, .int (at_ + 0) (t + 45), .none]⟩ }) (fun t => .str ({ cps := #[] }) t) 1, .rd 128106587276438692081757506308484131437 [.ref ol, .int (pc) tp] ol (lst (os) oe) (fun _ => .ref oa) 0, .gv 455126529904428302298986 [.int (k + 1) (t + 4), .int 9999 (ks' 6)] (fun _ => .bool false) 0] := by show _ = _; cases b1 <;> kernel_rfl
theorem m_charsw_r (p : Params) (b1 b2 : Bool) (n t : Nat) (Lm hd wd hl vd lg wa mi md hi ol rf ob oa : Nat) (bg : Int) (tb : Nat) (hs hs' hw hm : Nat → Int) (ks ks' kw km : Nat → Nat) (sb : Str) (ts oe he : Nat) (os xs : List Value) (k pc at_ : Int) (tk tp ta : Nat) (mk : Nat) (t1 t2 t3 : Nat) : FinI (rn p b1 b2 (mC p Lm) (mTT p Lm) n t [ef oa (tup [sv n_one t1, sv n_chars t2, sv [] t3]), et Lm (fq4 hs ks (.ref mi) (.ref ol) (.int bg tb) (.ref wa) (.ref ob) 5), et hd (hostD hs' ks' vd rf lg k tk), ef mi (inst 526 md), ef md (matD hm km (.str sb ts) hi hl), ef hi (inst 589 hd), ef ol (lst os oe), et wd (wayD hw kw ol pc tp at_ ta (.ref mk)), ef wa (inst 449 wd)] (q318 (q391 (q2 (hy 131 (q98 (q22 (q22 (hy 134 (q319 (q83 (hy 134 (q320 (q0 (q319 (q83 []))))))))))))))) [(455126529904428302298986, .gv (fun _ => .bool false) 0), (128106587276438692081757506308484131437, .rd 7 (fun _ => .ref oa) 0), (500416356548588640944365259017385332, .rd 0 (fun _ => sv [] ts) 0)]) [9, 10, 11, 12, 13, 14, 15, 16] (.ok (.ret (.bool false))) (n + 8) (t + 55) [et Lm (fq4 hs ks (.ref mi) (.ref ol) (.int (bg) tb) (.ref wa) (.ref oa) 5), et hd (fq1 hs' ks' (.ref vd) (.int 9999 (ks' 6)) (.ref rf) (.int 64 (ks' 7)) (.int (k + 1) (t + 4)) (.ref lg) 6), ef mi (inst 526 md), ef md (fq6 hm km (.str (sb) ts) (.ref hi) (.ref hl) 3), ef hi (inst 589 hd), ef ol (lst (os) oe), et wd (fq7 hw kw (.ref ol) (.int (pc + 1) (t + 52)) (.int (at_ + 0) (t + 45)) .none (.ref mk) .none 6), ef wa (inst 449 wd)] [.rd 500416356548588640944365259017385332 [.str (sb) ts, .ref (n + 7)] (n + 7) ({ cls := .type "slice", data := .fields ⟨[.int (at_) ta, .int (at_ + 0) (t + 45), .none]⟩ }) (fun _ => sv [] ts) 0, .rd 128106587276438692081757506308484131437 [.ref ol, .int (pc) tp] ol (lst (os) oe) (fun _ => .ref oa) 0, .gv 455126529904428302298986 [.int (k + 1) (t + 4), .int 9999 (ks' 6)] (fun _ => .bool false) 0] := by show _ = _; cases b1 <;> kernel_rfl
theorem m_gain0f_r (p : Params) (b1 b2 : Bool) (n t : Nat) (Lm hd wd hl vd lg wa mi md hi ol rf ob oa : Nat) (bg : Int) (tb : Nat) (hs hs' hw hm : Nat → Int) (ks ks' kw km : Nat → Nat) (sb : Str) (ts oe he : Nat) (os xs : List Value) (k pc at_ : Int) (tk tp ta : Nat) (mk : Nat) (ma t1 tb2 : Nat) (b2_ : Int) (tx : Str) : FinI (rn p b1 b2 (mC p Lm) (mTT p Lm) n t [ef oa (tup [sv n_gain t1]), ef ma (tup [.ref mk, .int b2_ tb2]), et Lm (fq4 hs ks (.ref mi) (.ref ol) (.int bg tb) (.ref wa) (.ref ob) 5), et hd (hostD hs' ks' vd rf lg k tk), ef mi (inst 526 md), ef md (matD hm km (.str sb ts) hi hl), ef hi (inst 589 hd), ef ol (lst os oe), et wd (wayD hw kw ol pc tp at_ ta (.ref ma)), ef wa (inst 449 wd)] (q397 (q4 [])) [(455126529904428302298986, .gv (fun _ => .bool false) 0), (128106587276438692081757506308484131437, .rd 8 (fun _ => .ref oa) 0), (500416356548588640944365259017385332, .rd 0 (fun t => .str (tx) t) 1), (455126529904428302298986, .gv (fun _ => .bool false) 0)]) [10, 11, 12, 13, 14, 15, 16, 17] (.ok (.ret (.bool true))) (n + 8) (t + 33) [et Lm (fq4 hs ks (.ref mi) (.ref ol) (.int (bg) tb) (.ref wa) (.ref oa) 5), et hd (fq1 hs' ks' (.ref vd) (.int 9999 (ks' 6)) (.ref rf) (.int 64 (ks' 7)) (.int (k + 1) (t + 4)) (.ref lg) 6), ef mi (inst 526 md), ef md (fq6 hm km (.str (sb) ts) (.ref hi) (.ref hl) 3), ef hi (inst 589 hd), ef ol (lst (os) oe), et wd (fq7 hw kw (.ref ol) (.int (pc) tp) (.int (at_) ta) .none (.ref mk) .none 6), ef wa (inst 449 wd)] [.gv 455126529904428302298986 [.int (at_) ta, .int (b2_) tb2] (fun _ => .bool false) 0, .rd 500416356548588640944365259017385332 [.str (sb) ts, .ref (n + 7)] (n + 7) ({ cls := .type "slice", data := .fields ⟨[.int (b2_) tb2, .int (at_) ta, .none]⟩ }) (fun t => .str (tx) t) 1, .rd 128106587276438692081757506308484131437 [.ref ol, .int (pc) tp] ol (lst (os) oe) (fun _ => .ref oa) 0, .gv 455126529904428302298986 [.int (k + 1) (t + 4), .int 9999 (ks' 6)] (fun _ => .bool false) 0] := by show _ = _; cases b1 <;> kernel_rfl
theorem m_gain0w_r (p : Params) (b1 b2 : Bool) (n t : Nat) (Lm hd wd hl vd lg wa mi md hi ol rf ob oa : Nat) (bg : Int) (tb : Nat) (hs hs' hw hm : Nat → Int) (ks ks' kw km : Nat → Nat) (sb : Str) (ts oe he : Nat) (os xs : List Value) (k pc at_ : Int) (tk tp ta : Nat) (mk : Nat) (ma t1 tb2 : Nat) (b2_ : Int) (tx : Str) : FinI (rn p b1 b2 (mC p Lm) (mTT p Lm) n t [ef oa (tup [sv n_gain t1]), ef ma (tup [.ref mk, .int b2_ tb2]), et Lm (fq4 hs ks (.ref mi) (.ref ol) (.int bg tb) (.ref wa) (.ref ob) 5), et hd (hostD hs' ks' vd rf lg k tk), ef mi (inst 526 md), ef md (matD hm km (.str sb ts) hi hl), ef hi (inst 589 hd), ef ol (lst os oe), et wd (wayD hw kw ol pc tp at_ ta (.ref ma)), ef wa (inst 449 wd)] (q397 (q4 [])) [(455126529904428302298986, .gv (fun _ => .bool false) 0), (128106587276438692081757506308484131437, .rd 8 (fun _ => .ref oa) 0), (500416356548588640944365259017385332, .rd 0 (fun _ => .str (sb) ts) 0), (455126529904428302298986, .gv (fun _ => .bool false) 0)]) [10, 11, 12, 13, 14, 15, 16, 17] (.ok (.ret (.bool true))) (n + 8) (t + 32) [et Lm (fq4 hs ks (.ref mi) (.ref ol) (.int (bg) tb) (.ref wa) (.ref oa) 5), et hd (fq1 hs' ks' (.ref vd) (.int 9999 (ks' 6)) (.ref rf) (.int 64 (ks' 7)) (.int (k + 1) (t + 4)) (.ref lg) 6), ef mi (inst 526 md), ef md (fq6 hm km (.str (sb) ts) (.ref hi) (.ref hl) 3), ef hi (inst 589 hd), ef ol (lst (os) oe), et wd (fq7 hw kw (.ref ol) (.int (pc) tp) (.int (at_) ta) .none (.ref mk) .none 6), ef wa (inst 449 wd)] [.gv 455126529904428302298986 [.int (at_) ta, .int (b2_) tb2] (fun _ => .bool false) 0, .rd 500416356548588640944365259017385332 [.str (sb) ts, .ref (n + 7)] (n + 7) ({ cls := .type "slice", data := .fields ⟨[.int (b2_) tb2, .int (at_) ta, .none]⟩ }) (fun _ => .str (sb) ts) 0, .rd 128106587276438692081757506308484131437 [.ref ol, .int (pc) tp] ol (lst (os) oe) (fun _ => .ref oa) 0, .gv 455126529904428302298986 [.int (k + 1) (t + 4), .int 9999 (ks' 6)] (fun _ => .bool false) 0] := by show _ = _; cases b1 <;> kernel_rfl
theorem m_gain1f_r (p : Params) (b1 b2 : Bool) (n t : Nat) (Lm hd wd hl vd lg wa mi md hi ol rf ob oa : Nat) (bg : Int) (tb : Nat) (hs hs' hw hm : Nat → Int) (ks ks' kw km : Nat → Nat) (sb : Str) (ts oe he : Nat) (os xs : List Value) (k pc at_ : Int) (tk tp ta : Nat) (mk : Nat) (ma t1 tb2 : Nat) (b2_ : Int) (tx : Str) : FinI (rn p b1 b2 (mC p Lm) (mTT p Lm) n t [ef oa (tup [sv n_gain t1]), ef ma (tup [.ref mk, .int b2_ tb2]), et Lm (fq4 hs ks (.ref mi) (.ref ol) (.int bg tb) (.ref wa) (.ref ob) 5), et hd (hostD hs' ks' vd rf lg k tk), ef mi (inst 526 md), ef md (matD hm km (.str sb ts) hi hl), ef hi (inst 589 hd), ef ol (lst os oe), et wd (wayD hw kw ol pc tp at_ ta (.ref ma)), ef wa (inst 449 wd)] (q397 (q4 (hy 135 (q314 (hy 145 (q0 (hy 146 (q5 (hy 146 (q0 (hy 2392082 (q3 (hy 38959071250 []))))))))))))) [(455126529904428302298986, .gv (fun _ => .bool false) 0), (128106587276438692081757506308484131437, .rd 8 (fun _ => .ref oa) 0), (500416356548588640944365259017385332, .rd 0 (fun t => .str (tx) t) 1), (455126529904428302298986, .gv (fun _ => .bool true) 0)]) [10, 11, 12, 13, 14, 15, 16, 17] (.ok (.ret (.bool false))) (n + 8) (t + 38) [et Lm (fq4 hs ks (.ref mi) (.ref ol) (.int (bg) tb) (.ref wa) (.ref oa) 5), et hd (fq1 hs' ks' (.ref vd) (.int 9999 (ks' 6)) (.ref rf) (.int 64 (ks' 7)) (.int (k + 1) (t + 4)) (.ref lg) 6), ef mi (inst 526 md), ef md (fq6 hm km (.str (sb) ts) (.ref hi) (.ref hl) 3), ef hi (inst 589 hd), ef ol (lst (os) oe), et wd (fq7 hw kw (.ref ol) (.int (pc + 1) (t + 35)) (.int (at_) ta) .none (.ref mk) .none 6), ef wa (inst 449 wd)] [.gv 455126529904428302298986 [.int (at_) ta, .int (b2_) tb2] (fun _ => .bool true) 0, .rd 500416356548588640944365259017385332 [.str (sb) ts, .ref (n + 7)] (n + 7) ({ cls := .type "slice", data := .fields ⟨[.int (b2_) tb2, .int (at_) ta, .none]⟩ }) (fun t => .str (tx) t) 1, .rd 128106587276438692081757506308484131437 [.ref ol, .int (pc) tp] ol (lst (os) oe) (fun _ => .ref oa) 0, .gv 455126529904428302298986 [.int (k + 1) (t + 4), .int 9999 (ks' 6)] (fun _ => .bool false) 0] := by show _ = _; cases b1 <;> kernel_rfl
theorem m_gain1w_r (p : Params) (b1 b2 : Bool) (n t : Nat) (Lm hd wd hl vd lg wa mi md hi ol rf ob oa : Nat) (bg : Int) (tb : Nat) (hs hs' hw hm : Nat → Int) (ks ks' kw km : Nat → Nat) (sb : Str) (ts oe he : Nat) (os xs : List Value) (k pc at_ : Int) (tk tp ta : Nat) (mk : Nat) (ma t1 tb2 : Nat) (b2_ : Int) (tx : Str) : FinI (rn p b1 b2 (mC p Lm) (mTT p Lm) n t [ef oa (tup [sv n_gain t1]), ef ma (tup [.ref mk, .int b2_ tb2]), et Lm (fq4 hs ks (.ref mi) (.ref ol) (.int bg tb) (.ref wa) (.ref ob) 5), et hd (hostD hs' ks' vd rf lg k tk), ef mi (inst 526 md), ef md (matD hm km (.str sb ts) hi hl), ef hi (inst 589 hd), ef ol (lst os oe), et wd (wayD hw kw ol pc tp at_ ta (.ref ma)), ef wa (inst 449 wd)] (q397 (q4 (hy 135 (q314 (hy 145 (q0 (hy 146 (q5 (hy 146 (q0 (hy 2392082 (q3 (hy 38959071250 []))))))))))))) [(455126529904428302298986, .gv (fun _ => .bool false) 0), (128106587276438692081757506308484131437, .rd 8 (fun _ => .ref oa) 0), (500416356548588640944365259017385332, .rd 0 (fun _ => .str (sb) ts) 0), (455126529904428302298986, .gv (fun _ => .bool true) 0)]) [10, 11, 12, 13, 14, 15, 16, 17] (.ok (.ret (.bool false))) (n + 8) (t + 37) [et Lm (fq4 hs ks (.ref mi) (.ref ol) (.int (bg) tb) (.ref wa) (.ref oa) 5), et hd (fq1 hs' ks' (.ref vd) (.int 9999 (ks' 6)) (.ref rf) (.int 64 (ks' 7)) (.int (k + 1) (t + 4)) (.ref lg) 6), ef mi (inst 526 md), ef md (fq6 hm km (.str (sb) ts) (.ref hi) (.ref hl) 3), ef hi (inst 589 hd), ef ol (lst (os) oe), et wd (fq7 hw kw (.ref ol) (.int (pc + 1) (t + 34)) (.int (at_) ta) .none (.ref mk) .none 6), ef wa (inst 449 wd)] [.gv 455126529904428302298986 [.int (at_) ta, .int (b2_) tb2] (fun _ => .bool true) 0, .rd 500416356548588640944365259017385332 [.str (sb) ts, .ref (n + 7)] (n + 7) ({ cls := .type "slice", data := .fields ⟨[.int (b2_) tb2, .int (at_) ta, .none]⟩ }) (fun _ => .str (sb) ts) 0, .rd 128106587276438692081757506308484131437 [.ref ol, .int (pc) tp] ol (lst (os) oe) (fun _ => .ref oa) 0, .gv 455126529904428302298986 [.int (k + 1) (t + 4), .int 9999 (ks' 6)] (fun _ => .bool false) 0] := by show _ = _; cases b1 <;> kernel_rfl
theorem m_place0_r (p : Params) (b1 b2 : Bool) (n t : Nat) (Lm hd wd hl vd lg wa mi md hi ol rf ob oa : Nat) (bg : Int) (tb : Nat) (hs hs' hw hm : Nat → Int) (ks ks' kw km : Nat → Nat) (sb : Str) (ts oe he : Nat) (os xs : List Value) (k pc at_ : Int) (tk tp ta : Nat) (mk : Nat) (t1 re rj dj ve le : Nat) (hj : Nat → Int) (kj : Nat → Nat) (ls : List Value) : FinI (rn p b1 b2 (mC p Lm) (mTT p Lm) n t [ef oa (tup [sv n_place t1, .ref rj]), et Lm (fq4 hs ks (.ref mi) (.ref ol) (.int bg tb) (.ref wa) (.ref ob) 5), et hd (hostD hs' ks' vd rf lg k tk), et vd (di [] ve), et lg (lst ls le), ef mi (inst 526 md), ef md (matD hm km (.str sb ts) hi hl), ef hi (inst 589 hd), ef ol (lst os oe), ef rf (lst [] re), ef rj (inst 208 dj), ef dj (refD hj kj), et wd (wayD hw kw ol pc tp at_ ta (.ref mk)), ef wa (inst 449 wd)] (q17 (q90 (q22 (hy 17280 (q291 (hy 16776 (q8 (q16 (q255 (hy 132 (q0 (hy 137 (q5 (q46 (q19 (hy 137 (q3 (q19 (q25 (hy 129 (q255 (hy 16516 (q255 (hy 132 (q35 (q186 (hy 2148096 (q186 (hy 73790427068794624 (q4 (q6 (q106 (q106 (q236 (hy 136 (q188 (q317 (hy 130 (q36 (q255 (hy 17802 (q3 (hy 139 (q3 (hy 139 (q5 (hy 2130699 (q192 (hy 130 (q320 (q61 (q186 (hy 2115584 (q254 (hy 4879112438656 (q0 (hy 142 (q1 (q254 (hy 2114432 (q186 (hy 18432 (q21 (hy 270582784 (q254 (hy 567659672519552 (q186 (hy 18432 (q2 (hy 308347274 (q5 (hy 147 (q3 (hy 306186643 (q0 (hy 147 (q5 (hy 147 (q0 (hy 2408467 (q3 (hy 16403 (q187 []))))))))))))))))))))))))))))))))))))))))))))))))))))))))))))))))))))))))))))))))))) [(455126529904428302298986, .gv (fun _ => .bool false) 0), (128106587276438692081757506308484131437, .rd 9 (fun _ => .ref oa) 0), (128106587276438692082622197436938218085, .up 7 ({ cls := .type "dict", data := .dict ⟨[ek p [74] (kj 4) (.int (at_) ta)]⟩ (ve + 1) }) .none 1), (122627580202994350266018413, .up 9 (lst (ls ++ [Value.ref n.succ.succ.succ.succ]) (le + 1)) .none 0)]) [0, 6, 7, 8, 9, 10, 11, 12, 13, 14, 15, 16, 17, 18] (.ok (.ret (.bool false))) (n + 5) (t + 37) [ef (n + 4) (tup [sv [74] (kj 4), .int (at_) ta]), et Lm (fq4 hs ks (.ref mi) (.ref ol) (.int (bg) tb) (.ref wa) (.ref oa) 5), et hd (fq1 hs' ks' (.ref vd) (.int 9999 (ks' 6)) (.ref rf) (.int 64 (ks' 7)) (.int (k + 1) (t + 4)) (.ref lg) 6), ⟨vd, { cls := .type "dict", data := .dict ⟨[ek p [74] (kj 4) (.int (at_) ta)]⟩ (ve + 1) }, true⟩, et lg (lst (ls ++ [Value.ref n.succ.succ.succ.succ]) (le + 1)), ef mi (inst 526 md), ef md (fq6 hm km (.str (sb) ts) (.ref hi) (.ref hl) 3), ef hi (inst 589 hd), ef ol (lst (os) oe), ef rf (lst [] re), ef rj (inst 208 dj), ⟨dj, { cls := .type "dict", data := .dict ⟨[eh hj kj 0 n_kind (sv n_var (kj 1)), ⟨hj 1, sv n_owner (kj 2), .none⟩, ⟨hj 2, sv n_key (kj 3), sv [74] (kj 4)⟩]⟩ 3 }, false⟩, et wd (fq7 hw kw (.ref ol) (.int (pc + 1) (t + 34)) (.int (at_) ta) .none (.ref mk) .none 6), ef wa (inst 449 wd)] [.up 122627580202994350266018413 [.ref lg, .ref (n + 4)] lg (lst (ls) le) (lst (ls ++ [Value.ref n.succ.succ.succ.succ]) (le + 1)) .none 0, .up 128106587276438692082622197436938218085 [.ref vd, sv [74] (kj 4), .int (at_) ta] vd (di [] ve) ({ cls := .type "dict", data := .dict ⟨[ek p [74] (kj 4) (.int (at_) ta)]⟩ (ve + 1) }) .none 1, .rd 128106587276438692081757506308484131437 [.ref ol, .int (pc) tp] ol (lst (os) oe) (fun _ => .ref oa) 0, .gv 455126529904428302298986 [.int (k + 1) (t + 4), .int 9999 (ks' 6)] (fun _ => .bool false) 0] := by show _ = _; cases b1 <;> kernel_rfl
theorem m_place1_r (p : Params) (b1 b2 : Bool) (n t : Nat) (Lm hd wd hl vd lg wa mi md hi ol rf ob oa : Nat) (bg : Int) (tb : Nat) (hs hs' hw hm : Nat → Int) (ks ks' kw km : Nat → Nat) (sb : Str) (ts oe he : Nat) (os xs : List Value) (k pc at_ : Int) (tk tp ta : Nat) (mk : Nat) (t1 re rj dj ve le : Nat) (hj : Nat → Int) (kj : Nat → Nat) (ls : List Value) (kJ tJ : Nat) (vJ : Int) : FinI (rn p b1 b2 (mC p Lm) (mTT p Lm) n t [ef oa (tup [sv n_place t1, .ref rj]), et Lm (fq4 hs ks (.ref mi) (.ref ol) (.int bg tb) (.ref wa) (.ref ob) 5), et hd (hostD hs' ks' vd rf lg k tk), et vd (fq8 p kJ (.int vJ tJ) ve), et lg (lst ls le), ef mi (inst 526 md), ef md (matD hm km (.str sb ts) hi hl), ef hi (inst 589 hd), ef ol (lst os oe), ef rf (lst [] re), ef rj (inst 208 dj), ef dj (refD hj kj), et wd (wayD hw kw ol pc tp at_ ta (.ref mk)), ef wa (inst 449 wd)] (q17 (q90 (q22 (hy 17280 (q291 (hy 16776 (q8 (q16 (q255 (hy 132 (q0 (hy 137 (q5 (q46 (q19 (hy 137 (q3 (q19 (q25 (hy 129 (q255 (hy 16516 (q255 (hy 132 (q35 (q186 (hy 2148096 (q186 (hy 73790427068794624 (q4 (q6 (q106 (q106 (q236 (hy 136 (q188 (q317 (hy 130 (q36 (q255 (hy 17802 (q3 (hy 139 (q3 (hy 139 (q5 (hy 2130699 (q192 (hy 130 (q320 (q61 (q186 (hy 2115584 (q254 (hy 4879112438656 (q0 (hy 142 (q1 (q254 (hy 2114432 (q186 (hy 18432 (q21 (hy 270582784 (q254 (hy 567659672519552 (q186 (hy 18432 (q2 (hy 308347274 (q5 (hy 147 (q3 (hy 306186643 (q0 (hy 147 (q5 (hy 147 (q0 (hy 2408467 (q3 (hy 16403 (q187 []))))))))))))))))))))))))))))))))))))))))))))))))))))))))))))))))))))))))))))))))))) [(455126529904428302298986, .gv (fun _ => .bool false) 0), (128106587276438692081757506308484131437, .rd 9 (fun _ => .ref oa) 0), (128106587276438692082622197436938218085, .up 7 (fq8 p kJ (.int (at_) ta) ve) .none 1), (122627580202994350266018413, .up 9 (lst (ls ++ [Value.ref n.succ.succ.succ.succ]) (le + 1)) .none 0)]) [0, 6, 7, 8, 9, 10, 11, 12, 13, 14, 15, 16, 17, 18] (.ok (.ret (.bool false))) (n + 5) (t + 37) [ef (n + 4) (tup [sv [74] (kj 4), .int (at_) ta]), et Lm (fq4 hs ks (.ref mi) (.ref ol) (.int (bg) tb) (.ref wa) (.ref oa) 5), et hd (fq1 hs' ks' (.ref vd) (.int 9999 (ks' 6)) (.ref rf) (.int 64 (ks' 7)) (.int (k + 1) (t + 4)) (.ref lg) 6), et vd (fq8 p kJ (.int (at_) ta) ve), et lg (lst (ls ++ [Value.ref n.succ.succ.succ.succ]) (le + 1)), ef mi (inst 526 md), ef md (fq6 hm km (.str (sb) ts) (.ref hi) (.ref hl) 3), ef hi (inst 589 hd), ef ol (lst (os) oe), ef rf (lst [] re), ef rj (inst 208 dj), ⟨dj, { cls := .type "dict", data := .dict ⟨[eh hj kj 0 n_kind (sv n_var (kj 1)), ⟨hj 1, sv n_owner (kj 2), .none⟩, ⟨hj 2, sv n_key (kj 3), sv [74] (kj 4)⟩]⟩ 3 }, false⟩, et wd (fq7 hw kw (.ref ol) (.int (pc + 1) (t + 34)) (.int (at_) ta) .none (.ref mk) .none 6), ef wa (inst 449 wd)] [.up 122627580202994350266018413 [.ref lg, .ref (n + 4)] lg (lst (ls) le) (lst (ls ++ [Value.ref n.succ.succ.succ.succ]) (le + 1)) .none 0, .up 128106587276438692082622197436938218085 [.ref vd, sv [74] (kj 4), .int (at_) ta] vd (fq8 p kJ (.int (vJ) tJ) ve) (fq8 p kJ (.int (at_) ta) ve) .none 1, .rd 128106587276438692081757506308484131437 [.ref ol, .int (pc) tp] ol (lst (os) oe) (fun _ => .ref oa) 0, .gv 455126529904428302298986 [.int (k + 1) (t + 4), .int 9999 (ks' 6)] (fun _ => .bool false) 0] := by show _ = _; cases b1 <;> kernel_rfl
theorem m_split_first (p : Params) (b1 b2 : Bool) (n t : Nat) (Lm hd wd hl vd lg wa mi md hi ol rf ob oa : Nat) (bg : Int) (tb : Nat) (hs hs' hw hm : Nat → Int) (ks ks' kw km : Nat → Nat) (sb : Str) (ts oe he : Nat) (os xs : List Value) (k pc at_ : Int) (tk tp ta : Nat) (t1 tg : Nat) (g : Int) : FinI (rn p b1 b2 (mC p Lm) (mTT p Lm) n t [ef oa (tup [sv n_split t1, .int g tg]), et Lm (fo [eh hs ks 0 n_self (.ref mi), eh hs ks 1 n_orders (.ref ol), eh hs ks 2 n_begin (.int bg tb), eh hs ks 3 n_way (.ref wa)] 4), et hd (hostD hs' ks' vd rf lg k tk), et hl (lst xs he), ef mi (inst 526 md), ef md (matD hm km (.str sb ts) hi hl), ef hi (inst 589 hd), ef ol (lst os oe), et wd (wayD hw kw ol pc tp at_ ta (.none)), ef wa (inst 449 wd)] (q17 (q290 (q18 (q24 (q236 (hy 131 (q8 (q16 (q359 (q389 (q25 (hy 129 (q359 (hy 129 (q359 (q35 (q207 (hy 131 (q207 (q33 (hy 16777 (q4 (q6 (q106 (q106 (q128 (hy 17286 (q188 (q38 (q38 (q76 (q14 (hy 17408 (q22 (q22 (hy 17921 (q3 (hy 140 (q3 (q189 (hy 139 (q49 (q12 (q8 (q1 (q1 (q34 (q190 (q1 (q190 (hy 129 (q190 (hy 129 (q190 (hy 129 (q190 (q394 (q191 (q191 (hy 2147584 (q395 (q360 [])))))))))))))))))))))))))))))))))))))))))))))))))))))))))))))) [(455126529904428302298986, .gv (fun _ => .bool false) 0), (128106587276438692081757506308484131437, .rd 8 (fun _ => .ref oa) 0), (122627580202994350266018413, .up 9 (lst (xs ++ [Value.ref n.succ.succ.succ.succ]) (he + 1)) .none 0)]) [1, 2, 7, 8, 9, 10, 11, 12, 13, 14, 15] (.ok (.ret (.bool false))) (n + 6) (t + 52) [et (n + 4) (inst 449 (n + 3)), et (n + 3) (fq5 p (t + 36) (.ref ol) (t + 38) (.int (g) tg) (t + 40) (.int (at_) ta) (t + 42) .none (t + 44) .none (t + 46) .none 6), et Lm (fo [eh hs ks 0 n_self (.ref mi), eh hs ks 1 n_orders (.ref ol), eh hs ks 2 n_begin (.int (bg) tb), eh hs ks 3 n_way (.ref wa), ek p n_order (t + 11) (.ref oa)] 5), et hd (fq1 hs' ks' (.ref vd) (.int 9999 (ks' 6)) (.ref rf) (.int 64 (ks' 7)) (.int (k + 1) (t + 4)) (.ref lg) 6), et hl (lst (xs ++ [Value.ref n.succ.succ.succ.succ]) (he + 1)), ef mi (inst 526 md), ef md (fq6 hm km (.str (sb) ts) (.ref hi) (.ref hl) 3), ef hi (inst 589 hd), ef ol (lst (os) oe), et wd (fq7 hw kw (.ref ol) (.int (pc + 1) (t + 49)) (.int (at_) ta) .none .none .none 6), ef wa (inst 449 wd)] [.up 122627580202994350266018413 [.ref hl, .ref (n + 4)] hl (lst (xs) he) (lst (xs ++ [Value.ref n.succ.succ.succ.succ]) (he + 1)) .none 0, .rd 128106587276438692081757506308484131437 [.ref ol, .int (pc) tp] ol (lst (os) oe) (fun _ => .ref oa) 0, .gv 455126529904428302298986 [.int (k + 1) (t + 4), .int 9999 (ks' 6)] (fun _ => .bool false) 0] := by show _ = _; cases b1 <;> kernel_rfl
theorem m_back (p : Params) (b1 b2 : Bool) (n t : Nat) (Lm hd wd hl vd lg wa mi md hi ol rf ob oa : Nat) (bg : Int) (tb : Nat) (hs hs' hw hm : Nat → Int) (ks ks' kw km : Nat → Nat) (sb : Str) (ts oe he : Nat) (os xs : List Value) (k pc at_ : Int) (tk tp ta : Nat) (wb : Nat) (mv : Value) : FinI (rn p b1 b2 (mC p Lm) (execsT (ifBd (mS p)) (envAt p 474 Lm)) n t [et Lm (fq4 hs ks (.ref mi) (.ref ol) (.int bg tb) (.ref wa) (.ref ob) 5), et hl (lst (xs ++ [.ref wb]) he), ef mi (inst 526 md), ef md (matD hm km (.str sb ts) hi hl), et wd (wayD hw kw ol pc tp at_ ta mv), ef wb (inst 449 wd)] (hy 129 (q361 (q238 (q149 (q9 (q12 (hy 129 (q149 (q9 (q392 (q76 (q14 (q24 []))))))))))))) [(7300717, .rd 2 (fun t => .int (↑xs.length + 1) (t + 1)) 2), (455126529904428302298986, .gv (fun _ => .bool true) 0), (8174157772325415533, .up 2 (lst (xs) (he + 1)) (.ref wb) 0)]) [1, 2, 3, 4, 5, 6] (.ok .next) (n + 1) (t + 8) [et Lm (fq4 hs ks (.ref mi) (.ref ol) (.int (bg) tb) (.ref wb) (.ref ob) 5), et hl (lst (xs) (he + 1)), ef mi (inst 526 md), ef md (fq6 hm km (.str (sb) ts) (.ref hi) (.ref hl) 3), et wd (fq7 hw kw (.ref ol) (.int (pc) tp) (.int (at_) ta) .none (mv) .none 6), ef wb (inst 449 wd)] [.up 8174157772325415533 [.ref hl] hl (lst (xs ++ [Value.ref wb]) he) (lst (xs) (he + 1)) (.ref wb) 0, .gv 455126529904428302298986 [.int (↑xs.length + 1) (t + 3), .int 0 (t + 4)] (fun _ => .bool true) 0, .rd 7300717 [.ref hl] hl (lst (xs ++ [Value.ref wb]) he) (fun t => .int (↑xs.length + 1) (t + 1)) 2] := by show _ = _; cases b1 <;> kernel_rfl
theorem m_back_end (p : Params) (b1 b2 : Bool) (n t : Nat) (Lm hd wd hl vd lg wa mi md hi ol rf ob oa : Nat) (bg : Int) (tb : Nat) (hs hs' hw hm : Nat → Int) (ks ks' kw km : Nat → Nat) (sb : Str) (ts oe he : Nat) (os xs : List Value) (k pc at_ : Int) (tk tp ta : Nat) : FinI (rn p b1 b2 (mC p Lm) (execsT (ifBd (mS p)) (envAt p 474 Lm)) n t [et Lm (fq4 hs ks (.ref mi) (.ref ol) (.int bg tb) (.ref wa) (.ref ob) 5), et hl (lst [] he), ef mi (inst 526 md), ef md (matD hm km (.str sb ts) hi hl)] (hy 129 (q361 (q238 (q149 (q9 (q0 (hy 131 (q12 (q0 (q74 [])))))))))) []) [1, 2, 3, 4] (.ok .next) (n + 1) (t + 6) [et Lm (fq4 hs ks (.ref mi) (.ref ol) (.int (bg) tb) .none (.ref ob) 5), et hl (lst [] he), ef mi (inst 526 md), ef md (fq6 hm km (.str (sb) ts) (.ref hi) (.ref hl) 3)] [] := by show _ = _; cases b1 <;> kernel_rfl
theorem m_over (p : Params) (b1 b2 : Bool) (n t : Nat) (Lm hd wd hl vd lg wa mi md hi ol rf ob oa : Nat) (bg : Int) (tb : Nat) (hs hs' hw hm : Nat → Int) (ks ks' kw km : Nat → Nat) (sb : Str) (ts oe he : Nat) (os xs : List Value) (k pc at_ : Int) (tk tp ta : Nat) : FinI (rn p b1 b2 (mC p Lm) (mTT p Lm) n t [et Lm (fq4 hs ks (.ref mi) (.ref ol) (.int bg tb) .none (.ref ob) 5)] (hy 129 []) []) [0] (.ok .brk) n t [et Lm (fq4 hs ks (.ref mi) (.ref ol) (.int (bg) tb) .none (.ref ob) 5)] [] := by show _ = _; cases b1 <;> kernel_rfl
end
section
open PySem PySem.W PySem.W.X PySem.Calls PySem.Spec PyProof.Rows
inductive Ord where
  | split (g : Nat)
  | jump (g : Nat)
  | mark
  | gain
  | any (cs : List Nat)
  | chars
  | fail
  | place
  | done
structure MF where
  Lm : Nat
  hd : Nat
  hl : Nat
  vd : Nat
  lg : Nat
  mi : Nat
  md : Nat
  hi : Nat
  ol : Nat
  rf : Nat
  rj : Nat
  dj : Nat
  ts : Nat
  tb : Nat
  bg : Int
  hs' : Nat → Int
  ks' : Nat → Nat
  hm : Nat → Int
  km : Nat → Nat
  sb : List Nat
  os : List Value
  oe : Nat
  re : Nat
  hj : Nat → Int
  kj : Nat → Nat
  h0 : Heap
  ords : List Ord
variable {F : MF}
noncomputable abbrev MF.sbS (F : MF) : Str := ⟨⟨F.sb⟩⟩
noncomputable def OrdAt (rj : Nat) (h : Heap) : Ord → Addr → Prop
  | .split g, a => ∃ t1 tg, h.get? a = some (tup [sv n_split t1, .int (g : Nat) tg])
  | .jump g, a => ∃ t1 tg, h.get? a = some (tup [sv n_jump t1, .int (g : Nat) tg])
  | .mark, a => ∃ t1, h.get? a = some (tup [sv n_mark t1])
  | .gain, a => ∃ t1, h.get? a = some (tup [sv n_gain t1])
  | .any cs, a => ∃ t1 t2 t3, h.get? a = some (tup [sv n_one t1, sv n_any t2, sv cs t3])
  | .chars, a => ∃ t1 t2 t3, h.get? a = some (tup [sv n_one t1, sv n_chars t2, sv [] t3])
  | .fail, a => ∃ t1, h.get? a = some (tup [sv n_fail t1])
  | .place, a => ∃ t1, h.get? a = some (tup [sv n_place t1, .ref rj])
  | .done, a => ∃ t1, h.get? a = some (tup [sv n_done t1])
noncomputable def OrdsAt (rj : Nat) (h : Heap) : List Ord → List Value → Prop
  | [], vs => vs = []
  | o :: l, vs => ∃ a vs', vs = .ref a :: vs' ∧ OrdAt rj h o a ∧ OrdsAt rj h l vs'
noncomputable def MkAt (h : Heap) : List Nat → Value → Prop
  | [], v => v = .none
  | b :: l, v => ∃ a r t, v = .ref a ∧ h.get? a = some (tup [r, .int b t]) ∧ MkAt h l r
structure Wy where
  pc : Nat
  at_ : Nat
  mks : List Nat
noncomputable def HistAt (ol : Nat) (h : Heap) : List Wy → List Value → List En → Prop
  | [], xs, H => xs = [] ∧ H = []
  | y :: st, xs, H => ∃ wa wd hw kw tp ta mv xs' H', xs = xs' ++ [.ref wa] ∧ H = et wd (wayD hw kw ol y.pc tp y.at_ ta mv) :: ef wa (inst 449 wd) :: H' ∧ MkAt h y.mks mv ∧ HistAt ol h st xs' H'
theorem OrdAt.mono {rj : Nat} {h h' : Heap} (T : Ts h h') : ∀ {x : Ord} {a : Addr}, OrdAt rj h x a → OrdAt rj h' x a
  | .split _, _, ⟨t1, t2, e⟩ => ⟨t1, t2, T _ _ e⟩
  | .jump _, _, ⟨t1, t2, e⟩ => ⟨t1, t2, T _ _ e⟩
  | .mark, _, ⟨t1, e⟩ => ⟨t1, T _ _ e⟩
  | .gain, _, ⟨t1, e⟩ => ⟨t1, T _ _ e⟩
  | .any _, _, ⟨t1, t2, t3, e⟩ => ⟨t1, t2, t3, T _ _ e⟩
  | .chars, _, ⟨t1, t2, t3, e⟩ => ⟨t1, t2, t3, T _ _ e⟩
  | .fail, _, ⟨t1, e⟩ => ⟨t1, T _ _ e⟩
  | .place, _, ⟨t1, e⟩ => ⟨t1, T _ _ e⟩
  | .done, _, ⟨t1, e⟩ => ⟨t1, T _ _ e⟩
theorem OrdsAt.mono {rj : Nat} {h h' : Heap} (T : Ts h h') : ∀ {l : List Ord} {v : List Value}, OrdsAt rj h l v → OrdsAt rj h' l v
  | [], _, e => e
  | _ :: _, _, ⟨a, vs', e1, e2, e3⟩ => ⟨a, vs', e1, e2.mono T, OrdsAt.mono T e3⟩
theorem MkAt.mono {h h' : Heap} (T : Ts h h') : ∀ {l : List Nat} {v : Value}, MkAt h l v → MkAt h' l v
  | [], _, e => e
  | _ :: _, _, ⟨a, r, t, e1, e2, e3⟩ => ⟨a, r, t, e1, T _ _ e2, MkAt.mono T e3⟩
theorem HistAt.mono {ol : Nat} {h h' : Heap} (T : Ts h h') : ∀ {l : List Wy} {xs : List Value} {H : List En}, HistAt ol h l xs H → HistAt ol h' l xs H
  | [], _, _, e => e
  | _ :: _, _, _, ⟨wa, wd, hw, kw, tp, ta, mv, xs', H', e1, e2, e3, e4⟩ => ⟨wa, wd, hw, kw, tp, ta, mv, xs', H', e1, e2, e3.mono T, HistAt.mono T e4⟩
theorem HistAt.len {ol : Nat} {h : Heap} : ∀ {l : List Wy} {xs : List Value} {H : List En}, HistAt ol h l xs H → xs.length = l.length
  | [], _, _, e => by rw [e.1]; rfl
  | _ :: _, _, _, ⟨wa, wd, hw, kw, tp, ta, mv, xs', H', e1, e2, e3, e4⟩ => by rw [e1, List.length_append, e4.len]; rfl
theorem OrdsAt.get {rj : Nat} {h : Heap} : ∀ {l : List Ord} {v : List Value} {i : Nat} {o : Ord}, OrdsAt rj h l v → l[i]? = some o → ∃ a, v[i]? = some (.ref a) ∧ OrdAt rj h o a
  | [], _, _, _, _, e => by simp at e
  | _ :: _, _, 0, _, ⟨a, vs', e1, e2, e3⟩, e => by
    simp at e
    subst e e1
    exact ⟨a, rfl, e2⟩
  | _ :: _, _, i + 1, _, ⟨a, vs', e1, e2, e3⟩, e => by
    subst e1
    simp at e ⊢
    exact e3.get e
theorem OrdsAt.len {rj : Nat} {h : Heap} : ∀ {l : List Ord} {v : List Value}, OrdsAt rj h l v → v.length = l.length
  | [], _, e => by rw [show _ = [] from e]; rfl
  | _ :: _, _, ⟨a, vs', e1, e2, e3⟩ => by rw [e1, List.length_cons, e3.len]; rfl
noncomputable abbrev mvd0 (ve : Nat) : Obj := di [] ve
noncomputable abbrev mvd1 (p : Params) (ve kJ : Nat) (vJ : Int) (tJ : Nat) : Obj := fq8 p kJ (.int vJ tJ) ve
noncomputable def MvOk (p : Params) (o : Obj) : Prop := (∃ ve, o = mvd0 ve) ∨ (∃ ve kJ vJ tJ, o = mvd1 p ve kJ vJ tJ)
noncomputable abbrev MF.fr (F : MF) (hs : Nat → Int) (ks : Nat → Nat) (way : Value) (ob : Nat) : Obj :=
  fq4 hs ks (.ref F.mi) (.ref F.ol) (.int F.bg F.tb) way (.ref ob) 5
noncomputable abbrev MF.f4 (F : MF) (hs : Nat → Int) (ks : Nat → Nat) (way : Value) : Obj :=
  fo [eh hs ks 0 n_self (.ref F.mi), eh hs ks 1 n_orders (.ref F.ol), eh hs ks 2 n_begin (.int F.bg F.tb), eh hs ks 3 n_way way] 4
noncomputable def MF.ML (F : MF) (fo vo : Obj) (ls : List Value) (le : Nat) (xs : List Value) (he : Nat) (k : Int) (tk : Nat) (W : List En) : List En :=
  ⟨F.Lm, fo, true⟩ :: ⟨F.hd, hostD F.hs' F.ks' F.vd F.rf F.lg k tk, true⟩ :: ⟨F.hl, lst xs he, true⟩ :: ⟨F.vd, vo, true⟩ :: ⟨F.lg, lst ls le, true⟩ :: ⟨F.mi, inst 526 F.md, false⟩ ::
    ⟨F.md, matD F.hm F.km (.str F.sbS F.ts) F.hi F.hl, false⟩ :: ⟨F.hi, inst 589 F.hd, false⟩ :: ⟨F.ol, lst F.os F.oe, false⟩ :: ⟨F.rf, lst [] F.re, false⟩ :: ⟨F.rj, inst 208 F.dj, false⟩ :: ⟨F.dj, refD F.hj F.kj, false⟩ :: W
structure MB (Y : Cy) (F : MF) (fo : Obj) (W : List En) (k : Nat) (log : List Nat) (s : Shared) (vo : Obj) (ls : List Value) (le : Nat) (xs : List Value) (he tk : Nat) : Prop where
  inv : Inv Y.x s (F.ML fo vo ls le xs he k tk W)
  hlog : LogAt s.heap log ls
  vd : MvOk Y.p vo
  ords : OrdsAt F.rj s.heap F.ords F.os
  kp : ∀ b o, F.h0.get? b = some o → b ∉ [F.Lm, F.hd, F.hl, F.vd, F.lg] → s.heap.get? b = some o
  grow : F.h0.objs.size ≤ s.heap.objs.size
  ws : ∀ e ∈ W, F.h0.objs.size ≤ e.a
  bl : log.length ≤ k
noncomputable def MIn (Y : Cy) (F : MF) (y : Wy) (st : List Wy) (k : Nat) (log : List Nat) (s : Shared) : Prop :=
  ∃ hs ks ob wa wd hw kw tp ta mv H vo ls le xs he tk, MB Y F (F.fr hs ks (.ref wa) ob) (et wd (wayD hw kw F.ol y.pc tp y.at_ ta mv) :: ef wa (inst 449 wd) :: H) k log s vo ls le xs he tk ∧ MkAt s.heap y.mks mv ∧ HistAt F.ol s.heap st xs H ∧ st.length ≤ k
noncomputable def MOut (Y : Cy) (F : MF) (k : Nat) (log : List Nat) (s : Shared) : Prop :=
  ∃ hs ks ob vo ls le he tk, MB Y F (F.fr hs ks .none ob) [] k log s vo ls le [] he tk
section
variable {Y : Cy} {s s' : Shared} {A : Around} {d u : Nat} {R : Result → Shared → Prop} {fo fo' : Obj} {W W' : List En} {k : Nat} {log : List Nat} {vo : Obj} {ls : List Value} {le : Nat} {xs : List Value} {he tk : Nat}
theorem MF.mut (F : MF) {b : Addr} (hb : b ∉ [F.Lm, F.hd, F.hl, F.vd, F.lg]) {fo vo ls le xs he k tk W} (hW : ∀ e ∈ W, e.a ≠ b) : ∀ e ∈ F.ML fo vo ls le xs he k tk W, e.m = true → e.a ≠ b := by
  intro e he hm
  unfold MF.ML at he
  simp only [List.mem_cons, List.not_mem_nil, or_false] at he hb
  rcases he with rfl | rfl | rfl | rfl | rfl | rfl | rfl | rfl | rfl | rfl | rfl | rfl | he
  all_goals first | exact hW e he | (cases hm; done) | (intro e; apply hb; simp [← e])
theorem MB.ts (T : MB Y F fo W k log s vo ls le xs he tk) (T' : Tr (F.ML fo vo ls le xs he k tk W) s s') : Ts s.heap s'.heap := fun a l h => T.inv.tup T' h
theorem MB.next (T : MB Y F fo W k log s vo ls le xs he tk) (T' : Tr (F.ML fo vo ls le xs he k tk W) s s') {log' k' vo' ls' le' xs' he' tk'}
    (I : Inv Y.x s' (F.ML fo' vo' ls' le' xs' he' (k' : Nat) tk' W')) (hl : LogAt s'.heap log' ls') (hv : MvOk Y.p vo') (hW : ∀ e ∈ W', F.h0.objs.size ≤ e.a) (b2 : log'.length ≤ k') :
    MB Y F fo' W' k' log' s' vo' ls' le' xs' he' tk' := by
  have ts := T.ts T'
  refine ⟨I, hl, hv, T.ords.mono ts, fun b o hb hn => T'.keep b o (T.kp b o hb hn) (F.mut hn fun e he hb' => ?_), Nat.le_trans T.grow T'.size, hW, b2⟩
  exact absurd (Heap.lt_size hb) (Nat.not_lt.mpr (hb' ▸ T.ws e he))
theorem Inv.freeze {X : Cx} {a : Addr} {o : Obj} {L : List En} (I : Inv X s (⟨a, o, true⟩ :: L)) : Inv X s (⟨a, o, false⟩ :: L) := by
  refine ⟨I.good, fun e he => ?_, ?_, fun e he hm => ?_, fun e he hm => ?_⟩
  · rcases List.mem_cons.mp he with rfl | he
    · exact I.get ⟨a, o, true⟩ (List.mem_cons_self ..)
    · exact I.get e (List.mem_cons_of_mem _ he)
  · have := List.pairwise_cons.mp I.ap
    exact List.pairwise_cons.mpr ⟨fun e he _ => this.1 e he rfl, this.2⟩
  · rcases List.mem_cons.mp he with rfl | he
    · cases hm
    · exact I.low e (List.mem_cons_of_mem _ he) hm
  · rcases List.mem_cons.mp he with rfl | he
    · cases hm
    · exact I.nt e (List.mem_cons_of_mem _ he) hm
theorem push2 {α : Type} (x y : α) (A H : List α) : (A ++ (y :: x :: H)).Perm (x :: y :: (A ++ H)) :=
  (List.perm_append_comm_assoc A [y, x] H).trans (List.Perm.swap x y _)
end
end
section
open PySem PySem.W PySem.W.X PySem.Calls PySem.Spec PyProof.Rows
section
variable {Y : Cy} {F : MF} {s s1 : Shared} {A : Around} {d u : Nat} {R : Result → Shared → Prop} {st : List Wy} {k : Nat} {log : List Nat} {vo : Obj} {ls : List Value} {le : Nat} {xs : List Value} {he tk : Nat}
theorem ws2 {n wd wa : Nat} {o o' o2 : Obj} {b b' : Bool} {H : List En} (h : ∀ e ∈ ((⟨wd, o, b⟩ : En) :: ⟨wa, o2, b'⟩ :: H), n ≤ e.a) : ∀ e ∈ ((⟨wd, o', b⟩ : En) :: ⟨wa, o2, b'⟩ :: H), n ≤ e.a := by
  intro e he
  rcases List.mem_cons.mp he with rfl | he
  · exact h ⟨wd, o, b⟩ (List.mem_cons_self ..)
  · exact h e (List.mem_cons_of_mem _ he)
theorem ML_sub {fo vo ls le xs he k tk} {W W' : List En} (h : W'.Sublist W) : (F.ML fo vo ls le xs he k tk W').Sublist (F.ML fo vo ls le xs he k tk W) := by
  unfold MF.ML
  repeat (apply List.Sublist.cons_cons)
  exact h
theorem ML_perm {fo vo ls le xs he k tk} {W W' : List En} (h : W'.Perm W) : (F.ML fo vo ls le xs he k tk W').Perm (F.ML fo vo ls le xs he k tk W) := by
  unfold MF.ML
  repeat (apply List.Perm.cons)
  exact h
theorem mback (O : Y.x.Ok) (hd : d ≤ 500) (hA : AB d u A) {hs ks wa ob} {W H : List En} {w1 w2 : En} (hW : W = w1 :: w2 :: H) (T : MB Y F (F.fr hs ks (.ref wa) ob) W k log s vo ls le xs he tk) (hst : HistAt F.ol s.heap st xs H) (hle : st.length ≤ k) (hk : k ≤ 9999)
    (K1 : ∀ y st' s', st = y :: st' → MIn Y F y st' k log s' → codeAny Y.x.M A (mC Y.p F.Lm) R s') (K2 : ∀ s', st = [] → MOut Y F k log s' → R (.ok .next) s') :
    wpOwn Y.x.M A (mC Y.p F.Lm) (execs (ifBd (mS Y.p)) (envAt Y.p 474 F.Lm)) (After Y.x A (mC Y.p F.Lm) R) (fun _ _ => False) s := by
  subst hW
  cases st with
  | nil =>
    obtain ⟨rfl, rfl⟩ := hst
    have B := T.inv.sub (ML_sub (W' := []) (by simp))
    refine wpOwn_mono (own_execsT (X := Y.x) (R := fun r' s3 => r' = .ok .next ∧ MOut Y F k log s3)
      (tgo O hd hA B [true, false, true, false, false, true, true] [] (by simp) (m_back_end Y.p Y.b1 Y.b2 s.heap.objs.size s.toks F.Lm F.hd 0 F.hl F.vd F.lg wa F.mi F.md F.hi F.ol F.rf ob 0 F.bg F.tb hs F.hs' hs F.hm ks F.ks' ks F.km F.sbS F.ts F.oe he F.os [] 0 0 0 0 0 0) trivial fun s3 I3 T3 _ => ⟨rfl, ?_⟩)) (fun f s3 q => ?_) fun _ _ q => ?_
    · have I2 := Inv.back [true, false, true, false, false, true, true] (F.ML (F.fr hs ks .none ob) vo ls le [] he k tk []) 0 I3 rfl rfl
      have T3' : Tr (F.ML (F.fr hs ks (.ref wa) ob) vo ls le [] he k tk [w1, w2]) s s3 := T3.mono fun e he hm => (ML_sub (W' := []) (by simp)).subset he
      exact ⟨hs, ks, ob, vo, ls, le, he, tk, T.next T3' I2 (T.hlog.mono (T.ts T3')) T.vd (by simp) T.bl⟩
    · obtain ⟨q, T3⟩ := q
      cases q
      obtain ⟨hs, ks, ob, vo, ls, le, he, tk, T4⟩ := T3
      show codeAny _ _ _ _ _
      refine while_if ?_
      refine tgo O hd hA T4.inv [true] [] (by simp) (m_over Y.p Y.b1 Y.b2 s3.heap.objs.size s3.toks F.Lm F.hd 0 F.hl F.vd F.lg 0 F.mi F.md F.hi F.ol F.rf ob 0 F.bg F.tb hs F.hs' hs F.hm ks F.ks' ks F.km F.sbS F.ts F.oe he F.os [] 0 0 0 0 0 0) trivial fun s4 I4 T5 _ => ?_
      exact K2 s4 rfl ⟨hs, ks, ob, vo, ls, le, he, tk, T4.next T5 I4 (T4.hlog.mono (T4.ts T5)) T4.vd (by simp) T4.bl⟩
    · cases q.1
  | cons y st =>
    obtain ⟨wb, wd, hw, kw, tp, ta, mv, xs', H', rfl, rfl, hmk, hst⟩ := hst
    have hlen : xs'.length ≤ 9999 := by rw [hst.len]; simp at hle; omega
    have sb : (F.ML (F.fr hs ks (.ref wa) ob) vo ls le (xs' ++ [.ref wb]) he k tk (et wd (wayD hw kw F.ol y.pc tp y.at_ ta mv) :: ef wb (inst 449 wd) :: H')).Sublist (F.ML (F.fr hs ks (.ref wa) ob) vo ls le (xs' ++ [.ref wb]) he k tk (w1 :: w2 :: et wd (wayD hw kw F.ol y.pc tp y.at_ ta mv) :: ef wb (inst 449 wd) :: H')) := ML_sub (List.Sublist.cons _ (List.Sublist.cons _ (List.Sublist.refl _)))
    have B := T.inv.sub sb
    refine wpOwn_mono (own_execsT (X := Y.x) (R := fun r' s3 => r' = .ok .next ∧ MIn Y F y st k log s3)
      (tgo O hd hA B [true, false, true, false, false, true, true, false, false, false, false, false, true, true] [] (by simp) (m_back Y.p Y.b1 Y.b2 s.heap.objs.size s.toks F.Lm F.hd wd F.hl F.vd F.lg wa F.mi F.md F.hi F.ol F.rf ob 0 F.bg F.tb hs F.hs' hw F.hm ks F.ks' kw F.km F.sbS F.ts F.oe he F.os xs' 0 y.pc y.at_ 0 tp ta wb mv)
        ⟨oc_pop (by omega), oc_gt (by simp), oc_len_list (by simp) (by simp; omega), trivial⟩ fun s3 I3 T3 _ => ⟨rfl, ?_⟩)) (fun f s3 q => ?_) fun _ _ q => ?_
    · have I2 := Inv.back [true, false, true, false, false, true, true, false, false, false, false, false, true, true] (F.ML (F.fr hs ks (.ref wb) ob) vo ls le xs' (he + 1) k tk (et wd (wayD hw kw F.ol y.pc tp y.at_ ta mv) :: ef wb (inst 449 wd) :: H')) 0 I3 rfl rfl
      have T3' := T3.mono fun e he hm => sb.subset he
      have ts := T.ts T3'
      exact ⟨hs, ks, ob, wb, wd, hw, kw, tp, ta, mv, H', vo, ls, le, xs', he + 1, tk, T.next T3' I2 (T.hlog.mono ts) T.vd (fun e he => T.ws e (List.mem_cons_of_mem _ (List.mem_cons_of_mem _ he))) T.bl, hmk.mono ts, hst.mono ts, by simp at hle; omega⟩
    · obtain ⟨q, T3⟩ := q
      cases q
      exact K1 y st s3 rfl T3
    · cases q.1
variable {pc at_ : Nat} {mks : List Nat}
theorem mt_jump {g : Nat} (O : Y.x.Ok) (hd : d ≤ 500) (hA : AB d u A) (T : MIn Y F ⟨pc, at_, mks⟩ st k log s) (hk : k + 1 ≤ 9999) (hpc : pc ≤ 10000) (ho : F.ords[pc]? = some (.jump g))
    (K : ∀ s', MIn Y F ⟨g, at_, mks⟩ (st) (k + 1) (log) s' → codeAny Y.x.M A (mC Y.p F.Lm) R s') : codeAny Y.x.M A (mC Y.p F.Lm) R s := by
  obtain ⟨hs, ks, ob, wa, wd, hw, kw, tp, ta, mv, H, vo, ls, le, xs, he, tk, T, hmk, hst, hle⟩ := T
  obtain ⟨oa, hos, t1, tg, e1⟩ := T.ords.get ho
  refine while_if ?_
  have hgt : decide ((k : Int) + 1 > 9999) = false := by simp; omega
  have hlen : xs.length ≤ 9999 := by rw [hst.len]; omega
  cases mks with
  | nil =>
    cases (show mv = .none from hmk)
    refine tgo O hd hA T.inv [true, true, false, false, false, true, true, true, true, false, false, false, true, true] [(oa, [sv n_jump t1, .int (g : Nat) tg])] (by simp [e1]) (m_jump_n Y.p Y.b1 Y.b2 s.heap.objs.size s.toks F.Lm F.hd wd F.hl F.vd F.lg wa F.mi F.md F.hi F.ol F.rf ob oa F.bg F.tb hs F.hs' hw F.hm ks F.ks' kw F.km F.sbS F.ts F.oe he F.os xs k pc at_ tk tp ta t1 tg g) ⟨oc_lget hos hpc, oc_gt hgt, trivial⟩ fun s1 I1 T1 _ => ?_
    have ts := T.ts T1
    have I2 := Inv.back [true, true, false, false, false, true, true, true, true, false, false, false, true, true] (F.ML (F.fr hs ks (.ref wa) oa) vo ls le xs he ((k + 1 : Nat) : Int) (s.toks + 4) (⟨wd, (wayD hw kw F.ol g tg at_ ta .none), true⟩ :: ef wa (inst 449 wd) :: H)) 0 I1 rfl rfl
    exact K s1 ⟨hs, ks, oa, wa, wd, hw, kw, tg, ta, .none, H, vo, ls, le, xs, he, _, T.next T1 I2 (T.hlog.mono ts) T.vd (ws2 T.ws) (Nat.le_succ_of_le T.bl), rfl, hst.mono ts, Nat.le_succ_of_le hle⟩
  | cons b0 l0 =>
    obtain ⟨ma, r0, tb2, rfl, em, hl0⟩ := hmk
    refine tgo O hd hA T.inv [true, true, false, false, false, true, true, true, true, false, false, false, true, true] [(oa, [sv n_jump t1, .int (g : Nat) tg])] (by simp [e1]) (m_jump_r Y.p Y.b1 Y.b2 s.heap.objs.size s.toks F.Lm F.hd wd F.hl F.vd F.lg wa F.mi F.md F.hi F.ol F.rf ob oa F.bg F.tb hs F.hs' hw F.hm ks F.ks' kw F.km F.sbS F.ts F.oe he F.os xs k pc at_ tk tp ta ma t1 tg g) ⟨oc_lget hos hpc, oc_gt hgt, trivial⟩ fun s1 I1 T1 _ => ?_
    have ts := T.ts T1
    have I2 := Inv.back [true, true, false, false, false, true, true, true, true, false, false, false, true, true] (F.ML (F.fr hs ks (.ref wa) oa) vo ls le xs he ((k + 1 : Nat) : Int) (s.toks + 4) (⟨wd, (wayD hw kw F.ol g tg at_ ta (.ref ma)), true⟩ :: ef wa (inst 449 wd) :: H)) 0 I1 rfl rfl
    exact K s1 ⟨hs, ks, oa, wa, wd, hw, kw, tg, ta, (.ref ma), H, vo, ls, le, xs, he, _, T.next T1 I2 (T.hlog.mono ts) T.vd (ws2 T.ws) (Nat.le_succ_of_le T.bl), ⟨_, _, _, rfl, ts _ _ em, hl0.mono ts⟩, hst.mono ts, Nat.le_succ_of_le hle⟩
theorem mt_mark (O : Y.x.Ok) (hd : d ≤ 500) (hA : AB d u A) (T : MIn Y F ⟨pc, at_, mks⟩ st k log s) (hk : k + 1 ≤ 9999) (hpc : pc ≤ 10000) (ho : F.ords[pc]? = some (.mark))
    (K : ∀ s', MIn Y F ⟨pc + 1, at_, at_ :: mks⟩ (st) (k + 1) (log) s' → codeAny Y.x.M A (mC Y.p F.Lm) R s') : codeAny Y.x.M A (mC Y.p F.Lm) R s := by
  obtain ⟨hs, ks, ob, wa, wd, hw, kw, tp, ta, mv, H, vo, ls, le, xs, he, tk, T, hmk, hst, hle⟩ := T
  obtain ⟨oa, hos, t1, e1⟩ := T.ords.get ho
  refine while_if ?_
  have hgt : decide ((k : Int) + 1 > 9999) = false := by simp; omega
  have hlen : xs.length ≤ 9999 := by rw [hst.len]; omega
  cases mks with
  | nil =>
    cases (show mv = .none from hmk)
    refine tgo O hd hA T.inv [true, true, false, false, false, true, true, true, true, false, false, false, true, true] [(oa, [sv n_mark t1])] (by simp [e1]) (m_mark_n Y.p Y.b1 Y.b2 s.heap.objs.size s.toks F.Lm F.hd wd F.hl F.vd F.lg wa F.mi F.md F.hi F.ol F.rf ob oa F.bg F.tb hs F.hs' hw F.hm ks F.ks' kw F.km F.sbS F.ts F.oe he F.os xs k pc at_ tk tp ta t1) ⟨oc_lget hos hpc, oc_gt hgt, trivial⟩ fun s1 I1 T1 _ => ?_
    have ts := T.ts T1
    have I2 := Inv.back [true, true, false, false, false, true, true, true, true, false, false, false, true, true] (F.ML (F.fr hs ks (.ref wa) oa) vo ls le xs he ((k + 1 : Nat) : Int) (s.toks + 4) (⟨wd, (wayD hw kw F.ol ((pc + 1 : Nat) : Int) (s.toks + 25) at_ ta (.ref (s.heap.objs.size + 2))), true⟩ :: ef wa (inst 449 wd) :: H)) 1 I1 rfl rfl
    exact K s1 ⟨hs, ks, oa, wa, wd, hw, kw, (s.toks + 25), ta, (.ref (s.heap.objs.size + 2)), H, vo, ls, le, xs, he, _, T.next T1 I2 (T.hlog.mono ts) T.vd (ws2 T.ws) (Nat.le_succ_of_le T.bl), ⟨_, _, _, rfl, Inv.tups I1 (.head _), rfl⟩, hst.mono ts, Nat.le_succ_of_le hle⟩
  | cons b0 l0 =>
    obtain ⟨ma, r0, tb2, rfl, em, hl0⟩ := hmk
    refine tgo O hd hA T.inv [true, true, false, false, false, true, true, true, true, false, false, false, true, true] [(oa, [sv n_mark t1])] (by simp [e1]) (m_mark_r Y.p Y.b1 Y.b2 s.heap.objs.size s.toks F.Lm F.hd wd F.hl F.vd F.lg wa F.mi F.md F.hi F.ol F.rf ob oa F.bg F.tb hs F.hs' hw F.hm ks F.ks' kw F.km F.sbS F.ts F.oe he F.os xs k pc at_ tk tp ta ma t1) ⟨oc_lget hos hpc, oc_gt hgt, trivial⟩ fun s1 I1 T1 _ => ?_
    have ts := T.ts T1
    have I2 := Inv.back [true, true, false, false, false, true, true, true, true, false, false, false, true, true] (F.ML (F.fr hs ks (.ref wa) oa) vo ls le xs he ((k + 1 : Nat) : Int) (s.toks + 4) (⟨wd, (wayD hw kw F.ol ((pc + 1 : Nat) : Int) (s.toks + 25) at_ ta (.ref (s.heap.objs.size + 2))), true⟩ :: ef wa (inst 449 wd) :: H)) 1 I1 rfl rfl
    exact K s1 ⟨hs, ks, oa, wa, wd, hw, kw, (s.toks + 25), ta, (.ref (s.heap.objs.size + 2)), H, vo, ls, le, xs, he, _, T.next T1 I2 (T.hlog.mono ts) T.vd (ws2 T.ws) (Nat.le_succ_of_le T.bl), ⟨_, _, _, rfl, Inv.tups I1 (.head _), ⟨_, _, _, rfl, ts _ _ em, hl0.mono ts⟩⟩, hst.mono ts, Nat.le_succ_of_le hle⟩
theorem ML_push2 {fo vo ls le xs he k tk} (a b x y : En) (H : List En) : (F.ML fo vo ls le xs he k tk (a :: b :: y :: x :: H)).Perm (x :: y :: F.ML fo vo ls le xs he k tk (a :: b :: H)) := by
  have e : ∀ W, F.ML fo vo ls le xs he k tk (a :: b :: W) = F.ML fo vo ls le xs he k tk [a, b] ++ W := fun W => rfl
  rw [e, e]
  exact push2 x y _ H
theorem ws4 {n m a b : Nat} {o o2 : Obj} {W1 W2 : En} {f1 f2 : Bool} {H : List En} (h : ∀ e ∈ (W1 :: W2 :: H), n ≤ e.a) (hm : n ≤ m) : ∀ e ∈ (W1 :: W2 :: ⟨m + a, o, f1⟩ :: ⟨m + b, o2, f2⟩ :: H), n ≤ e.a := by
  intro e he
  simp only [List.mem_cons] at he
  rcases he with rfl | rfl | rfl | rfl | he
  · exact h _ (.head _)
  · exact h _ (.tail _ (.head _))
  · exact Nat.le_trans hm (Nat.le_add_right _ _)
  · exact Nat.le_trans hm (Nat.le_add_right _ _)
  · exact h e (.tail _ (.tail _ he))
theorem mt_split {g : Nat} (O : Y.x.Ok) (hd : d ≤ 500) (hA : AB d u A) (T : MIn Y F ⟨pc, at_, mks⟩ st k log s) (hk : k + 1 ≤ 9999) (hpc : pc ≤ 10000) (ho : F.ords[pc]? = some (.split g))
    (K : ∀ s', MIn Y F ⟨pc + 1, at_, mks⟩ (⟨g, at_, mks⟩ :: st) (k + 1) (log) s' → codeAny Y.x.M A (mC Y.p F.Lm) R s') : codeAny Y.x.M A (mC Y.p F.Lm) R s := by
  obtain ⟨hs, ks, ob, wa, wd, hw, kw, tp, ta, mv, H, vo, ls, le, xs, he, tk, T, hmk, hst, hle⟩ := T
  obtain ⟨oa, hos, t1, tg, e1⟩ := T.ords.get ho
  refine while_if ?_
  have hgt : decide ((k : Int) + 1 > 9999) = false := by simp; omega
  have hlen : xs.length ≤ 9999 := by rw [hst.len]; omega
  cases mks with
  | nil =>
    cases (show mv = .none from hmk)
    refine tgo O hd hA T.inv [true, true, true, false, false, true, true, true, true, false, false, false, true, true] [(oa, [sv n_split t1, .int (g : Nat) tg])] (by simp [e1]) (m_split_n Y.p Y.b1 Y.b2 s.heap.objs.size s.toks F.Lm F.hd wd F.hl F.vd F.lg wa F.mi F.md F.hi F.ol F.rf ob oa F.bg F.tb hs F.hs' hw F.hm ks F.ks' kw F.km F.sbS F.ts F.oe he F.os xs k pc at_ tk tp ta t1 tg g) ⟨oc_append (by omega), oc_lget hos hpc, oc_gt hgt, trivial⟩ fun s1 I1 T1 _ => ?_
    have ts := T.ts T1
    have I3 := (Inv.perm (L' := ⟨s.heap.objs.size + 4, inst 449 (s.heap.objs.size + 3), true⟩ :: ⟨s.heap.objs.size + 3, wayD (fun i => [kh Y.p n_orders, kh Y.p [112,99], kh Y.p [97,116], kh Y.p n_named, kh Y.p n_marks, kh Y.p n_calls].getD i 0) (fun i => [s.toks + 36, s.toks + 38, s.toks + 40, s.toks + 42, s.toks + 44, s.toks + 46].getD i 0) F.ol (g : Nat) tg at_ ta .none, true⟩ :: (F.ML (F.fr hs ks (.ref wa) oa) vo ls le (xs ++ [.ref (s.heap.objs.size + 4)]) (he + 1) ((k + 1 : Nat) : Int) (s.toks + 4) (et wd (wayD hw kw F.ol ((pc + 1 : Nat) : Int) (s.toks + 49) at_ ta .none) :: ef wa (inst 449 wd) :: H))) I1 (((part_perm [true, true, true, false, false, true, true, true, true, false, false, false, true, true] (F.ML (F.fr hs ks (.ref wa) oa) vo ls le (xs ++ [.ref (s.heap.objs.size + 4)]) (he + 1) ((k + 1 : Nat) : Int) (s.toks + 4) (et wd (wayD hw kw F.ol ((pc + 1 : Nat) : Int) (s.toks + 49) at_ ta .none) :: ef wa (inst 449 wd) :: H))).symm.cons _).cons _)).freeze
    have I2 := I3.perm (((ML_perm (F := F) (fo := F.fr hs ks (.ref wa) oa) (vo := vo) (ls := ls) (le := le) (xs := xs ++ [.ref (s.heap.objs.size + 4)]) (he := he + 1) (k := ((k + 1 : Nat) : Int)) (tk := s.toks + 4) (List.Perm.refl (et wd (wayD hw kw F.ol ((pc + 1 : Nat) : Int) (s.toks + 49) at_ ta .none) :: ef wa (inst 449 wd) :: ⟨s.heap.objs.size + 3, wayD (fun i => [kh Y.p n_orders, kh Y.p [112,99], kh Y.p [97,116], kh Y.p n_named, kh Y.p n_marks, kh Y.p n_calls].getD i 0) (fun i => [s.toks + 36, s.toks + 38, s.toks + 40, s.toks + 42, s.toks + 44, s.toks + 46].getD i 0) F.ol (g : Nat) tg at_ ta .none, true⟩ :: ⟨s.heap.objs.size + 4, inst 449 (s.heap.objs.size + 3), false⟩ :: H))).trans (ML_push2 _ _ _ _ _)))
    exact K s1 ⟨hs, ks, oa, wa, wd, hw, kw, _, ta, .none, _, vo, ls, le, xs ++ [.ref (s.heap.objs.size + 4)], he + 1, _, T.next T1 I2 (T.hlog.mono ts) T.vd (ws4 (ws2 T.ws) T.grow) (Nat.le_succ_of_le T.bl), rfl, ⟨_, _, _, _, _, _, _, xs, H, rfl, rfl, rfl, hst.mono ts⟩, Nat.succ_le_succ hle⟩
  | cons b0 l0 =>
    obtain ⟨ma, r0, tb2, rfl, em, hl0⟩ := hmk
    refine tgo O hd hA T.inv [true, true, true, false, false, true, true, true, true, false, false, false, true, true] [(oa, [sv n_split t1, .int (g : Nat) tg])] (by simp [e1]) (m_split_r Y.p Y.b1 Y.b2 s.heap.objs.size s.toks F.Lm F.hd wd F.hl F.vd F.lg wa F.mi F.md F.hi F.ol F.rf ob oa F.bg F.tb hs F.hs' hw F.hm ks F.ks' kw F.km F.sbS F.ts F.oe he F.os xs k pc at_ tk tp ta ma t1 tg g) ⟨oc_append (by omega), oc_lget hos hpc, oc_gt hgt, trivial⟩ fun s1 I1 T1 _ => ?_
    have ts := T.ts T1
    have I3 := (Inv.perm (L' := ⟨s.heap.objs.size + 4, inst 449 (s.heap.objs.size + 3), true⟩ :: ⟨s.heap.objs.size + 3, wayD (fun i => [kh Y.p n_orders, kh Y.p [112,99], kh Y.p [97,116], kh Y.p n_named, kh Y.p n_marks, kh Y.p n_calls].getD i 0) (fun i => [s.toks + 36, s.toks + 38, s.toks + 40, s.toks + 42, s.toks + 44, s.toks + 46].getD i 0) F.ol (g : Nat) tg at_ ta (.ref ma), true⟩ :: (F.ML (F.fr hs ks (.ref wa) oa) vo ls le (xs ++ [.ref (s.heap.objs.size + 4)]) (he + 1) ((k + 1 : Nat) : Int) (s.toks + 4) (et wd (wayD hw kw F.ol ((pc + 1 : Nat) : Int) (s.toks + 49) at_ ta (.ref ma)) :: ef wa (inst 449 wd) :: H))) I1 (((part_perm [true, true, true, false, false, true, true, true, true, false, false, false, true, true] (F.ML (F.fr hs ks (.ref wa) oa) vo ls le (xs ++ [.ref (s.heap.objs.size + 4)]) (he + 1) ((k + 1 : Nat) : Int) (s.toks + 4) (et wd (wayD hw kw F.ol ((pc + 1 : Nat) : Int) (s.toks + 49) at_ ta (.ref ma)) :: ef wa (inst 449 wd) :: H))).symm.cons _).cons _)).freeze
    have I2 := I3.perm (((ML_perm (F := F) (fo := F.fr hs ks (.ref wa) oa) (vo := vo) (ls := ls) (le := le) (xs := xs ++ [.ref (s.heap.objs.size + 4)]) (he := he + 1) (k := ((k + 1 : Nat) : Int)) (tk := s.toks + 4) (List.Perm.refl (et wd (wayD hw kw F.ol ((pc + 1 : Nat) : Int) (s.toks + 49) at_ ta (.ref ma)) :: ef wa (inst 449 wd) :: ⟨s.heap.objs.size + 3, wayD (fun i => [kh Y.p n_orders, kh Y.p [112,99], kh Y.p [97,116], kh Y.p n_named, kh Y.p n_marks, kh Y.p n_calls].getD i 0) (fun i => [s.toks + 36, s.toks + 38, s.toks + 40, s.toks + 42, s.toks + 44, s.toks + 46].getD i 0) F.ol (g : Nat) tg at_ ta (.ref ma), true⟩ :: ⟨s.heap.objs.size + 4, inst 449 (s.heap.objs.size + 3), false⟩ :: H))).trans (ML_push2 _ _ _ _ _)))
    exact K s1 ⟨hs, ks, oa, wa, wd, hw, kw, _, ta, (.ref ma), _, vo, ls, le, xs ++ [.ref (s.heap.objs.size + 4)], he + 1, _, T.next T1 I2 (T.hlog.mono ts) T.vd (ws4 (ws2 T.ws) T.grow) (Nat.le_succ_of_le T.bl), ⟨_, _, _, rfl, ts _ _ em, hl0.mono ts⟩, ⟨_, _, _, _, _, _, _, xs, H, rfl, rfl, ⟨_, _, _, rfl, ts _ _ em, hl0.mono ts⟩, hst.mono ts⟩, Nat.succ_le_succ hle⟩
theorem mt_place (O : Y.x.Ok) (hd : d ≤ 500) (hA : AB d u A) (T : MIn Y F ⟨pc, at_, mks⟩ st k log s) (hk : k + 1 ≤ 9999) (hpc : pc ≤ 10000) (ho : F.ords[pc]? = some (.place)) (hwp : Y.w.params = PP Y.p Y.b1 Y.b2)
    (K : ∀ s', MIn Y F ⟨pc + 1, at_, mks⟩ (st) (k + 1) (at_ :: log) s' → codeAny Y.x.M A (mC Y.p F.Lm) R s') : codeAny Y.x.M A (mC Y.p F.Lm) R s := by
  obtain ⟨hs, ks, ob, wa, wd, hw, kw, tp, ta, mv, H, vo, ls, le, xs, he, tk, T, hmk, hst, hle⟩ := T
  obtain ⟨oa, hos, t1, e1⟩ := T.ords.get ho
  refine while_if ?_
  have hgt : decide ((k : Int) + 1 > 9999) = false := by simp; omega
  have hlen : xs.length ≤ 9999 := by rw [hst.len]; omega
  have hh : hashStr Y.w ⟨⟨[74]⟩⟩ = kh Y.p [74] := by unfold hashStr; rw [hwp]; rfl
  cases mks with
  | nil =>
    cases (show mv = .none from hmk)
    rcases T.vd with ⟨ve, rfl⟩ | ⟨ve, kJ, vJ, tJ, rfl⟩
    · refine tgo O hd hA T.inv [true, true, false, true, true, true, true, true, true, true, true, true, true, true] [(oa, [sv n_place t1, .ref F.rj])] (by simp [e1]) (m_place0_n Y.p Y.b1 Y.b2 s.heap.objs.size s.toks F.Lm F.hd wd F.hl F.vd F.lg wa F.mi F.md F.hi F.ol F.rf ob oa F.bg F.tb hs F.hs' hw F.hm ks F.ks' kw F.km F.sbS F.ts F.oe he F.os xs k pc at_ tk tp ta t1 F.re F.rj F.dj ve le F.hj F.kj ls) ⟨oc_append (by rw [T.hlog.len]; have := T.bl; omega), oc_dnew (es := []) (by simp) (by simp) hh (by simp), oc_lget hos hpc, oc_gt hgt, trivial⟩ fun s1 I1 T1 _ => ?_
      have ts := T.ts T1
      have I2 := Inv.back [true, true, false, true, true, true, true, true, true, true, true, true, true, true] (F.ML (F.fr hs ks (.ref wa) oa) (mvd1 Y.p (ve + 1) (F.kj 4) at_ ta) (ls ++ [.ref (s.heap.objs.size + 4)]) (le + 1) xs he ((k + 1 : Nat) : Int) (s.toks + 4) (⟨wd, (wayD hw kw F.ol ((pc + 1 : Nat) : Int) (s.toks + 34) at_ ta .none), true⟩ :: ef wa (inst 449 wd) :: H)) 1 I1 rfl rfl
      exact K s1 ⟨hs, ks, oa, wa, wd, hw, kw, (s.toks + 34), ta, .none, H, (mvd1 Y.p (ve + 1) (F.kj 4) at_ ta), (ls ++ [.ref (s.heap.objs.size + 4)]), (le + 1), xs, he, _, T.next T1 I2 (log' := at_ :: log) ⟨ls, _, _, _, rfl, Inv.tups I1 (.head _), T.hlog.mono ts⟩ (.inr ⟨_, _, _, _, rfl⟩) (ws2 T.ws) (Nat.succ_le_succ T.bl), rfl, hst.mono ts, Nat.le_succ_of_le hle⟩
    · refine tgo O hd hA T.inv [true, true, false, true, true, true, true, true, true, true, true, true, true, true] [(oa, [sv n_place t1, .ref F.rj])] (by simp [e1]) (m_place1_n Y.p Y.b1 Y.b2 s.heap.objs.size s.toks F.Lm F.hd wd F.hl F.vd F.lg wa F.mi F.md F.hi F.ol F.rf ob oa F.bg F.tb hs F.hs' hw F.hm ks F.ks' kw F.km F.sbS F.ts F.oe he F.os xs k pc at_ tk tp ta t1 F.re F.rj F.dj ve le F.hj F.kj ls kJ tJ vJ) ⟨oc_append (by rw [T.hlog.len]; have := T.bl; omega), oc_dset (i := 0) (by simp [isExactStrKey]) (by simp [Value.isStr, List.findIdx?_cons]) rfl rfl, oc_lget hos hpc, oc_gt hgt, trivial⟩ fun s1 I1 T1 _ => ?_
      have ts := T.ts T1
      have I2 := Inv.back [true, true, false, true, true, true, true, true, true, true, true, true, true, true] (F.ML (F.fr hs ks (.ref wa) oa) (mvd1 Y.p ve kJ at_ ta) (ls ++ [.ref (s.heap.objs.size + 4)]) (le + 1) xs he ((k + 1 : Nat) : Int) (s.toks + 4) (⟨wd, (wayD hw kw F.ol ((pc + 1 : Nat) : Int) (s.toks + 34) at_ ta .none), true⟩ :: ef wa (inst 449 wd) :: H)) 1 I1 rfl rfl
      exact K s1 ⟨hs, ks, oa, wa, wd, hw, kw, (s.toks + 34), ta, .none, H, (mvd1 Y.p ve kJ at_ ta), (ls ++ [.ref (s.heap.objs.size + 4)]), (le + 1), xs, he, _, T.next T1 I2 (log' := at_ :: log) ⟨ls, _, _, _, rfl, Inv.tups I1 (.head _), T.hlog.mono ts⟩ (.inr ⟨_, _, _, _, rfl⟩) (ws2 T.ws) (Nat.succ_le_succ T.bl), rfl, hst.mono ts, Nat.le_succ_of_le hle⟩
  | cons b0 l0 =>
    obtain ⟨ma, r0, tb2, rfl, em, hl0⟩ := hmk
    rcases T.vd with ⟨ve, rfl⟩ | ⟨ve, kJ, vJ, tJ, rfl⟩
    · refine tgo O hd hA T.inv [true, true, false, true, true, true, true, true, true, true, true, true, true, true] [(oa, [sv n_place t1, .ref F.rj])] (by simp [e1]) (m_place0_r Y.p Y.b1 Y.b2 s.heap.objs.size s.toks F.Lm F.hd wd F.hl F.vd F.lg wa F.mi F.md F.hi F.ol F.rf ob oa F.bg F.tb hs F.hs' hw F.hm ks F.ks' kw F.km F.sbS F.ts F.oe he F.os xs k pc at_ tk tp ta ma t1 F.re F.rj F.dj ve le F.hj F.kj ls) ⟨oc_append (by rw [T.hlog.len]; have := T.bl; omega), oc_dnew (es := []) (by simp) (by simp) hh (by simp), oc_lget hos hpc, oc_gt hgt, trivial⟩ fun s1 I1 T1 _ => ?_
      have ts := T.ts T1
      have I2 := Inv.back [true, true, false, true, true, true, true, true, true, true, true, true, true, true] (F.ML (F.fr hs ks (.ref wa) oa) (mvd1 Y.p (ve + 1) (F.kj 4) at_ ta) (ls ++ [.ref (s.heap.objs.size + 4)]) (le + 1) xs he ((k + 1 : Nat) : Int) (s.toks + 4) (⟨wd, (wayD hw kw F.ol ((pc + 1 : Nat) : Int) (s.toks + 34) at_ ta (.ref ma)), true⟩ :: ef wa (inst 449 wd) :: H)) 1 I1 rfl rfl
      exact K s1 ⟨hs, ks, oa, wa, wd, hw, kw, (s.toks + 34), ta, (.ref ma), H, (mvd1 Y.p (ve + 1) (F.kj 4) at_ ta), (ls ++ [.ref (s.heap.objs.size + 4)]), (le + 1), xs, he, _, T.next T1 I2 (log' := at_ :: log) ⟨ls, _, _, _, rfl, Inv.tups I1 (.head _), T.hlog.mono ts⟩ (.inr ⟨_, _, _, _, rfl⟩) (ws2 T.ws) (Nat.succ_le_succ T.bl), ⟨_, _, _, rfl, ts _ _ em, hl0.mono ts⟩, hst.mono ts, Nat.le_succ_of_le hle⟩
    · refine tgo O hd hA T.inv [true, true, false, true, true, true, true, true, true, true, true, true, true, true] [(oa, [sv n_place t1, .ref F.rj])] (by simp [e1]) (m_place1_r Y.p Y.b1 Y.b2 s.heap.objs.size s.toks F.Lm F.hd wd F.hl F.vd F.lg wa F.mi F.md F.hi F.ol F.rf ob oa F.bg F.tb hs F.hs' hw F.hm ks F.ks' kw F.km F.sbS F.ts F.oe he F.os xs k pc at_ tk tp ta ma t1 F.re F.rj F.dj ve le F.hj F.kj ls kJ tJ vJ) ⟨oc_append (by rw [T.hlog.len]; have := T.bl; omega), oc_dset (i := 0) (by simp [isExactStrKey]) (by simp [Value.isStr, List.findIdx?_cons]) rfl rfl, oc_lget hos hpc, oc_gt hgt, trivial⟩ fun s1 I1 T1 _ => ?_
      have ts := T.ts T1
      have I2 := Inv.back [true, true, false, true, true, true, true, true, true, true, true, true, true, true] (F.ML (F.fr hs ks (.ref wa) oa) (mvd1 Y.p ve kJ at_ ta) (ls ++ [.ref (s.heap.objs.size + 4)]) (le + 1) xs he ((k + 1 : Nat) : Int) (s.toks + 4) (⟨wd, (wayD hw kw F.ol ((pc + 1 : Nat) : Int) (s.toks + 34) at_ ta (.ref ma)), true⟩ :: ef wa (inst 449 wd) :: H)) 1 I1 rfl rfl
      exact K s1 ⟨hs, ks, oa, wa, wd, hw, kw, (s.toks + 34), ta, (.ref ma), H, (mvd1 Y.p ve kJ at_ ta), (ls ++ [.ref (s.heap.objs.size + 4)]), (le + 1), xs, he, _, T.next T1 I2 (log' := at_ :: log) ⟨ls, _, _, _, rfl, Inv.tups I1 (.head _), T.hlog.mono ts⟩ (.inr ⟨_, _, _, _, rfl⟩) (ws2 T.ws) (Nat.succ_le_succ T.bl), ⟨_, _, _, rfl, ts _ _ em, hl0.mono ts⟩, hst.mono ts, Nat.le_succ_of_le hle⟩
theorem mt_fail (O : Y.x.Ok) (hd : d ≤ 500) (hA : AB d u A) (T : MIn Y F ⟨pc, at_, mks⟩ st k log s) (hk : k + 1 ≤ 9999) (hpc : pc ≤ 10000) (ho : F.ords[pc]? = some (.fail))
    (K1 : ∀ y st' s', st = y :: st' → MIn Y F y st' (k + 1) log s' → codeAny Y.x.M A (mC Y.p F.Lm) R s') (K2 : ∀ s', st = [] → MOut Y F (k + 1) log s' → R (.ok .next) s') : codeAny Y.x.M A (mC Y.p F.Lm) R s := by
  obtain ⟨hs, ks, ob, wa, wd, hw, kw, tp, ta, mv, H, vo, ls, le, xs, he, tk, T, hmk, hst, hle⟩ := T
  obtain ⟨oa, hos, t1, e1⟩ := T.ords.get ho
  refine while_if ?_
  have hgt : decide ((k : Int) + 1 > 9999) = false := by simp; omega
  have hlen : xs.length ≤ 9999 := by rw [hst.len]; omega
  cases mks with
  | nil =>
    cases (show mv = .none from hmk)
    refine tgo O hd hA T.inv [true, true, false, false, false, true, true, true, true, false, false, false, true, true] [(oa, [sv n_fail t1])] (by simp [e1]) (m_fail_n Y.p Y.b1 Y.b2 s.heap.objs.size s.toks F.Lm F.hd wd F.hl F.vd F.lg wa F.mi F.md F.hi F.ol F.rf ob oa F.bg F.tb hs F.hs' hw F.hm ks F.ks' kw F.km F.sbS F.ts F.oe he F.os xs k pc at_ tk tp ta t1) ⟨oc_lget hos hpc, oc_gt hgt, trivial⟩ fun s1 I1 T1 _ => ?_
    have ts := T.ts T1
    have I2 := Inv.back [true, true, false, false, false, true, true, true, true, false, false, false, true, true] (F.ML (F.fr hs ks (.ref wa) oa) vo ls le xs he ((k + 1 : Nat) : Int) (s.toks + 4) (⟨wd, (wayD hw kw F.ol pc tp at_ ta .none), true⟩ :: ef wa (inst 449 wd) :: H)) 0 I1 rfl rfl
    exact mback O hd hA rfl (T.next T1 I2 (T.hlog.mono ts) T.vd (ws2 T.ws) (Nat.le_succ_of_le T.bl)) (hst.mono ts) (Nat.le_succ_of_le hle) hk K1 K2
  | cons b0 l0 =>
    obtain ⟨ma, r0, tb2, rfl, em, hl0⟩ := hmk
    refine tgo O hd hA T.inv [true, true, false, false, false, true, true, true, true, false, false, false, true, true] [(oa, [sv n_fail t1])] (by simp [e1]) (m_fail_r Y.p Y.b1 Y.b2 s.heap.objs.size s.toks F.Lm F.hd wd F.hl F.vd F.lg wa F.mi F.md F.hi F.ol F.rf ob oa F.bg F.tb hs F.hs' hw F.hm ks F.ks' kw F.km F.sbS F.ts F.oe he F.os xs k pc at_ tk tp ta ma t1) ⟨oc_lget hos hpc, oc_gt hgt, trivial⟩ fun s1 I1 T1 _ => ?_
    have ts := T.ts T1
    have I2 := Inv.back [true, true, false, false, false, true, true, true, true, false, false, false, true, true] (F.ML (F.fr hs ks (.ref wa) oa) vo ls le xs he ((k + 1 : Nat) : Int) (s.toks + 4) (⟨wd, (wayD hw kw F.ol pc tp at_ ta (.ref ma)), true⟩ :: ef wa (inst 449 wd) :: H)) 0 I1 rfl rfl
    exact mback O hd hA rfl (T.next T1 I2 (T.hlog.mono ts) T.vd (ws2 T.ws) (Nat.le_succ_of_le T.bl)) (hst.mono ts) (Nat.le_succ_of_le hle) hk K1 K2
theorem mt_any {cs : List Nat} {ch : Nat} (O : Y.x.Ok) (hd : d ≤ 500) (hA : AB d u A) (T : MIn Y F ⟨pc, at_, mks⟩ st k log s) (hk : k + 1 ≤ 9999) (hpc : pc ≤ 10000) (ho : F.ords[pc]? = some (.any cs)) (hz : F.sb.length ≤ 10000) (hc : F.sb[at_]? = some ch) (hin : decide (ch ∈ cs) = true)
    (K : ∀ s', MIn Y F ⟨pc + 1, at_ + 1, mks⟩ (st) (k + 1) (log) s' → codeAny Y.x.M A (mC Y.p F.Lm) R s') : codeAny Y.x.M A (mC Y.p F.Lm) R s := by
  obtain ⟨hs, ks, ob, wa, wd, hw, kw, tp, ta, mv, H, vo, ls, le, xs, he, tk, T, hmk, hst, hle⟩ := T
  obtain ⟨oa, hos, t1, t2, t3, e1⟩ := T.ords.get ho
  refine while_if ?_
  have hgt : decide ((k : Int) + 1 > 9999) = false := by simp; omega
  have hlen : xs.length ≤ 9999 := by rw [hst.len]; omega
  have hi : at_ < F.sb.length := (List.getElem?_eq_some_iff.mp hc).1
  cases mks with
  | nil =>
    cases (show mv = .none from hmk)
    refine tgo O hd hA T.inv [true, true, false, false, false, true, true, true, true, false, false, false, true, true] [(oa, [sv n_one t1, sv n_any t2, sv cs t3])] (by simp [e1]) (m_any_hit_n Y.p Y.b1 Y.b2 s.heap.objs.size s.toks F.Lm F.hd wd F.hl F.vd F.lg wa F.mi F.md F.hi F.ol F.rf ob oa F.bg F.tb hs F.hs' hw F.hm ks F.ks' kw F.km F.sbS F.ts F.oe he F.os xs k pc at_ tk tp ta t1 t2 t3 ch ⟨⟨cs⟩⟩) ⟨oc_in (by rw [StrLaws.found_one]; exact hin), oc_item (by simp; omega) (item_ok hc hz), oc_lt (by show decide ((at_ : Int) < (F.sb.length : Nat)) = true; simp; omega), oc_len_str hz, oc_lget hos hpc, oc_gt hgt, trivial⟩ fun s1 I1 T1 _ => ?_
    have ts := T.ts T1
    have I2 := Inv.back [true, true, false, false, false, true, true, true, true, false, false, false, true, true] (F.ML (F.fr hs ks (.ref wa) oa) vo ls le xs he ((k + 1 : Nat) : Int) (s.toks + 4) (⟨wd, (wayD hw kw F.ol ((pc + 1 : Nat) : Int) (s.toks + 59) ((at_ + 1 : Nat) : Int) (s.toks + 53) .none), true⟩ :: ef wa (inst 449 wd) :: H)) 0 I1 rfl rfl
    exact K s1 ⟨hs, ks, oa, wa, wd, hw, kw, (s.toks + 59), (s.toks + 53), .none, H, vo, ls, le, xs, he, _, T.next T1 I2 (T.hlog.mono ts) T.vd (ws2 T.ws) (Nat.le_succ_of_le T.bl), rfl, hst.mono ts, Nat.le_succ_of_le hle⟩
  | cons b0 l0 =>
    obtain ⟨ma, r0, tb2, rfl, em, hl0⟩ := hmk
    refine tgo O hd hA T.inv [true, true, false, false, false, true, true, true, true, false, false, false, true, true] [(oa, [sv n_one t1, sv n_any t2, sv cs t3])] (by simp [e1]) (m_any_hit_r Y.p Y.b1 Y.b2 s.heap.objs.size s.toks F.Lm F.hd wd F.hl F.vd F.lg wa F.mi F.md F.hi F.ol F.rf ob oa F.bg F.tb hs F.hs' hw F.hm ks F.ks' kw F.km F.sbS F.ts F.oe he F.os xs k pc at_ tk tp ta ma t1 t2 t3 ch ⟨⟨cs⟩⟩) ⟨oc_in (by rw [StrLaws.found_one]; exact hin), oc_item (by simp; omega) (item_ok hc hz), oc_lt (by show decide ((at_ : Int) < (F.sb.length : Nat)) = true; simp; omega), oc_len_str hz, oc_lget hos hpc, oc_gt hgt, trivial⟩ fun s1 I1 T1 _ => ?_
    have ts := T.ts T1
    have I2 := Inv.back [true, true, false, false, false, true, true, true, true, false, false, false, true, true] (F.ML (F.fr hs ks (.ref wa) oa) vo ls le xs he ((k + 1 : Nat) : Int) (s.toks + 4) (⟨wd, (wayD hw kw F.ol ((pc + 1 : Nat) : Int) (s.toks + 59) ((at_ + 1 : Nat) : Int) (s.toks + 53) (.ref ma)), true⟩ :: ef wa (inst 449 wd) :: H)) 0 I1 rfl rfl
    exact K s1 ⟨hs, ks, oa, wa, wd, hw, kw, (s.toks + 59), (s.toks + 53), (.ref ma), H, vo, ls, le, xs, he, _, T.next T1 I2 (T.hlog.mono ts) T.vd (ws2 T.ws) (Nat.le_succ_of_le T.bl), ⟨_, _, _, rfl, ts _ _ em, hl0.mono ts⟩, hst.mono ts, Nat.le_succ_of_le hle⟩
theorem mt_any_miss {cs : List Nat} {ch : Nat} (O : Y.x.Ok) (hd : d ≤ 500) (hA : AB d u A) (T : MIn Y F ⟨pc, at_, mks⟩ st k log s) (hk : k + 1 ≤ 9999) (hpc : pc ≤ 10000) (ho : F.ords[pc]? = some (.any cs)) (hz : F.sb.length ≤ 10000) (hc : F.sb[at_]? = some ch) (hin : decide (ch ∈ cs) = false)
    (K1 : ∀ y st' s', st = y :: st' → MIn Y F y st' (k + 1) log s' → codeAny Y.x.M A (mC Y.p F.Lm) R s') (K2 : ∀ s', st = [] → MOut Y F (k + 1) log s' → R (.ok .next) s') : codeAny Y.x.M A (mC Y.p F.Lm) R s := by
  obtain ⟨hs, ks, ob, wa, wd, hw, kw, tp, ta, mv, H, vo, ls, le, xs, he, tk, T, hmk, hst, hle⟩ := T
  obtain ⟨oa, hos, t1, t2, t3, e1⟩ := T.ords.get ho
  refine while_if ?_
  have hgt : decide ((k : Int) + 1 > 9999) = false := by simp; omega
  have hlen : xs.length ≤ 9999 := by rw [hst.len]; omega
  have hi : at_ < F.sb.length := (List.getElem?_eq_some_iff.mp hc).1
  cases mks with
  | nil =>
    cases (show mv = .none from hmk)
    refine tgo O hd hA T.inv [true, true, false, false, false, true, true, true, true, false, false, false, true, true] [(oa, [sv n_one t1, sv n_any t2, sv cs t3])] (by simp [e1]) (m_any_miss_n Y.p Y.b1 Y.b2 s.heap.objs.size s.toks F.Lm F.hd wd F.hl F.vd F.lg wa F.mi F.md F.hi F.ol F.rf ob oa F.bg F.tb hs F.hs' hw F.hm ks F.ks' kw F.km F.sbS F.ts F.oe he F.os xs k pc at_ tk tp ta t1 t2 t3 ch ⟨⟨cs⟩⟩) ⟨oc_in (by rw [StrLaws.found_one]; exact hin), oc_item (by simp; omega) (item_ok hc hz), oc_lt (by show decide ((at_ : Int) < (F.sb.length : Nat)) = true; simp; omega), oc_len_str hz, oc_lget hos hpc, oc_gt hgt, trivial⟩ fun s1 I1 T1 _ => ?_
    have ts := T.ts T1
    have I2 := Inv.back [true, true, false, false, false, true, true, true, true, false, false, false, true, true] (F.ML (F.fr hs ks (.ref wa) oa) vo ls le xs he ((k + 1 : Nat) : Int) (s.toks + 4) (⟨wd, (wayD hw kw F.ol pc tp at_ ta .none), true⟩ :: ef wa (inst 449 wd) :: H)) 0 I1 rfl rfl
    exact mback O hd hA rfl (T.next T1 I2 (T.hlog.mono ts) T.vd (ws2 T.ws) (Nat.le_succ_of_le T.bl)) (hst.mono ts) (Nat.le_succ_of_le hle) hk K1 K2
  | cons b0 l0 =>
    obtain ⟨ma, r0, tb2, rfl, em, hl0⟩ := hmk
    refine tgo O hd hA T.inv [true, true, false, false, false, true, true, true, true, false, false, false, true, true] [(oa, [sv n_one t1, sv n_any t2, sv cs t3])] (by simp [e1]) (m_any_miss_r Y.p Y.b1 Y.b2 s.heap.objs.size s.toks F.Lm F.hd wd F.hl F.vd F.lg wa F.mi F.md F.hi F.ol F.rf ob oa F.bg F.tb hs F.hs' hw F.hm ks F.ks' kw F.km F.sbS F.ts F.oe he F.os xs k pc at_ tk tp ta ma t1 t2 t3 ch ⟨⟨cs⟩⟩) ⟨oc_in (by rw [StrLaws.found_one]; exact hin), oc_item (by simp; omega) (item_ok hc hz), oc_lt (by show decide ((at_ : Int) < (F.sb.length : Nat)) = true; simp; omega), oc_len_str hz, oc_lget hos hpc, oc_gt hgt, trivial⟩ fun s1 I1 T1 _ => ?_
    have ts := T.ts T1
    have I2 := Inv.back [true, true, false, false, false, true, true, true, true, false, false, false, true, true] (F.ML (F.fr hs ks (.ref wa) oa) vo ls le xs he ((k + 1 : Nat) : Int) (s.toks + 4) (⟨wd, (wayD hw kw F.ol pc tp at_ ta (.ref ma)), true⟩ :: ef wa (inst 449 wd) :: H)) 0 I1 rfl rfl
    exact mback O hd hA rfl (T.next T1 I2 (T.hlog.mono ts) T.vd (ws2 T.ws) (Nat.le_succ_of_le T.bl)) (hst.mono ts) (Nat.le_succ_of_le hle) hk K1 K2
theorem mt_any_end {cs : List Nat} (O : Y.x.Ok) (hd : d ≤ 500) (hA : AB d u A) (T : MIn Y F ⟨pc, at_, mks⟩ st k log s) (hk : k + 1 ≤ 9999) (hpc : pc ≤ 10000) (ho : F.ords[pc]? = some (.any cs)) (hz : F.sb.length ≤ 10000) (hc : F.sb.length ≤ at_)
    (K1 : ∀ y st' s', st = y :: st' → MIn Y F y st' (k + 1) log s' → codeAny Y.x.M A (mC Y.p F.Lm) R s') (K2 : ∀ s', st = [] → MOut Y F (k + 1) log s' → R (.ok .next) s') : codeAny Y.x.M A (mC Y.p F.Lm) R s := by
  obtain ⟨hs, ks, ob, wa, wd, hw, kw, tp, ta, mv, H, vo, ls, le, xs, he, tk, T, hmk, hst, hle⟩ := T
  obtain ⟨oa, hos, t1, t2, t3, e1⟩ := T.ords.get ho
  refine while_if ?_
  have hgt : decide ((k : Int) + 1 > 9999) = false := by simp; omega
  have hlen : xs.length ≤ 9999 := by rw [hst.len]; omega
  cases mks with
  | nil =>
    cases (show mv = .none from hmk)
    refine tgo O hd hA T.inv [true, true, false, false, false, true, true, true, true, false, false, false, true, true] [(oa, [sv n_one t1, sv n_any t2, sv cs t3])] (by simp [e1]) (m_any_end_n Y.p Y.b1 Y.b2 s.heap.objs.size s.toks F.Lm F.hd wd F.hl F.vd F.lg wa F.mi F.md F.hi F.ol F.rf ob oa F.bg F.tb hs F.hs' hw F.hm ks F.ks' kw F.km F.sbS F.ts F.oe he F.os xs k pc at_ tk tp ta t1 t2 t3 0 ⟨⟨cs⟩⟩) ⟨oc_lt (by show decide ((at_ : Int) < (F.sb.length : Nat)) = false; simp; omega), oc_len_str hz, oc_lget hos hpc, oc_gt hgt, trivial⟩ fun s1 I1 T1 _ => ?_
    have ts := T.ts T1
    have I2 := Inv.back [true, true, false, false, false, true, true, true, true, false, false, false, true, true] (F.ML (F.fr hs ks (.ref wa) oa) vo ls le xs he ((k + 1 : Nat) : Int) (s.toks + 4) (⟨wd, (wayD hw kw F.ol pc tp at_ ta .none), true⟩ :: ef wa (inst 449 wd) :: H)) 0 I1 rfl rfl
    exact mback O hd hA rfl (T.next T1 I2 (T.hlog.mono ts) T.vd (ws2 T.ws) (Nat.le_succ_of_le T.bl)) (hst.mono ts) (Nat.le_succ_of_le hle) hk K1 K2
  | cons b0 l0 =>
    obtain ⟨ma, r0, tb2, rfl, em, hl0⟩ := hmk
    refine tgo O hd hA T.inv [true, true, false, false, false, true, true, true, true, false, false, false, true, true] [(oa, [sv n_one t1, sv n_any t2, sv cs t3])] (by simp [e1]) (m_any_end_r Y.p Y.b1 Y.b2 s.heap.objs.size s.toks F.Lm F.hd wd F.hl F.vd F.lg wa F.mi F.md F.hi F.ol F.rf ob oa F.bg F.tb hs F.hs' hw F.hm ks F.ks' kw F.km F.sbS F.ts F.oe he F.os xs k pc at_ tk tp ta ma t1 t2 t3 0 ⟨⟨cs⟩⟩) ⟨oc_lt (by show decide ((at_ : Int) < (F.sb.length : Nat)) = false; simp; omega), oc_len_str hz, oc_lget hos hpc, oc_gt hgt, trivial⟩ fun s1 I1 T1 _ => ?_
    have ts := T.ts T1
    have I2 := Inv.back [true, true, false, false, false, true, true, true, true, false, false, false, true, true] (F.ML (F.fr hs ks (.ref wa) oa) vo ls le xs he ((k + 1 : Nat) : Int) (s.toks + 4) (⟨wd, (wayD hw kw F.ol pc tp at_ ta (.ref ma)), true⟩ :: ef wa (inst 449 wd) :: H)) 0 I1 rfl rfl
    exact mback O hd hA rfl (T.next T1 I2 (T.hlog.mono ts) T.vd (ws2 T.ws) (Nat.le_succ_of_le T.bl)) (hst.mono ts) (Nat.le_succ_of_le hle) hk K1 K2
theorem mt_chars (O : Y.x.Ok) (hd : d ≤ 500) (hA : AB d u A) (T : MIn Y F ⟨pc, at_, mks⟩ st k log s) (hk : k + 1 ≤ 9999) (hpc : pc ≤ 10000) (ho : F.ords[pc]? = some (.chars)) (hz : F.sb.length ≤ 10000)
    (K : ∀ s', MIn Y F ⟨pc + 1, at_, mks⟩ (st) (k + 1) (log) s' → codeAny Y.x.M A (mC Y.p F.Lm) R s') : codeAny Y.x.M A (mC Y.p F.Lm) R s := by
  obtain ⟨hs, ks, ob, wa, wd, hw, kw, tp, ta, mv, H, vo, ls, le, xs, he, tk, T, hmk, hst, hle⟩ := T
  obtain ⟨oa, hos, t1, t2, t3, e1⟩ := T.ords.get ho
  refine while_if ?_
  have hgt : decide ((k : Int) + 1 > 9999) = false := by simp; omega
  have hlen : xs.length ≤ 9999 := by rw [hst.len]; omega
  cases mks with
  | nil =>
    cases (show mv = .none from hmk)
    cases hsb : F.sb with
    | nil =>
      have hS : F.sbS = ⟨⟨[]⟩⟩ := by unfold MF.sbS; rw [hsb]
      refine tgo O hd hA T.inv [true, true, false, false, false, true, true, true, true, false, false, false, true, true] [(oa, [sv n_one t1, sv n_chars t2, sv [] t3])] (by simp [e1]) (m_charsw_n Y.p Y.b1 Y.b2 s.heap.objs.size s.toks F.Lm F.hd wd F.hl F.vd F.lg wa F.mi F.md F.hi F.ol F.rf ob oa F.bg F.tb hs F.hs' hw F.hm ks F.ks' kw F.km F.sbS F.ts F.oe he F.os xs k pc at_ tk tp ta t1 t2 t3) ⟨(by rw [hS]; exact oc_slice_all (by rw [slice_none (by simp)]; rfl)), oc_lget hos hpc, oc_gt hgt, trivial⟩ fun s1 I1 T1 _ => ?_
      have ts := T.ts T1
      have I2 := Inv.back [true, true, false, false, false, true, true, true, true, false, false, false, true, true] (F.ML (F.fr hs ks (.ref wa) oa) vo ls le xs he ((k + 1 : Nat) : Int) (s.toks + 4) (⟨wd, (wayD hw kw F.ol ((pc + 1 : Nat) : Int) (s.toks + 52) at_ (s.toks + 45) .none), true⟩ :: ef wa (inst 449 wd) :: H)) 0 I1 rfl rfl
      exact K s1 ⟨hs, ks, oa, wa, wd, hw, kw, (s.toks + 52), (s.toks + 45), .none, H, vo, ls, le, xs, he, _, T.next T1 I2 (T.hlog.mono ts) T.vd (ws2 T.ws) (Nat.le_succ_of_le T.bl), rfl, hst.mono ts, Nat.le_succ_of_le hle⟩
    | cons c0 sb0 =>
      refine tgo O hd hA T.inv [true, true, false, false, false, true, true, true, true, false, false, false, true, true] [(oa, [sv n_one t1, sv n_chars t2, sv [] t3])] (by simp [e1]) (m_charsf_n Y.p Y.b1 Y.b2 s.heap.objs.size s.toks F.Lm F.hd wd F.hl F.vd F.lg wa F.mi F.md F.hi F.ol F.rf ob oa F.bg F.tb hs F.hs' hw F.hm ks F.ks' kw F.km F.sbS F.ts F.oe he F.os xs k pc at_ tk tp ta t1 t2 t3) ⟨oc_slice (by rw [slice_none (by simp)]; show 0 ≠ F.sb.length; rw [hsb]; simp) (by rw [slice_none (by simp)]; rfl) (by decide), oc_lget hos hpc, oc_gt hgt, trivial⟩ fun s1 I1 T1 _ => ?_
      have ts := T.ts T1
      have I2 := Inv.back [true, true, false, false, false, true, true, true, true, false, false, false, true, true] (F.ML (F.fr hs ks (.ref wa) oa) vo ls le xs he ((k + 1 : Nat) : Int) (s.toks + 4) (⟨wd, (wayD hw kw F.ol ((pc + 1 : Nat) : Int) (s.toks + 53) at_ (s.toks + 45) .none), true⟩ :: ef wa (inst 449 wd) :: H)) 0 I1 rfl rfl
      exact K s1 ⟨hs, ks, oa, wa, wd, hw, kw, (s.toks + 53), (s.toks + 45), .none, H, vo, ls, le, xs, he, _, T.next T1 I2 (T.hlog.mono ts) T.vd (ws2 T.ws) (Nat.le_succ_of_le T.bl), rfl, hst.mono ts, Nat.le_succ_of_le hle⟩
  | cons b0 l0 =>
    obtain ⟨ma, r0, tb2, rfl, em, hl0⟩ := hmk
    cases hsb : F.sb with
    | nil =>
      have hS : F.sbS = ⟨⟨[]⟩⟩ := by unfold MF.sbS; rw [hsb]
      refine tgo O hd hA T.inv [true, true, false, false, false, true, true, true, true, false, false, false, true, true] [(oa, [sv n_one t1, sv n_chars t2, sv [] t3])] (by simp [e1]) (m_charsw_r Y.p Y.b1 Y.b2 s.heap.objs.size s.toks F.Lm F.hd wd F.hl F.vd F.lg wa F.mi F.md F.hi F.ol F.rf ob oa F.bg F.tb hs F.hs' hw F.hm ks F.ks' kw F.km F.sbS F.ts F.oe he F.os xs k pc at_ tk tp ta ma t1 t2 t3) ⟨(by rw [hS]; exact oc_slice_all (by rw [slice_none (by simp)]; rfl)), oc_lget hos hpc, oc_gt hgt, trivial⟩ fun s1 I1 T1 _ => ?_
      have ts := T.ts T1
      have I2 := Inv.back [true, true, false, false, false, true, true, true, true, false, false, false, true, true] (F.ML (F.fr hs ks (.ref wa) oa) vo ls le xs he ((k + 1 : Nat) : Int) (s.toks + 4) (⟨wd, (wayD hw kw F.ol ((pc + 1 : Nat) : Int) (s.toks + 52) at_ (s.toks + 45) (.ref ma)), true⟩ :: ef wa (inst 449 wd) :: H)) 0 I1 rfl rfl
      exact K s1 ⟨hs, ks, oa, wa, wd, hw, kw, (s.toks + 52), (s.toks + 45), (.ref ma), H, vo, ls, le, xs, he, _, T.next T1 I2 (T.hlog.mono ts) T.vd (ws2 T.ws) (Nat.le_succ_of_le T.bl), ⟨_, _, _, rfl, ts _ _ em, hl0.mono ts⟩, hst.mono ts, Nat.le_succ_of_le hle⟩
    | cons c0 sb0 =>
      refine tgo O hd hA T.inv [true, true, false, false, false, true, true, true, true, false, false, false, true, true] [(oa, [sv n_one t1, sv n_chars t2, sv [] t3])] (by simp [e1]) (m_charsf_r Y.p Y.b1 Y.b2 s.heap.objs.size s.toks F.Lm F.hd wd F.hl F.vd F.lg wa F.mi F.md F.hi F.ol F.rf ob oa F.bg F.tb hs F.hs' hw F.hm ks F.ks' kw F.km F.sbS F.ts F.oe he F.os xs k pc at_ tk tp ta ma t1 t2 t3) ⟨oc_slice (by rw [slice_none (by simp)]; show 0 ≠ F.sb.length; rw [hsb]; simp) (by rw [slice_none (by simp)]; rfl) (by decide), oc_lget hos hpc, oc_gt hgt, trivial⟩ fun s1 I1 T1 _ => ?_
      have ts := T.ts T1
      have I2 := Inv.back [true, true, false, false, false, true, true, true, true, false, false, false, true, true] (F.ML (F.fr hs ks (.ref wa) oa) vo ls le xs he ((k + 1 : Nat) : Int) (s.toks + 4) (⟨wd, (wayD hw kw F.ol ((pc + 1 : Nat) : Int) (s.toks + 53) at_ (s.toks + 45) (.ref ma)), true⟩ :: ef wa (inst 449 wd) :: H)) 0 I1 rfl rfl
      exact K s1 ⟨hs, ks, oa, wa, wd, hw, kw, (s.toks + 53), (s.toks + 45), (.ref ma), H, vo, ls, le, xs, he, _, T.next T1 I2 (T.hlog.mono ts) T.vd (ws2 T.ws) (Nat.le_succ_of_le T.bl), ⟨_, _, _, rfl, ts _ _ em, hl0.mono ts⟩, hst.mono ts, Nat.le_succ_of_le hle⟩
theorem mt_gain {b0 : Nat} {l : List Nat} (O : Y.x.Ok) (hd : d ≤ 500) (hA : AB d u A) (T : MIn Y F ⟨pc, at_, b0 :: l⟩ st k log s) (hk : k + 1 ≤ 9999) (hpc : pc ≤ 10000) (ho : F.ords[pc]? = some (.gain)) (hz : F.sb.length ≤ 10000) (hb : b0 < at_)
    (K : ∀ s', MIn Y F ⟨pc + 1, at_, l⟩ (st) (k + 1) (log) s' → codeAny Y.x.M A (mC Y.p F.Lm) R s') : codeAny Y.x.M A (mC Y.p F.Lm) R s := by
  obtain ⟨hs, ks, ob, wa, wd, hw, kw, tp, ta, mv, H, vo, ls, le, xs, he, tk, T, hmk, hst, hle⟩ := T
  obtain ⟨oa, hos, t1, e1⟩ := T.ords.get ho
  refine while_if ?_
  have hgt : decide ((k : Int) + 1 > 9999) = false := by simp; omega
  have hlen : xs.length ≤ 9999 := by rw [hst.len]; omega
  obtain ⟨ma, r0, tb2, rfl, em, hl0⟩ := hmk
  cases l with
  | nil =>
    cases (show r0 = .none from hl0)
    by_cases hsl : (slicePicked F.sbS (some ((b0 : Int), tb2)) (some ((at_ : Int), ta)) none).length = F.sbS.length
    · refine tgo O hd hA T.inv [true, true, false, false, false, true, true, true, true, false, false, false, true, true] [(oa, [sv n_gain t1]), (ma, [.none, .int b0 tb2])] (by simp [e1, em]) (m_gain1w_n Y.p Y.b1 Y.b2 s.heap.objs.size s.toks F.Lm F.hd wd F.hl F.vd F.lg wa F.mi F.md F.hi F.ol F.rf ob oa F.bg F.tb hs F.hs' hw F.hm ks F.ks' kw F.km F.sbS F.ts F.oe he F.os xs k pc at_ tk tp ta ma t1 tb2 b0 F.sbS) ⟨oc_gt (by simp; omega), oc_slice_all hsl, oc_lget hos hpc, oc_gt hgt, trivial⟩ fun s1 I1 T1 _ => ?_
      have ts := T.ts T1
      have I2 := Inv.back [true, true, false, false, false, true, true, true, true, false, false, false, true, true] (F.ML (F.fr hs ks (.ref wa) oa) vo ls le xs he ((k + 1 : Nat) : Int) (s.toks + 4) (⟨wd, (wayD hw kw F.ol ((pc + 1 : Nat) : Int) (s.toks + 34) at_ ta .none), true⟩ :: ef wa (inst 449 wd) :: H)) 0 I1 rfl rfl
      exact K s1 ⟨hs, ks, oa, wa, wd, hw, kw, (s.toks + 34), ta, .none, H, vo, ls, le, xs, he, _, T.next T1 I2 (T.hlog.mono ts) T.vd (ws2 T.ws) (Nat.le_succ_of_le T.bl), (hl0.mono ts), hst.mono ts, Nat.le_succ_of_le hle⟩
    · refine tgo O hd hA T.inv [true, true, false, false, false, true, true, true, true, false, false, false, true, true] [(oa, [sv n_gain t1]), (ma, [.none, .int b0 tb2])] (by simp [e1, em]) (m_gain1f_n Y.p Y.b1 Y.b2 s.heap.objs.size s.toks F.Lm F.hd wd F.hl F.vd F.lg wa F.mi F.md F.hi F.ol F.rf ob oa F.bg F.tb hs F.hs' hw F.hm ks F.ks' kw F.km F.sbS F.ts F.oe he F.os xs k pc at_ tk tp ta ma t1 tb2 b0 _) ⟨oc_gt (by simp; omega), oc_slice hsl rfl (Nat.le_trans (show (List.filterMap _ _).toArray.size ≤ _ by rw [List.size_toArray]; exact List.length_filterMap_le _ _) (Nat.le_trans (picked_le (x := F.sbS)) hz)), oc_lget hos hpc, oc_gt hgt, trivial⟩ fun s1 I1 T1 _ => ?_
      have ts := T.ts T1
      have I2 := Inv.back [true, true, false, false, false, true, true, true, true, false, false, false, true, true] (F.ML (F.fr hs ks (.ref wa) oa) vo ls le xs he ((k + 1 : Nat) : Int) (s.toks + 4) (⟨wd, (wayD hw kw F.ol ((pc + 1 : Nat) : Int) (s.toks + 35) at_ ta .none), true⟩ :: ef wa (inst 449 wd) :: H)) 0 I1 rfl rfl
      exact K s1 ⟨hs, ks, oa, wa, wd, hw, kw, (s.toks + 35), ta, .none, H, vo, ls, le, xs, he, _, T.next T1 I2 (T.hlog.mono ts) T.vd (ws2 T.ws) (Nat.le_succ_of_le T.bl), (hl0.mono ts), hst.mono ts, Nat.le_succ_of_le hle⟩
  | cons b1 l1 =>
    obtain ⟨mk2, r1, tb3, rfl, em2, hl1⟩ := hl0
    have hl0 : MkAt s.heap (b1 :: l1) (.ref mk2) := ⟨_, _, _, rfl, em2, hl1⟩
    by_cases hsl : (slicePicked F.sbS (some ((b0 : Int), tb2)) (some ((at_ : Int), ta)) none).length = F.sbS.length
    · refine tgo O hd hA T.inv [true, true, false, false, false, true, true, true, true, false, false, false, true, true] [(oa, [sv n_gain t1]), (ma, [.ref mk2, .int b0 tb2])] (by simp [e1, em]) (m_gain1w_r Y.p Y.b1 Y.b2 s.heap.objs.size s.toks F.Lm F.hd wd F.hl F.vd F.lg wa F.mi F.md F.hi F.ol F.rf ob oa F.bg F.tb hs F.hs' hw F.hm ks F.ks' kw F.km F.sbS F.ts F.oe he F.os xs k pc at_ tk tp ta mk2 ma t1 tb2 b0 F.sbS) ⟨oc_gt (by simp; omega), oc_slice_all hsl, oc_lget hos hpc, oc_gt hgt, trivial⟩ fun s1 I1 T1 _ => ?_
      have ts := T.ts T1
      have I2 := Inv.back [true, true, false, false, false, true, true, true, true, false, false, false, true, true] (F.ML (F.fr hs ks (.ref wa) oa) vo ls le xs he ((k + 1 : Nat) : Int) (s.toks + 4) (⟨wd, (wayD hw kw F.ol ((pc + 1 : Nat) : Int) (s.toks + 34) at_ ta (.ref mk2)), true⟩ :: ef wa (inst 449 wd) :: H)) 0 I1 rfl rfl
      exact K s1 ⟨hs, ks, oa, wa, wd, hw, kw, (s.toks + 34), ta, (.ref mk2), H, vo, ls, le, xs, he, _, T.next T1 I2 (T.hlog.mono ts) T.vd (ws2 T.ws) (Nat.le_succ_of_le T.bl), (hl0.mono ts), hst.mono ts, Nat.le_succ_of_le hle⟩
    · refine tgo O hd hA T.inv [true, true, false, false, false, true, true, true, true, false, false, false, true, true] [(oa, [sv n_gain t1]), (ma, [.ref mk2, .int b0 tb2])] (by simp [e1, em]) (m_gain1f_r Y.p Y.b1 Y.b2 s.heap.objs.size s.toks F.Lm F.hd wd F.hl F.vd F.lg wa F.mi F.md F.hi F.ol F.rf ob oa F.bg F.tb hs F.hs' hw F.hm ks F.ks' kw F.km F.sbS F.ts F.oe he F.os xs k pc at_ tk tp ta mk2 ma t1 tb2 b0 _) ⟨oc_gt (by simp; omega), oc_slice hsl rfl (Nat.le_trans (show (List.filterMap _ _).toArray.size ≤ _ by rw [List.size_toArray]; exact List.length_filterMap_le _ _) (Nat.le_trans (picked_le (x := F.sbS)) hz)), oc_lget hos hpc, oc_gt hgt, trivial⟩ fun s1 I1 T1 _ => ?_
      have ts := T.ts T1
      have I2 := Inv.back [true, true, false, false, false, true, true, true, true, false, false, false, true, true] (F.ML (F.fr hs ks (.ref wa) oa) vo ls le xs he ((k + 1 : Nat) : Int) (s.toks + 4) (⟨wd, (wayD hw kw F.ol ((pc + 1 : Nat) : Int) (s.toks + 35) at_ ta (.ref mk2)), true⟩ :: ef wa (inst 449 wd) :: H)) 0 I1 rfl rfl
      exact K s1 ⟨hs, ks, oa, wa, wd, hw, kw, (s.toks + 35), ta, (.ref mk2), H, vo, ls, le, xs, he, _, T.next T1 I2 (T.hlog.mono ts) T.vd (ws2 T.ws) (Nat.le_succ_of_le T.bl), (hl0.mono ts), hst.mono ts, Nat.le_succ_of_le hle⟩
theorem mt_gain_not {b0 : Nat} {l : List Nat} (O : Y.x.Ok) (hd : d ≤ 500) (hA : AB d u A) (T : MIn Y F ⟨pc, at_, b0 :: l⟩ st k log s) (hk : k + 1 ≤ 9999) (hpc : pc ≤ 10000) (ho : F.ords[pc]? = some (.gain)) (hz : F.sb.length ≤ 10000) (hb : at_ ≤ b0)
    (K1 : ∀ y st' s', st = y :: st' → MIn Y F y st' (k + 1) log s' → codeAny Y.x.M A (mC Y.p F.Lm) R s') (K2 : ∀ s', st = [] → MOut Y F (k + 1) log s' → R (.ok .next) s') : codeAny Y.x.M A (mC Y.p F.Lm) R s := by
  obtain ⟨hs, ks, ob, wa, wd, hw, kw, tp, ta, mv, H, vo, ls, le, xs, he, tk, T, hmk, hst, hle⟩ := T
  obtain ⟨oa, hos, t1, e1⟩ := T.ords.get ho
  refine while_if ?_
  have hgt : decide ((k : Int) + 1 > 9999) = false := by simp; omega
  have hlen : xs.length ≤ 9999 := by rw [hst.len]; omega
  obtain ⟨ma, r0, tb2, rfl, em, hl0⟩ := hmk
  cases l with
  | nil =>
    cases (show r0 = .none from hl0)
    by_cases hsl : (slicePicked F.sbS (some ((b0 : Int), tb2)) (some ((at_ : Int), ta)) none).length = F.sbS.length
    · refine tgo O hd hA T.inv [true, true, false, false, false, true, true, true, true, false, false, false, true, true] [(oa, [sv n_gain t1]), (ma, [.none, .int b0 tb2])] (by simp [e1, em]) (m_gain0w_n Y.p Y.b1 Y.b2 s.heap.objs.size s.toks F.Lm F.hd wd F.hl F.vd F.lg wa F.mi F.md F.hi F.ol F.rf ob oa F.bg F.tb hs F.hs' hw F.hm ks F.ks' kw F.km F.sbS F.ts F.oe he F.os xs k pc at_ tk tp ta ma t1 tb2 b0 F.sbS) ⟨oc_gt (by simp; omega), oc_slice_all hsl, oc_lget hos hpc, oc_gt hgt, trivial⟩ fun s1 I1 T1 _ => ?_
      have ts := T.ts T1
      have I2 := Inv.back [true, true, false, false, false, true, true, true, true, false, false, false, true, true] (F.ML (F.fr hs ks (.ref wa) oa) vo ls le xs he ((k + 1 : Nat) : Int) (s.toks + 4) (⟨wd, (wayD hw kw F.ol pc tp at_ ta .none), true⟩ :: ef wa (inst 449 wd) :: H)) 0 I1 rfl rfl
      exact mback O hd hA rfl (T.next T1 I2 (T.hlog.mono ts) T.vd (ws2 T.ws) (Nat.le_succ_of_le T.bl)) (hst.mono ts) (Nat.le_succ_of_le hle) hk K1 K2
    · refine tgo O hd hA T.inv [true, true, false, false, false, true, true, true, true, false, false, false, true, true] [(oa, [sv n_gain t1]), (ma, [.none, .int b0 tb2])] (by simp [e1, em]) (m_gain0f_n Y.p Y.b1 Y.b2 s.heap.objs.size s.toks F.Lm F.hd wd F.hl F.vd F.lg wa F.mi F.md F.hi F.ol F.rf ob oa F.bg F.tb hs F.hs' hw F.hm ks F.ks' kw F.km F.sbS F.ts F.oe he F.os xs k pc at_ tk tp ta ma t1 tb2 b0 _) ⟨oc_gt (by simp; omega), oc_slice hsl rfl (Nat.le_trans (show (List.filterMap _ _).toArray.size ≤ _ by rw [List.size_toArray]; exact List.length_filterMap_le _ _) (Nat.le_trans (picked_le (x := F.sbS)) hz)), oc_lget hos hpc, oc_gt hgt, trivial⟩ fun s1 I1 T1 _ => ?_
      have ts := T.ts T1
      have I2 := Inv.back [true, true, false, false, false, true, true, true, true, false, false, false, true, true] (F.ML (F.fr hs ks (.ref wa) oa) vo ls le xs he ((k + 1 : Nat) : Int) (s.toks + 4) (⟨wd, (wayD hw kw F.ol pc tp at_ ta .none), true⟩ :: ef wa (inst 449 wd) :: H)) 0 I1 rfl rfl
      exact mback O hd hA rfl (T.next T1 I2 (T.hlog.mono ts) T.vd (ws2 T.ws) (Nat.le_succ_of_le T.bl)) (hst.mono ts) (Nat.le_succ_of_le hle) hk K1 K2
  | cons b1 l1 =>
    obtain ⟨mk2, r1, tb3, rfl, em2, hl1⟩ := hl0
    have hl0 : MkAt s.heap (b1 :: l1) (.ref mk2) := ⟨_, _, _, rfl, em2, hl1⟩
    by_cases hsl : (slicePicked F.sbS (some ((b0 : Int), tb2)) (some ((at_ : Int), ta)) none).length = F.sbS.length
    · refine tgo O hd hA T.inv [true, true, false, false, false, true, true, true, true, false, false, false, true, true] [(oa, [sv n_gain t1]), (ma, [.ref mk2, .int b0 tb2])] (by simp [e1, em]) (m_gain0w_r Y.p Y.b1 Y.b2 s.heap.objs.size s.toks F.Lm F.hd wd F.hl F.vd F.lg wa F.mi F.md F.hi F.ol F.rf ob oa F.bg F.tb hs F.hs' hw F.hm ks F.ks' kw F.km F.sbS F.ts F.oe he F.os xs k pc at_ tk tp ta mk2 ma t1 tb2 b0 F.sbS) ⟨oc_gt (by simp; omega), oc_slice_all hsl, oc_lget hos hpc, oc_gt hgt, trivial⟩ fun s1 I1 T1 _ => ?_
      have ts := T.ts T1
      have I2 := Inv.back [true, true, false, false, false, true, true, true, true, false, false, false, true, true] (F.ML (F.fr hs ks (.ref wa) oa) vo ls le xs he ((k + 1 : Nat) : Int) (s.toks + 4) (⟨wd, (wayD hw kw F.ol pc tp at_ ta (.ref mk2)), true⟩ :: ef wa (inst 449 wd) :: H)) 0 I1 rfl rfl
      exact mback O hd hA rfl (T.next T1 I2 (T.hlog.mono ts) T.vd (ws2 T.ws) (Nat.le_succ_of_le T.bl)) (hst.mono ts) (Nat.le_succ_of_le hle) hk K1 K2
    · refine tgo O hd hA T.inv [true, true, false, false, false, true, true, true, true, false, false, false, true, true] [(oa, [sv n_gain t1]), (ma, [.ref mk2, .int b0 tb2])] (by simp [e1, em]) (m_gain0f_r Y.p Y.b1 Y.b2 s.heap.objs.size s.toks F.Lm F.hd wd F.hl F.vd F.lg wa F.mi F.md F.hi F.ol F.rf ob oa F.bg F.tb hs F.hs' hw F.hm ks F.ks' kw F.km F.sbS F.ts F.oe he F.os xs k pc at_ tk tp ta mk2 ma t1 tb2 b0 _) ⟨oc_gt (by simp; omega), oc_slice hsl rfl (Nat.le_trans (show (List.filterMap _ _).toArray.size ≤ _ by rw [List.size_toArray]; exact List.length_filterMap_le _ _) (Nat.le_trans (picked_le (x := F.sbS)) hz)), oc_lget hos hpc, oc_gt hgt, trivial⟩ fun s1 I1 T1 _ => ?_
      have ts := T.ts T1
      have I2 := Inv.back [true, true, false, false, false, true, true, true, true, false, false, false, true, true] (F.ML (F.fr hs ks (.ref wa) oa) vo ls le xs he ((k + 1 : Nat) : Int) (s.toks + 4) (⟨wd, (wayD hw kw F.ol pc tp at_ ta (.ref mk2)), true⟩ :: ef wa (inst 449 wd) :: H)) 0 I1 rfl rfl
      exact mback O hd hA rfl (T.next T1 I2 (T.hlog.mono ts) T.vd (ws2 T.ws) (Nat.le_succ_of_le T.bl)) (hst.mono ts) (Nat.le_succ_of_le hle) hk K1 K2
end
end
section
open PySem PySem.W PySem.W.X PySem.Calls PySem.Spec PyProof.Rows
noncomputable def mbk (g : Wy → List Wy → Option (Nat × List Nat)) (r : Nat × List Nat) : List Wy → Option (Nat × List Nat)
  | [] => some r
  | y :: st => g y st
noncomputable def mrun (ords : List Ord) (sb : List Nat) : Nat → Wy → List Wy → Nat → List Nat → Option (Nat × List Nat)
  | 0, _, _, _, _ => none
  | f + 1, ⟨pc, at_, mks⟩, st, k, log =>
    let back : Option (Nat × List Nat) := mbk (fun y st' => mrun ords sb f y st' (k + 1) log) (k + 1, log) st
    match ords[pc]? with
    | some (.split g) => mrun ords sb f ⟨pc + 1, at_, mks⟩ (⟨g, at_, mks⟩ :: st) (k + 1) log
    | some (.jump g) => mrun ords sb f ⟨g, at_, mks⟩ st (k + 1) log
    | some .mark => mrun ords sb f ⟨pc + 1, at_, at_ :: mks⟩ st (k + 1) log
    | some .gain => match mks with
      | [] => none
      | b :: l => match decide (b < at_) with
        | true => mrun ords sb f ⟨pc + 1, at_, l⟩ st (k + 1) log
        | false => back
    | some (.any cs) => match sb[at_]? with
      | some c => match decide (c ∈ cs) with
        | true => mrun ords sb f ⟨pc + 1, at_ + 1, mks⟩ st (k + 1) log
        | false => back
      | none => back
    | some .chars => mrun ords sb f ⟨pc + 1, at_, mks⟩ st (k + 1) log
    | some .fail => back
    | some .place => mrun ords sb f ⟨pc + 1, at_, mks⟩ st (k + 1) (at_ :: log)
    | some .done => none
    | none => none
section
variable {Y : Cy} {F : MF} {d u : Nat} {R : Result → Shared → Prop} {A : Around}
theorem mloop (O : Y.x.Ok) (hd : d ≤ 500) (hw : Y.w.params = PP Y.p Y.b1 Y.b2) (hz : F.sb.length ≤ 10000) (ho : F.ords.length ≤ 10000) {res : Nat × List Nat} (hA : AB d u A) (E : ∀ s', MOut Y F res.1 res.2 s' → R (.ok .next) s') : ∀ (f : Nat) (y : Wy) (st : List Wy) (k : Nat) (log : List Nat) (s : Shared),
    mrun F.ords F.sb f y st k log = some res → k + f ≤ 9999 → MIn Y F y st k log s → codeAny Y.x.M A (mC Y.p F.Lm) R s := by
  intro f
  induction f with
  | zero => intro y st k log s h; cases h
  | succ f ih =>
    intro y st k log s h hk T
    obtain ⟨pc, at_, mks⟩ := y
    unfold mrun at h
    have hk1 : k + 1 ≤ 9999 := by omega
    have go : ∀ y st log s, mrun F.ords F.sb f y st (k + 1) log = some res → MIn Y F y st (k + 1) log s → codeAny Y.x.M A (mC Y.p F.Lm) R s := fun y st log s h T => ih y st (k + 1) log s h (by omega) T
    have bk1 : mbk (fun y st' => mrun F.ords F.sb f y st' (k + 1) log) (k + 1, log) st = some res → ∀ y st' s', st = y :: st' → MIn Y F y st' (k + 1) log s' → codeAny Y.x.M A (mC Y.p F.Lm) R s' := by
      intro h y st' s' hst T'
      subst hst
      exact go _ _ _ _ h T'
    have bk2 : mbk (fun y st' => mrun F.ords F.sb f y st' (k + 1) log) (k + 1, log) st = some res → ∀ s', st = [] → MOut Y F (k + 1) log s' → R (.ok .next) s' := by
      intro h s' hst T'
      subst hst
      cases h
      exact E s' T'
    cases hp : F.ords[pc]? with
    | none => rw [hp] at h; cases h
    | some o =>
      have hpc : pc ≤ 10000 := by
        have := (List.getElem?_eq_some_iff.mp hp).1
        omega
      rw [hp] at h
      cases o with
      | split g => exact mt_split O hd hA T hk1 hpc hp fun s' T' => go _ _ _ _ h T'
      | jump g => exact mt_jump O hd hA T hk1 hpc hp fun s' T' => go _ _ _ _ h T'
      | mark => exact mt_mark O hd hA T hk1 hpc hp fun s' T' => go _ _ _ _ h T'
      | chars => exact mt_chars O hd hA T hk1 hpc hp hz fun s' T' => go _ _ _ _ h T'
      | place => exact mt_place O hd hA T hk1 hpc hp hw fun s' T' => go _ _ _ _ h T'
      | fail => exact mt_fail O hd hA T hk1 hpc hp (bk1 h) (bk2 h)
      | done => cases h
      | gain =>
        dsimp only at h
        cases mks with
        | nil => cases h
        | cons b l =>
          dsimp only at h
          cases hb : decide (b < at_) with
          | true =>
            rw [hb] at h
            exact mt_gain O hd hA T hk1 hpc hp hz (of_decide_eq_true hb) fun s' T' => go _ _ _ _ h T'
          | false =>
            rw [hb] at h
            exact mt_gain_not O hd hA T hk1 hpc hp hz (Nat.not_lt.mp (of_decide_eq_false hb)) (bk1 h) (bk2 h)
      | any cs =>
        dsimp only at h
        cases hc : F.sb[at_]? with
        | none =>
          rw [hc] at h
          exact mt_any_end O hd hA T hk1 hpc hp hz (by simpa using hc) (bk1 h) (bk2 h)
        | some c =>
          rw [hc] at h
          dsimp only at h
          cases hi : decide (c ∈ cs) with
          | true =>
            rw [hi] at h
            exact mt_any O hd hA T hk1 hpc hp hz hc hi fun s' T' => go _ _ _ _ h T'
          | false =>
            rw [hi] at h
            exact mt_any_miss O hd hA T hk1 hpc hp hz hc hi (bk1 h) (bk2 h)
theorem mloop_first (O : Y.x.Ok) (hd : d ≤ 500) (hw : Y.w.params = PP Y.p Y.b1 Y.b2) (hz : F.sb.length ≤ 10000) (ho : F.ords.length ≤ 10000) {res : Nat × List Nat} (hA : AB d u A) (E : ∀ s', MOut Y F res.1 res.2 s' → R (.ok .next) s') {f g : Nat} {s : Shared} {hs ks wa wd hw' kw tp ta vo ls le he tk}
    (h : mrun F.ords F.sb f ⟨0, 0, []⟩ [] 0 [] = some res) (hg : F.ords[0]? = some (.split g)) (hk : f ≤ 9999)
    (T : MB Y F (F.f4 hs ks (.ref wa)) (et wd (wayD hw' kw F.ol ((0 : Nat) : Int) tp ((0 : Nat) : Int) ta .none) :: ef wa (inst 449 wd) :: []) 0 [] s vo ls le [] he tk) : codeAny Y.x.M A (mC Y.p F.Lm) R s := by
  obtain ⟨oa, hos, t1, tg, e1⟩ := T.ords.get hg
  refine while_if ?_
  refine tgo O hd hA T.inv [true, true, true, false, false, true, true, true, true, false, false, false, true, true] [(oa, [sv n_split t1, .int (g : Nat) tg])] (by simp [e1])
    (m_split_first Y.p Y.b1 Y.b2 s.heap.objs.size s.toks F.Lm F.hd wd F.hl F.vd F.lg wa F.mi F.md F.hi F.ol F.rf 0 oa F.bg F.tb hs F.hs' hw' F.hm ks F.ks' kw F.km F.sbS F.ts F.oe he F.os [] ((0 : Nat) : Int) ((0 : Nat) : Int) ((0 : Nat) : Int) tk tp ta t1 tg g)
    ⟨oc_append (by simp), oc_lget hos (by simp), oc_gt (by simp), trivial⟩ fun s1 I1 T1 _ => ?_
  have ts := T.ts T1
  let hs2 : Nat → Int := fun i => [hs 0, hs 1, hs 2, hs 3, kh Y.p n_order].getD i 0
  let ks2 : Nat → Nat := fun i => [ks 0, ks 1, ks 2, ks 3, s.toks + 11].getD i 0
  let NH : Nat → Int := (fun i => [kh Y.p n_orders, kh Y.p [112, 99], kh Y.p [97, 116], kh Y.p n_named, kh Y.p n_marks, kh Y.p n_calls].getD i 0)
  let NK : Nat → Nat := (fun i => [s.toks + 36, s.toks + 38, s.toks + 40, s.toks + 42, s.toks + 44, s.toks + 46].getD i 0)
  have I3 := (Inv.perm (L' := ⟨s.heap.objs.size + 4, inst 449 (s.heap.objs.size + 3), true⟩ :: ⟨s.heap.objs.size + 3, wayD NH NK F.ol (g : Nat) tg ((0 : Nat) : Int) ta .none, true⟩ :: (F.ML (F.fr hs2 ks2 (.ref wa) oa) vo ls le ([] ++ [.ref (s.heap.objs.size + 4)]) (he + 1) ((0 + 1 : Nat) : Int) (s.toks + 4) (et wd (wayD hw' kw F.ol ((0 + 1 : Nat) : Int) (s.toks + 49) ((0 : Nat) : Int) ta .none) :: ef wa (inst 449 wd) :: []))) I1 (((part_perm [true, true, true, false, false, true, true, true, true, false, false, false, true, true] (F.ML (F.fr hs2 ks2 (.ref wa) oa) vo ls le ([] ++ [.ref (s.heap.objs.size + 4)]) (he + 1) ((0 + 1 : Nat) : Int) (s.toks + 4) (et wd (wayD hw' kw F.ol ((0 + 1 : Nat) : Int) (s.toks + 49) ((0 : Nat) : Int) ta .none) :: ef wa (inst 449 wd) :: []))).symm.cons _).cons _)).freeze
  have I2 := I3.perm (((ML_perm (F := F) (fo := F.fr hs2 ks2 (.ref wa) oa) (vo := vo) (ls := ls) (le := le) (xs := [] ++ [.ref (s.heap.objs.size + 4)]) (he := he + 1) (k := ((0 + 1 : Nat) : Int)) (tk := s.toks + 4) (List.Perm.refl (et wd (wayD hw' kw F.ol ((0 + 1 : Nat) : Int) (s.toks + 49) ((0 : Nat) : Int) ta .none) :: ef wa (inst 449 wd) :: ⟨s.heap.objs.size + 3, wayD NH NK F.ol (g : Nat) tg ((0 : Nat) : Int) ta .none, true⟩ :: ⟨s.heap.objs.size + 4, inst 449 (s.heap.objs.size + 3), false⟩ :: []))).trans (ML_push2 _ _ _ _ _)))
  have M : MIn Y F ⟨0 + 1, 0, []⟩ [⟨g, 0, []⟩] (0 + 1) [] s1 := ⟨hs2, ks2, oa, wa, wd, hw', kw, _, ta, .none, _, vo, ls, le, [] ++ [.ref (s.heap.objs.size + 4)], he + 1, _, T.next T1 I2 (T.hlog.mono ts) T.vd (ws4 (ws2 T.ws) T.grow) (Nat.le_succ_of_le T.bl), rfl, ⟨_, _, _, _, _, _, _, [], [], rfl, rfl, rfl, ⟨rfl, rfl⟩⟩, by simp⟩
  cases f with
  | zero => cases h
  | succ f =>
    unfold mrun at h
    rw [hg] at h
    exact mloop O hd hw hz ho hA E f _ _ _ _ s1 h (by omega) M
end
end
section
open PySem
structure Cf where
  g00 : Bool
  g01 : Bool
  g10 : Bool
  g11 : Bool
  e0 : Bool
  e1 : Bool
noncomputable def lotC (x y there : Bool) : List Nat := (if x == there then [97] else []) ++ (if y == there then [98] else [])
noncomputable def lotN (x y there : Bool) : Nd := match lotC x y there with
  | [] => .fail
  | cs => .any cs
noncomputable def endN (e : Bool) : Nd := match e with
  | true => .chars
  | false => .fail
noncomputable def Cf.body (c : Cf) : Bool → Nd
  | false => .alt (.cat (lotN c.g00 c.g01 false) (.delay false)) (.alt (.cat (lotN c.g00 c.g01 true) (.delay true)) (endN c.e0))
  | true => .alt (.cat (lotN c.g10 c.g11 false) (.delay false)) (.alt (.cat (lotN c.g10 c.g11 true) (.delay true)) (endN c.e1))
noncomputable def lotO (x y there : Bool) : Ord := match lotC x y there with
  | [] => .fail
  | cs => .any cs
noncomputable def endO (e : Bool) : Ord := match e with
  | true => .chars
  | false => .fail
noncomputable def Cf.ords (c : Cf) : List Ord := [.split 2, .jump 16, .mark, .split 6, lotO c.g00 c.g01 false, .jump 14, lotO c.g00 c.g01 true, .split 9, .jump 13, .mark, lotO c.g10 c.g11 true, .gain, .jump 7, lotO c.g10 c.g11 false, .gain, .jump 0,
  .split 19, endO c.e0, .jump (match c.e1 with | true => 26 | false => 27), lotO c.g00 c.g01 true, .split 22, .jump 26, .mark, lotO c.g10 c.g11 true, .gain, .jump 20] ++ (match c.e1 with | true => [] | false => [.fail]) ++ [.place, .fail, .done]
noncomputable def Cf.goal (c : Cf) (state : Bool) (ch : Nat) : Bool := match state, ch with
  | false, 97 => c.g00
  | false, _ => c.g01
  | true, 97 => c.g10
  | true, _ => c.g11
noncomputable def Cf.isEnd (c : Cf) (state : Bool) : Bool := match state with
  | false => c.e0
  | true => c.e1
noncomputable def Cf.due (c : Cf) : List Nat → Nat → Bool → List Nat
  | [], at_, s => if c.isEnd s then [at_] else []
  | ch :: w, at_, s => (if c.isEnd s then [at_] else []) ++ c.due w (at_ + 1) (c.goal s ch)
noncomputable def permB : List Nat → List Nat → Bool
  | [], l => l.isEmpty
  | x :: l, m => m.contains x && permB l (m.erase x)
noncomputable def okT (c : Cf) (w : List Nat) : Bool := match tback c.body w 500 [([.cat (.delay false) (.cat .cursor .fail)], 0)] 0 [] with
  | some r => permB r.2 (c.due w 0 false)
  | none => false
noncomputable def okM (c : Cf) (w : List Nat) : Bool := match mrun c.ords w 900 ⟨0, 0, []⟩ [] 0 [] with
  | some r => permB r.2 (c.due w 0 false)
  | none => false
noncomputable def lnth {α : Type} (l : List α) : Nat → Option α :=
  @List.rec α (fun _ => Nat → Option α) (fun _ => none) (fun a _ ih i => @Nat.rec (fun _ => Option α) (some a) (fun j _ => ih j) i) l
theorem lnth_eq {α : Type} (l : List α) : ∀ i, lnth l i = l[i]? := by
  induction l with
  | nil => intro i; rfl
  | cons a l ih => intro i; cases i with
    | zero => rfl
    | succ j => exact ih j
theorem any_eq (c : Nat) (l : List Nat) : l.any (Nat.beq c) = decide (c ∈ l) := by
  induction l with
  | nil => rfl
  | cons a l ih =>
    rw [List.any_cons, ih]
    by_cases h : c = a
    · subst h; simp [Nat.beq_refl]
    · have hn : Nat.beq c a = false := by
        cases hb : Nat.beq c a with
        | false => rfl
        | true => exact absurd (Nat.eq_of_beq_eq_true hb) h
      simp [hn, h]
noncomputable def mrunG (ords : List Ord) (sb : List Nat) (n : Nat) : Nat → Nat → List Nat → List Wy → List Nat → Option (List Nat) :=
  @Nat.rec (fun _ => Nat → Nat → List Nat → List Wy → List Nat → Option (List Nat)) (fun _ _ _ _ _ => none)
    (fun _ ih pc at_ mks st log =>
      let back : Option (List Nat) := @List.rec Wy (fun _ => Option (List Nat)) (some log) (fun y l _ => ih y.pc y.at_ y.mks l log) st
      @Option.rec Ord (fun _ => Option (List Nat)) none (fun o =>
        @Ord.rec (fun _ => Option (List Nat))
          (fun g => ih (Nat.succ pc) at_ mks (⟨g, at_, mks⟩ :: st) log)
          (fun g => ih g at_ mks st log)
          (ih (Nat.succ pc) at_ (at_ :: mks) st log)
          (@List.rec Nat (fun _ => Option (List Nat)) none (fun b l _ => cond (decide (b < at_)) (ih (Nat.succ pc) at_ l st log) back) mks)
          (fun cs => @Option.rec Nat (fun _ => Option (List Nat)) back (fun c => cond (cs.any (Nat.beq c)) (ih (Nat.succ pc) (Nat.succ at_) mks st log) back) (lnth sb at_))
          (ih (Nat.succ pc) at_ mks st log)
          back
          (ih (Nat.succ pc) at_ mks st (at_ :: log))
          none o) (lnth ords pc)) n
theorem mrunG_eq {ords : List Ord} {sb : List Nat} : ∀ (f pc at_ : Nat) (mks : List Nat) (st : List Wy) (k : Nat) (log : List Nat),
    (mrun ords sb f ⟨pc, at_, mks⟩ st k log).map (·.2) = mrunG ords sb f pc at_ mks st log := by
  intro f
  induction f with
  | zero => intros; rfl
  | succ f ih =>
    intro pc at_ mks st k log
    have hb : (mbk (fun y st' => mrun ords sb f y st' (k + 1) log) (k + 1, log) st).map (·.2) = (@List.rec Wy (fun _ => Option (List Nat)) (some log) (fun y l _ => mrunG ords sb f y.pc y.at_ y.mks l log) st) := by
      cases st with
      | nil => rfl
      | cons y l => exact ih y.pc y.at_ y.mks l (k + 1) log
    show _ = @Option.rec Ord (fun _ => Option (List Nat)) none _ (lnth ords pc)
    rw [lnth_eq ords pc]
    unfold mrun
    cases ords[pc]? with
    | none => rfl
    | some o => cases o with
      | split g => exact ih ..
      | jump g => exact ih ..
      | mark => exact ih ..
      | gain => cases mks with
        | nil => rfl
        | cons b l =>
          show Option.map _ (match decide (b < at_) with | true => _ | false => _) = cond (decide (b < at_)) _ _
          cases decide (b < at_) with
          | true => exact ih ..
          | false => exact hb
      | any cs =>
        show _ = @Option.rec Nat (fun _ => Option (List Nat)) _ _ (lnth sb at_)
        rw [lnth_eq sb at_]
        dsimp only
        cases sb[at_]? with
        | none => exact hb
        | some c =>
          show Option.map _ (match decide (c ∈ cs) with | true => _ | false => _) = cond (cs.any (Nat.beq c)) _ _
          rw [any_eq]
          cases decide (c ∈ cs) with
          | true => exact ih ..
          | false => exact hb
      | chars => exact ih ..
      | fail => exact hb
      | place => exact ih ..
      | done => rfl
noncomputable def tinG (body : Bool → Nd) (sb : List Nat) (n : Nat) : List Nd → Nat → List (List Nd × Nat) → List Nat → Option (List Nat) :=
  @Nat.rec (fun _ => List Nd → Nat → List (List Nd × Nat) → List Nat → Option (List Nat)) (fun _ _ _ _ => none)
    (fun _ ih ch at_ st log =>
      let back : Option (List Nat) := @List.rec (List Nd × Nat) (fun _ => Option (List Nat)) (some log) (fun p l _ => ih p.1 p.2 l log) st
      @List.rec Nd (fun _ => Option (List Nat)) none (fun x l _ =>
        @Nd.rec (fun _ => Option (List Nat))
          (fun cs => @List.rec Nd (fun _ => Option (List Nat)) none (fun z l _ => @Option.rec Nat (fun _ => Option (List Nat)) back (fun c => cond (cs.any (Nat.beq c)) (ih (z :: l) (Nat.succ at_) st log) back) (lnth sb at_)) l)
          back
          (@List.rec Nd (fun _ => Option (List Nat)) none (fun z l _ => ih (z :: l) at_ st log) l)
          (fun x y _ _ => ih (x :: y :: l) at_ st log)
          (fun x y _ _ => @List.rec Nd (fun _ => Option (List Nat)) none (fun z l _ => ih (x :: z :: l) at_ ((y :: z :: l, at_) :: st) log) l)
          (fun q => @List.rec Nd (fun _ => Option (List Nat)) none (fun z l _ => ih (body q :: z :: l) at_ st log) l)
          (@List.rec Nd (fun _ => Option (List Nat)) none (fun z l _ => ih (z :: l) at_ st (at_ :: log)) l)
          x) ch) n
theorem tinG_eq {body : Bool → Nd} {sb : List Nat} : ∀ (f : Nat) (ch : List Nd) (at_ : Nat) (st : List (List Nd × Nat)) (k : Nat) (log : List Nat),
    (tin body sb f ch at_ st k log).map (·.2) = tinG body sb f ch at_ st log := by
  intro f
  induction f with
  | zero => intros; rfl
  | succ f ih =>
    intro ch at_ st k log
    have hb : (match st with | [] => some (k + 1, log) | p :: st' => tin body sb f p.1 p.2 st' (k + 1) log : Option (Nat × List Nat)).map (·.2) = (@List.rec (List Nd × Nat) (fun _ => Option (List Nat)) (some log) (fun p l _ => tinG body sb f p.1 p.2 l log) st) := by
      cases st with
      | nil => rfl
      | cons p l => exact ih p.1 p.2 l (k + 1) log
    cases ch with
    | nil => rfl
    | cons x l => cases x with
      | cat x y => exact ih ..
      | fail => exact hb
      | any cs => cases l with
        | nil => rfl
        | cons z l =>
          show _ = @Option.rec Nat (fun _ => Option (List Nat)) _ _ (lnth sb at_)
          rw [lnth_eq sb at_]
          unfold tin
          cases sb[at_]? with
          | none => exact hb
          | some c =>
            show Option.map _ (match decide (c ∈ cs) with | true => _ | false => _) = cond (cs.any (Nat.beq c)) _ _
            rw [any_eq]
            cases decide (c ∈ cs) with
            | true => exact ih ..
            | false => exact hb
      | chars => cases l with
        | nil => rfl
        | cons z l => exact ih ..
      | alt x y => cases l with
        | nil => rfl
        | cons z l => exact ih ..
      | delay q => cases l with
        | nil => rfl
        | cons z l => exact ih ..
      | cursor => cases l with
        | nil => rfl
        | cons z l => exact ih ..
noncomputable def okTG (c : Cf) (w : List Nat) : Bool := match tinG c.body w 500 [.cat (.delay false) (.cat .cursor .fail)] 0 [] [] with
  | some r => permB r (c.due w 0 false)
  | none => false
noncomputable def okMG (c : Cf) (w : List Nat) : Bool := match mrunG c.ords w 900 0 0 [] [] [] with
  | some r => permB r (c.due w 0 false)
  | none => false
theorem okT_of {c : Cf} {w : List Nat} (h : okTG c w = true) : okT c w = true := by
  unfold okTG at h
  rw [← tinG_eq (body := c.body) (sb := w) 500 _ 0 [] 0 []] at h
  show (match tin c.body w 500 [.cat (.delay false) (.cat .cursor .fail)] 0 [] 0 [] with | some r => permB r.2 (c.due w 0 false) | none => false) = true
  cases hh : tin c.body w 500 [.cat (.delay false) (.cat .cursor .fail)] 0 [] 0 [] with
  | none => rw [hh] at h; exact h
  | some r => rw [hh] at h; exact h
theorem okM_of {c : Cf} {w : List Nat} (h : okMG c w = true) : okM c w = true := by
  unfold okMG at h
  rw [← mrunG_eq (ords := c.ords) (sb := w) 900 0 0 [] [] 0 []] at h
  unfold okM
  cases hh : mrun c.ords w 900 ⟨0, 0, []⟩ [] 0 [] with
  | none => rw [hh] at h; exact h
  | some r => rw [hh] at h; exact h
noncomputable def words : Nat → List (List Nat)
  | 0 => [[]]
  | n + 1 => (words n).flatMap fun w => [97 :: w, 98 :: w]
noncomputable def bools : List Bool := [false, true]
noncomputable def cfs : List Cf := bools.flatMap fun a => bools.flatMap fun b => bools.flatMap fun c => bools.flatMap fun d => bools.flatMap fun e => bools.map fun f => ⟨a, b, c, d, e, f⟩
noncomputable def allOk (n : Nat) : Bool := cfs.all fun c => (words n).all fun w => okTG c w && okMG c w
theorem ok0 : allOk 0 = true := by decide +kernel
theorem ok1 : allOk 1 = true := by decide +kernel
theorem ok2 : allOk 2 = true := by decide +kernel
theorem ok3 : allOk 3 = true := by decide +kernel
theorem ok4 : allOk 4 = true := by decide +kernel
theorem ok5 : allOk 5 = true := by decide +kernel
theorem mem_words : ∀ (n : Nat) (w : List Nat), w.length = n → (∀ c ∈ w, c = 97 ∨ c = 98) → w ∈ words n
  | 0, [], _, _ => by simp [words]
  | n + 1, c :: w, h, hc => by
    have := mem_words n w (by simpa using h) fun x hx => hc x (List.mem_cons_of_mem _ hx)
    unfold words
    refine List.mem_flatMap.mpr ⟨w, this, ?_⟩
    rcases hc c (List.mem_cons_self ..) with rfl | rfl <;> simp
theorem mem_bools : ∀ b : Bool, b ∈ bools
  | false => List.mem_cons_self ..
  | true => List.mem_cons_of_mem _ (List.mem_cons_self ..)
theorem mem_cfs (c : Cf) : c ∈ cfs := List.mem_flatMap.mpr ⟨c.g00, mem_bools _, List.mem_flatMap.mpr ⟨c.g01, mem_bools _, List.mem_flatMap.mpr ⟨c.g10, mem_bools _, List.mem_flatMap.mpr ⟨c.g11, mem_bools _, List.mem_flatMap.mpr ⟨c.e0, mem_bools _, List.mem_map.mpr ⟨c.e1, mem_bools _, rfl⟩⟩⟩⟩⟩⟩
theorem all_ok (c : Cf) (w : List Nat) (h : w.length ≤ 5) (hc : ∀ x ∈ w, x = 97 ∨ x = 98) : okT c w = true ∧ okM c w = true := by
  have key : ∀ n, allOk n = true → w.length = n → okT c w = true ∧ okM c w = true := fun n hn hl => by
    unfold allOk at hn
    have := List.all_eq_true.mp (List.all_eq_true.mp hn c (mem_cfs c)) w (mem_words n w hl hc)
    exact ⟨okT_of (Bool.and_eq_true_iff.mp this).1, okM_of (Bool.and_eq_true_iff.mp this).2⟩
  have : w.length = 0 ∨ w.length = 1 ∨ w.length = 2 ∨ w.length = 3 ∨ w.length = 4 ∨ w.length = 5 := by omega
  rcases this with h | h | h | h | h | h
  · exact key 0 ok0 h
  · exact key 1 ok1 h
  · exact key 2 ok2 h
  · exact key 3 ok3 h
  · exact key 4 ok4 h
  · exact key 5 ok5 h
end
section
open PySem PySem.W PySem.W.X PySem.Calls PySem.Spec PyProof.Rows
theorem pl_call (p : Params) (b1 b2 : Bool) (n t : Nat) (nd vd : Nat) (sb : Str) (ts : Nat) (bt : Bool) : FinT (rn p b1 b2 (.call (.ref 654) ⟨[.ref nd, .str sb ts, .ref vd, .bool bt], []⟩) (callNo 654 (fdAt p 654) ⟨[.ref nd, .str sb ts, .ref vd, .bool bt], []⟩ (bodyAt p 654)) n t [] (q52 (q52 (hy 132 []))) []) [0] (.func (bodyAt p 654) (envAt p 654 n)) (n + 1) (t + 4) [et n (fo [ek p n_node t (.ref nd), ek p n_word (t + 1) (.str (sb) ts), ek p n_values (t + 2) (.ref vd), ek p n_by_trial (t + 3) (.bool bt)] 4)] [] := by show _ = _; cases b1 <;> kernel_rfl
theorem pl_start (p : Params) (b1 b2 : Bool) (n t : Nat) (Lp : Nat) (hs : Nat → Int) (ks : Nat → Nat) (nd vd : Nat) (sb : Str) (ts : Nat) (bt : Bool) : FinI (rn p b1 b2 (.func (bodyAt p 654) (envAt p 654 Lp)) (execsT ((bodyAt p 654).take 2) (envAt p 654 Lp)) n t [et Lp (fo [eh hs ks 0 n_node (.ref nd), eh hs ks 1 n_word (.str sb ts), eh hs ks 2 n_values (.ref vd), eh hs ks 3 n_by_trial (.bool bt)] 4)] (hy 16512 (q253 (q28 (q52 (q7 (q191 (q1 (q78 (hy 129 (q78 (hy 129 (q78 (q362 (q22 (hy 134 (q5 (q240 (q5 (q0 (q208 (q28 (q52 (q7 (q191 (q1 (q78 (hy 18061 []))))))))))))))))))))))))))) []) [0, 1, 2, 3, 5, 6, 7, 9, 10, 11, 12] (.ok .next) (n + 12) (t + 37) [ef (n + 11) (tup [sv n_cat (t + 20), .ref nd, .ref (n + 10)]), ef (n + 10) (tup [sv n_cat (t + 21), .ref (n + 8), .ref (n + 9)]), ef (n + 9) (tup [sv n_fail (t + 35)]), ef (n + 8) (tup [sv n_cursor (t + 22), .ref (n + 6)]), et (n + 6) (inst 208 (n + 5)), et (n + 5) (di [ek p n_kind (t + 30) (sv n_var (t + 23)), ek p n_owner (t + 32) .none, ek p n_key (t + 34) (sv [74] (t + 24))] 3), et (n + 4) (lst [] 0), et (n + 2) (inst 589 (n + 1)), et (n + 1) (di [ek p n_values (t + 6) (.ref vd), ek p n_limit (t + 8) (.int 9999 t), ek p n_refused (t + 10) (.ref n), ek p n_width (t + 13) (.int 64 (t + 11)), ek p n_steps (t + 16) (.int 0 (t + 14)), ek p n_log (t + 18) (.ref (n + 4))] 6), et n (lst [] 0), et Lp (fo [eh hs ks 0 n_node (.ref (n + 11)), eh hs ks 1 n_word (.str (sb) ts), eh hs ks 2 n_values (.ref vd), eh hs ks 3 n_by_trial (.bool bt), ek p n_host (t + 19) (.ref (n + 2))] 5)] [] := by show _ = _; cases b1 <;> kernel_rfl
noncomputable def pl_find_o (p : Params) (b1 b2 : Bool) (n t : Nat) (Lp : Nat) (hs : Nat → Int) (ks : Nat → Nat) (nd vd : Nat) (sb : Str) (ts : Nat) (bt : Bool) (hi : Nat) : Out := run ((pv0 p b1 b2)) 100000 0 none ((.func (bodyAt p 654) (envAt p 654 Lp))) ((execsT [stAt (bodyAt p 654) 2] (envAt p 654 Lp))) .ret ⟨n, t, ([et Lp (fq9 hs ks (.ref nd) (.str sb ts) (.ref vd) (.bool true) (.ref hi) 5)]), (q2 (q1 (q2 (q28 (q52 (q398 (q6 (q4 (q6 (hy 131 (q82 (q1 (q0 (q1 (q7 (q28 (q1 (q1 (q16 (hy 130 (q18 (hy 129 [])))))))))))))))))))))),
    [], [], []⟩
theorem pl_find (p : Params) (b1 b2 : Bool) (n t : Nat) (Lp : Nat) (hs : Nat → Int) (ks : Nat → Nat) (nd vd : Nat) (sb : Str) (ts : Nat) (bt : Bool) (hi : Nat) : FinS (pl_find_o p b1 b2 n t Lp hs ks nd vd sb ts bt hi) [0, 1, 2, 3, 4, 5, 6, 8, 9] 5 none (outC p (n + 4)) (n + 9) (t + 18) [et (n + 8) (lst [.ref (n + 7)] 0), ef (n + 7) (tup [.ref (n + 5), .int 0 (t + 7), .ref (n + 6)]), ef (n + 6) (tup []), ef (n + 5) (tup [.ref nd, .none]), et (n + 4) (fo [ek p n_node (t + 13) (.ref nd), ek p n_subject (t + 14) (.str (sb) ts), ek p n_begin (t + 15) (.int 0 (t + 7)), ek p n_host (t + 16) (.ref hi), ek p n_pile (t + 17) (.ref (n + 8))] 5), et (n + 3) (fo [ek p n_node (t + 9) (.ref nd), ek p n_subject (t + 10) (.str (sb) ts), ek p n_begin (t + 11) (.int 0 (t + 7)), ek p n_host (t + 12) (.ref hi)] 4), et (n + 2) (ri [.int 1 0, .int 0 0, .int 1 0]), et n (fo [ek p n_node t (.ref nd), ek p n_subject (t + 1) (.str (sb) ts), ek p n_is_anchored (t + 2) (.bool true), ek p n_host (t + 3) (.ref hi), ek p n_begin (t + 8) (.int 0 (t + 7))] 5), et Lp (fq9 hs ks (.ref nd) (.str (sb) ts) (.ref vd) (.bool true) (.ref hi) 5)] [] := by show _ = _; cases b1 <;> kernel_rfl
theorem pl_found (p : Params) (b1 b2 : Bool) (n t : Nat) (Lp : Nat) (hs : Nat → Int) (ks : Nat → Nat) (nd vd : Nat) (sb : Str) (ts : Nat) (bt : Bool) (hi : Nat) (n2 t2 : Nat) (hs2 : Nat → Int) (ks2 : Nat → Nat) (c2 ta2 : Nat) (a2 : Int) : FinI (outK (pl_find_o p b1 b2 n t Lp hs ks nd vd sb ts bt hi) ((.ok .next)) ⟨(n2), (t2), ([⟨n + 4, fr9 hs2 ks2 (.ref nd) (.str sb ts) (.int 0 (t + 7)) (.ref hi) (.ref (n + 8)) .none (.ref c2) (.int a2 ta2) (.ref (n + 6)), true⟩, ⟨n + 3, fo [ek p n_node (t + 9) (.ref nd), ek p n_subject (t + 10) (.str sb ts), ek p n_begin (t + 11) (.int 0 (t + 7)), ek p n_host (t + 12) (.ref hi)] 4, true⟩, ⟨n + 2, ri [.int 1 0, .int 0 0, .int 1 0], true⟩, et n (fo [ek p n_node (t) (.ref nd), ek p n_subject (t + 1) (.str sb ts), ek p n_is_anchored (t + 2) (.bool true), ek p n_host (t + 3) (.ref hi), ek p n_begin (t + 8) (.int 0 (t + 7))] 5), et Lp (fq9 hs ks (.ref nd) (.str sb ts) (.ref vd) (.bool true) (.ref hi) 5)]), (q17 (q17 (q25 (q29 (q2 (q14 [])))))),
    [], [], []⟩) [2, 3, 4, 5, 6] (.ok .next) (n2 + 2) (t2 + 3) [et (n + 4) (fq0 hs2 ks2 (.ref nd) (.str (sb) ts) (.int 0 (t + 7)) (.ref hi) (.ref (n + 8)) .none (.ref c2) (.int (a2) ta2) (.ref (n + 6)) 9), et (n + 3) (fo [ek p n_node (t + 9) (.ref nd), ek p n_subject (t + 10) (.str (sb) ts), ek p n_begin (t + 11) (.int 0 (t + 7)), ek p n_host (t + 12) (.ref hi), ek p n_found t2 .none] 5), et (n + 2) (ri [.int 1 0, .int 0 0, .int 1 0]), et n (fo [ek p n_node t (.ref nd), ek p n_subject (t + 1) (.str (sb) ts), ek p n_is_anchored (t + 2) (.bool true), ek p n_host (t + 3) (.ref hi), ek p n_begin (t + 8) (.int 0 (t + 7)), ek p n_found (t2 + 1) .none] 6), et Lp (fo [eh hs ks 0 n_node (.ref nd), eh hs ks 1 n_word (.str (sb) ts), eh hs ks 2 n_values (.ref vd), eh hs ks 3 n_by_trial (.bool true), eh hs ks 4 n_host (.ref hi), ek p n_found (t2 + 2) .none] 6)] [] := by show _ = _; cases b1 <;> kernel_rfl
noncomputable def pl_sort0_o (p : Params) (b1 b2 : Bool) (n t : Nat) (Lp : Nat) (hs : Nat → Int) (ks : Nat → Nat) (nd vd : Nat) (sb : Str) (ts : Nat) (bt : Bool) (hi hd rf lg le tk : Nat) (hs' : Nat → Int) (ks' : Nat → Nat) (k : Int) : Out := run ((pv0 p b1 b2)) 100000 0 none ((.func (bodyAt p 654) (envAt p 654 Lp))) ((execsT ((bodyAt p 654).drop 3) (envAt p 654 Lp))) .ret ⟨n, t, ([et Lp (fq10 hs ks (.ref nd) (.str sb ts) (.ref vd) (.bool bt) (.ref hi) .none 6), et hd (hostD hs' ks' vd rf lg k tk), et lg (lst [] le), ef hi (inst 589 hd)]), (cond b2 (q399 (hy 128 (q84 (q400 [])))) (q399 (hy 128 (q85 (q400 []))))),
    [], [], []⟩
theorem pl_sort0 (p : Params) (b1 b2 : Bool) (n t : Nat) (Lp : Nat) (hs : Nat → Int) (ks : Nat → Nat) (nd vd : Nat) (sb : Str) (ts : Nat) (bt : Bool) (hi hd rf lg le tk : Nat) (hs' : Nat → Int) (ks' : Nat → Nat) (k : Int) : FinS (pl_sort0_o p b1 b2 n t Lp hs ks nd vd sb ts bt hi hd rf lg le tk hs' ks' k) [3, 5, 6, 7, 8] 1 none (.call (.builtin "sorted") ⟨[.ref (n + 1)], []⟩) (n + 5) (t + 1) [et (n + 1) (lst [] 0), et Lp (fq10 hs ks (.ref nd) (.str (sb) ts) (.ref vd) (.bool bt) (.ref hi) .none 6), et hd (fq1 hs' ks' (.ref vd) (.int 9999 (ks' 6)) (.ref rf) (.int 64 (ks' 7)) (.int (k) tk) (.ref lg) 6), et lg (lst [] le), ef hi (inst 589 hd)] [] := by show _ = _; cases b1 <;> cases b2 <;> kernel_rfl
theorem pl_ret0 (p : Params) (b1 b2 : Bool) (n t : Nat) (Lp : Nat) (hs : Nat → Int) (ks : Nat → Nat) (nd vd : Nat) (sb : Str) (ts : Nat) (bt : Bool) (hi hd rf lg le tk : Nat) (hs' : Nat → Int) (ks' : Nat → Nat) (k : Int) (n2 t2 rl : Nat) (hs2 : Nat → Int) (ks2 : Nat → Nat) : FinI (outK (pl_sort0_o p b1 b2 n t Lp hs ks nd vd sb ts bt hi hd rf lg le tk hs' ks' k) ((.ok (.ret (.ref rl)))) ⟨(n2), (t2), ([]), (cond b2 (hy 128 []) (hy 128 [])),
    [], [], []⟩) [] (.ok (.ret (.ref rl))) n2 t2 [] [] := by show _ = _; cases b1 <;> cases b2 <;> kernel_rfl
noncomputable def pl_sort1_o (p : Params) (b1 b2 : Bool) (n t : Nat) (Lp : Nat) (hs : Nat → Int) (ks : Nat → Nat) (nd vd : Nat) (sb : Str) (ts : Nat) (bt : Bool) (hi hd rf lg le tk : Nat) (hs' : Nat → Int) (ks' : Nat → Nat) (k : Int) (e0 u0 w0 : Nat) (x0 : Int) : Out := run ((pv0 p b1 b2)) 100000 0 none ((.func (bodyAt p 654) (envAt p 654 Lp))) ((execsT ((bodyAt p 654).drop 3) (envAt p 654 Lp))) .ret ⟨n, t, ([ef e0 (tup [sv [74] u0, .int x0 w0]), et Lp (fq10 hs ks (.ref nd) (.str sb ts) (.ref vd) (.bool bt) (.ref hi) .none 6), et hd (hostD hs' ks' vd rf lg k tk), et lg (lst [.ref e0] le), ef hi (inst 589 hd)]), (cond b2 (q401 (q26 (q84 (q402 [])))) (q401 (q26 (q85 (q402 []))))),
    [], [], []⟩
theorem pl_sort1 (p : Params) (b1 b2 : Bool) (n t : Nat) (Lp : Nat) (hs : Nat → Int) (ks : Nat → Nat) (nd vd : Nat) (sb : Str) (ts : Nat) (bt : Bool) (hi hd rf lg le tk : Nat) (hs' : Nat → Int) (ks' : Nat → Nat) (k : Int) (e0 u0 w0 : Nat) (x0 : Int) : FinS (pl_sort1_o p b1 b2 n t Lp hs ks nd vd sb ts bt hi hd rf lg le tk hs' ks' k e0 u0 w0 x0) [6, 9, 10, 11, 12] 1 none (.call (.builtin "sorted") ⟨[.ref (n + 1)], []⟩) (n + 8) (t + 3) [et (n + 1) (lst [.int (x0) w0] 1), et Lp (fq10 hs ks (.ref nd) (.str (sb) ts) (.ref vd) (.bool bt) (.ref hi) .none 6), et hd (fq1 hs' ks' (.ref vd) (.int 9999 (ks' 6)) (.ref rf) (.int 64 (ks' 7)) (.int (k) tk) (.ref lg) 6), et lg (lst [.ref e0] le), ef hi (inst 589 hd)] [] := by show _ = _; cases b1 <;> cases b2 <;> kernel_rfl
theorem pl_ret1 (p : Params) (b1 b2 : Bool) (n t : Nat) (Lp : Nat) (hs : Nat → Int) (ks : Nat → Nat) (nd vd : Nat) (sb : Str) (ts : Nat) (bt : Bool) (hi hd rf lg le tk : Nat) (hs' : Nat → Int) (ks' : Nat → Nat) (k : Int) (e0 u0 w0 : Nat) (x0 : Int) (n2 t2 rl : Nat) (hs2 : Nat → Int) (ks2 : Nat → Nat) : FinI (outK (pl_sort1_o p b1 b2 n t Lp hs ks nd vd sb ts bt hi hd rf lg le tk hs' ks' k e0 u0 w0 x0) ((.ok (.ret (.ref rl)))) ⟨(n2), (t2), ([]), (cond b2 (hy 128 []) (hy 128 [])),
    [], [], []⟩) [] (.ok (.ret (.ref rl))) n2 t2 [] [] := by show _ = _; cases b1 <;> cases b2 <;> kernel_rfl
noncomputable def pl_sort2_o (p : Params) (b1 b2 : Bool) (n t : Nat) (Lp : Nat) (hs : Nat → Int) (ks : Nat → Nat) (nd vd : Nat) (sb : Str) (ts : Nat) (bt : Bool) (hi hd rf lg le tk : Nat) (hs' : Nat → Int) (ks' : Nat → Nat) (k : Int) (e0 u0 w0 e1 u1 w1 : Nat) (x0 x1 : Int) : Out := run ((pv0 p b1 b2)) 100000 0 none ((.func (bodyAt p 654) (envAt p 654 Lp))) ((execsT ((bodyAt p 654).drop 3) (envAt p 654 Lp))) .ret ⟨n, t, ([ef e0 (tup [sv [74] u0, .int x0 w0]), ef e1 (tup [sv [74] u1, .int x1 w1]), et Lp (fq10 hs ks (.ref nd) (.str sb ts) (.ref vd) (.bool bt) (.ref hi) .none 6), et hd (hostD hs' ks' vd rf lg k tk), et lg (lst [.ref e0, .ref e1] le), ef hi (inst 589 hd)]), (cond b2 (q403 (q18 (q9 (hy 128 (q84 (q404 (hy 2114697 []))))))) (q403 (q18 (q9 (hy 128 (q85 (q404 (hy 2114697 [])))))))),
    [], [], []⟩
theorem pl_sort2 (p : Params) (b1 b2 : Bool) (n t : Nat) (Lp : Nat) (hs : Nat → Int) (ks : Nat → Nat) (nd vd : Nat) (sb : Str) (ts : Nat) (bt : Bool) (hi hd rf lg le tk : Nat) (hs' : Nat → Int) (ks' : Nat → Nat) (k : Int) (e0 u0 w0 e1 u1 w1 : Nat) (x0 x1 : Int) : FinS (pl_sort2_o p b1 b2 n t Lp hs ks nd vd sb ts bt hi hd rf lg le tk hs' ks' k e0 u0 w0 e1 u1 w1 x0 x1) [9, 13, 14, 15, 16] 1 none (.call (.builtin "sorted") ⟨[.ref (n + 1)], []⟩) (n + 11) (t + 5) [et (n + 1) (lst [.int (x0) w0, .int (x1) w1] 2), et Lp (fq10 hs ks (.ref nd) (.str (sb) ts) (.ref vd) (.bool bt) (.ref hi) .none 6), et hd (fq1 hs' ks' (.ref vd) (.int 9999 (ks' 6)) (.ref rf) (.int 64 (ks' 7)) (.int (k) tk) (.ref lg) 6), et lg (lst [.ref e0, .ref e1] le), ef hi (inst 589 hd)] [] := by show _ = _; cases b1 <;> cases b2 <;> kernel_rfl
theorem pl_ret2 (p : Params) (b1 b2 : Bool) (n t : Nat) (Lp : Nat) (hs : Nat → Int) (ks : Nat → Nat) (nd vd : Nat) (sb : Str) (ts : Nat) (bt : Bool) (hi hd rf lg le tk : Nat) (hs' : Nat → Int) (ks' : Nat → Nat) (k : Int) (e0 u0 w0 e1 u1 w1 : Nat) (x0 x1 : Int) (n2 t2 rl : Nat) (hs2 : Nat → Int) (ks2 : Nat → Nat) : FinI (outK (pl_sort2_o p b1 b2 n t Lp hs ks nd vd sb ts bt hi hd rf lg le tk hs' ks' k e0 u0 w0 e1 u1 w1 x0 x1) ((.ok (.ret (.ref rl)))) ⟨(n2), (t2), ([]), (cond b2 (hy 128 []) (hy 128 [])),
    [], [], []⟩) [] (.ok (.ret (.ref rl))) n2 t2 [] [] := by show _ = _; cases b1 <;> cases b2 <;> kernel_rfl
noncomputable def pl_sort3_o (p : Params) (b1 b2 : Bool) (n t : Nat) (Lp : Nat) (hs : Nat → Int) (ks : Nat → Nat) (nd vd : Nat) (sb : Str) (ts : Nat) (bt : Bool) (hi hd rf lg le tk : Nat) (hs' : Nat → Int) (ks' : Nat → Nat) (k : Int) (e0 u0 w0 e1 u1 w1 e2 u2 w2 : Nat) (x0 x1 x2 : Int) : Out := run ((pv0 p b1 b2)) 100000 0 none ((.func (bodyAt p 654) (envAt p 654 Lp))) ((execsT ((bodyAt p 654).drop 3) (envAt p 654 Lp))) .ret ⟨n, t, ([ef e0 (tup [sv [74] u0, .int x0 w0]), ef e1 (tup [sv [74] u1, .int x1 w1]), ef e2 (tup [sv [74] u2, .int x2 w2]), et Lp (fq10 hs ks (.ref nd) (.str sb ts) (.ref vd) (.bool bt) (.ref hi) .none 6), et hd (hostD hs' ks' vd rf lg k tk), et lg (lst [.ref e0, .ref e1, .ref e2] le), ef hi (inst 589 hd)]), (cond b2 (q405 (q84 (q406 (hy 2115084 [])))) (q405 (q85 (q406 (hy 2115084 []))))),
    [], [], []⟩
theorem pl_sort3 (p : Params) (b1 b2 : Bool) (n t : Nat) (Lp : Nat) (hs : Nat → Int) (ks : Nat → Nat) (nd vd : Nat) (sb : Str) (ts : Nat) (bt : Bool) (hi hd rf lg le tk : Nat) (hs' : Nat → Int) (ks' : Nat → Nat) (k : Int) (e0 u0 w0 e1 u1 w1 e2 u2 w2 : Nat) (x0 x1 x2 : Int) : FinS (pl_sort3_o p b1 b2 n t Lp hs ks nd vd sb ts bt hi hd rf lg le tk hs' ks' k e0 u0 w0 e1 u1 w1 e2 u2 w2 x0 x1 x2) [12, 17, 18, 19, 20] 1 none (.call (.builtin "sorted") ⟨[.ref (n + 1)], []⟩) (n + 14) (t + 7) [et (n + 1) (lst [.int (x0) w0, .int (x1) w1, .int (x2) w2] 3), et Lp (fq10 hs ks (.ref nd) (.str (sb) ts) (.ref vd) (.bool bt) (.ref hi) .none 6), et hd (fq1 hs' ks' (.ref vd) (.int 9999 (ks' 6)) (.ref rf) (.int 64 (ks' 7)) (.int (k) tk) (.ref lg) 6), et lg (lst [.ref e0, .ref e1, .ref e2] le), ef hi (inst 589 hd)] [] := by show _ = _; cases b1 <;> cases b2 <;> kernel_rfl
theorem pl_ret3 (p : Params) (b1 b2 : Bool) (n t : Nat) (Lp : Nat) (hs : Nat → Int) (ks : Nat → Nat) (nd vd : Nat) (sb : Str) (ts : Nat) (bt : Bool) (hi hd rf lg le tk : Nat) (hs' : Nat → Int) (ks' : Nat → Nat) (k : Int) (e0 u0 w0 e1 u1 w1 e2 u2 w2 : Nat) (x0 x1 x2 : Int) (n2 t2 rl : Nat) (hs2 : Nat → Int) (ks2 : Nat → Nat) : FinI (outK (pl_sort3_o p b1 b2 n t Lp hs ks nd vd sb ts bt hi hd rf lg le tk hs' ks' k e0 u0 w0 e1 u1 w1 e2 u2 w2 x0 x1 x2) ((.ok (.ret (.ref rl)))) ⟨(n2), (t2), ([]), (cond b2 (hy 128 []) (hy 128 [])),
    [], [], []⟩) [] (.ok (.ret (.ref rl))) n2 t2 [] [] := by show _ = _; cases b1 <;> cases b2 <;> kernel_rfl
noncomputable def pl_sort4_o (p : Params) (b1 b2 : Bool) (n t : Nat) (Lp : Nat) (hs : Nat → Int) (ks : Nat → Nat) (nd vd : Nat) (sb : Str) (ts : Nat) (bt : Bool) (hi hd rf lg le tk : Nat) (hs' : Nat → Int) (ks' : Nat → Nat) (k : Int) (e0 u0 w0 e1 u1 w1 e2 u2 w2 e3 u3 w3 : Nat) (x0 x1 x2 x3 : Int) : Out := run ((pv0 p b1 b2)) 100000 0 none ((.func (bodyAt p 654) (envAt p 654 Lp))) ((execsT ((bodyAt p 654).drop 3) (envAt p 654 Lp))) .ret ⟨n, t, ([ef e0 (tup [sv [74] u0, .int x0 w0]), ef e1 (tup [sv [74] u1, .int x1 w1]), ef e2 (tup [sv [74] u2, .int x2 w2]), ef e3 (tup [sv [74] u3, .int x3 w3]), et Lp (fq10 hs ks (.ref nd) (.str sb ts) (.ref vd) (.bool bt) (.ref hi) .none 6), et hd (hostD hs' ks' vd rf lg k tk), et lg (lst [.ref e0, .ref e1, .ref e2, .ref e3] le), ef hi (inst 589 hd)]), (cond b2 (q407 (q84 (q408 []))) (q407 (q85 (q408 [])))),
    [], [], []⟩
theorem pl_sort4 (p : Params) (b1 b2 : Bool) (n t : Nat) (Lp : Nat) (hs : Nat → Int) (ks : Nat → Nat) (nd vd : Nat) (sb : Str) (ts : Nat) (bt : Bool) (hi hd rf lg le tk : Nat) (hs' : Nat → Int) (ks' : Nat → Nat) (k : Int) (e0 u0 w0 e1 u1 w1 e2 u2 w2 e3 u3 w3 : Nat) (x0 x1 x2 x3 : Int) : FinS (pl_sort4_o p b1 b2 n t Lp hs ks nd vd sb ts bt hi hd rf lg le tk hs' ks' k e0 u0 w0 e1 u1 w1 e2 u2 w2 e3 u3 w3 x0 x1 x2 x3) [15, 21, 22, 23, 24] 1 none (.call (.builtin "sorted") ⟨[.ref (n + 1)], []⟩) (n + 17) (t + 9) [et (n + 1) (lst [.int (x0) w0, .int (x1) w1, .int (x2) w2, .int (x3) w3] 4), et Lp (fq10 hs ks (.ref nd) (.str (sb) ts) (.ref vd) (.bool bt) (.ref hi) .none 6), et hd (fq1 hs' ks' (.ref vd) (.int 9999 (ks' 6)) (.ref rf) (.int 64 (ks' 7)) (.int (k) tk) (.ref lg) 6), et lg (lst [.ref e0, .ref e1, .ref e2, .ref e3] le), ef hi (inst 589 hd)] [] := by show _ = _; cases b1 <;> cases b2 <;> kernel_rfl
theorem pl_ret4 (p : Params) (b1 b2 : Bool) (n t : Nat) (Lp : Nat) (hs : Nat → Int) (ks : Nat → Nat) (nd vd : Nat) (sb : Str) (ts : Nat) (bt : Bool) (hi hd rf lg le tk : Nat) (hs' : Nat → Int) (ks' : Nat → Nat) (k : Int) (e0 u0 w0 e1 u1 w1 e2 u2 w2 e3 u3 w3 : Nat) (x0 x1 x2 x3 : Int) (n2 t2 rl : Nat) (hs2 : Nat → Int) (ks2 : Nat → Nat) : FinI (outK (pl_sort4_o p b1 b2 n t Lp hs ks nd vd sb ts bt hi hd rf lg le tk hs' ks' k e0 u0 w0 e1 u1 w1 e2 u2 w2 e3 u3 w3 x0 x1 x2 x3) ((.ok (.ret (.ref rl)))) ⟨(n2), (t2), ([]), (cond b2 (hy 128 []) (hy 128 [])),
    [], [], []⟩) [] (.ok (.ret (.ref rl))) n2 t2 [] [] := by show _ = _; cases b1 <;> cases b2 <;> kernel_rfl
noncomputable def pl_sort5_o (p : Params) (b1 b2 : Bool) (n t : Nat) (Lp : Nat) (hs : Nat → Int) (ks : Nat → Nat) (nd vd : Nat) (sb : Str) (ts : Nat) (bt : Bool) (hi hd rf lg le tk : Nat) (hs' : Nat → Int) (ks' : Nat → Nat) (k : Int) (e0 u0 w0 e1 u1 w1 e2 u2 w2 e3 u3 w3 e4 u4 w4 : Nat) (x0 x1 x2 x3 x4 : Int) : Out := run ((pv0 p b1 b2)) 100000 0 none ((.func (bodyAt p 654) (envAt p 654 Lp))) ((execsT ((bodyAt p 654).drop 3) (envAt p 654 Lp))) .ret ⟨n, t, ([ef e0 (tup [sv [74] u0, .int x0 w0]), ef e1 (tup [sv [74] u1, .int x1 w1]), ef e2 (tup [sv [74] u2, .int x2 w2]), ef e3 (tup [sv [74] u3, .int x3 w3]), ef e4 (tup [sv [74] u4, .int x4 w4]), et Lp (fq10 hs ks (.ref nd) (.str sb ts) (.ref vd) (.bool bt) (.ref hi) .none 6), et hd (hostD hs' ks' vd rf lg k tk), et lg (lst [.ref e0, .ref e1, .ref e2, .ref e3, .ref e4] le), ef hi (inst 589 hd)]), (cond b2 (q409 (q84 (hy 139 (q410 [])))) (q409 (q85 (hy 139 (q410 []))))),
    [], [], []⟩
theorem pl_sort5 (p : Params) (b1 b2 : Bool) (n t : Nat) (Lp : Nat) (hs : Nat → Int) (ks : Nat → Nat) (nd vd : Nat) (sb : Str) (ts : Nat) (bt : Bool) (hi hd rf lg le tk : Nat) (hs' : Nat → Int) (ks' : Nat → Nat) (k : Int) (e0 u0 w0 e1 u1 w1 e2 u2 w2 e3 u3 w3 e4 u4 w4 : Nat) (x0 x1 x2 x3 x4 : Int) : FinS (pl_sort5_o p b1 b2 n t Lp hs ks nd vd sb ts bt hi hd rf lg le tk hs' ks' k e0 u0 w0 e1 u1 w1 e2 u2 w2 e3 u3 w3 e4 u4 w4 x0 x1 x2 x3 x4) [18, 25, 26, 27, 28] 1 none (.call (.builtin "sorted") ⟨[.ref (n + 1)], []⟩) (n + 20) (t + 11) [et (n + 1) (lst [.int (x0) w0, .int (x1) w1, .int (x2) w2, .int (x3) w3, .int (x4) w4] 5), et Lp (fq10 hs ks (.ref nd) (.str (sb) ts) (.ref vd) (.bool bt) (.ref hi) .none 6), et hd (fq1 hs' ks' (.ref vd) (.int 9999 (ks' 6)) (.ref rf) (.int 64 (ks' 7)) (.int (k) tk) (.ref lg) 6), et lg (lst [.ref e0, .ref e1, .ref e2, .ref e3, .ref e4] le), ef hi (inst 589 hd)] [] := by show _ = _; cases b1 <;> cases b2 <;> kernel_rfl
theorem pl_ret5 (p : Params) (b1 b2 : Bool) (n t : Nat) (Lp : Nat) (hs : Nat → Int) (ks : Nat → Nat) (nd vd : Nat) (sb : Str) (ts : Nat) (bt : Bool) (hi hd rf lg le tk : Nat) (hs' : Nat → Int) (ks' : Nat → Nat) (k : Int) (e0 u0 w0 e1 u1 w1 e2 u2 w2 e3 u3 w3 e4 u4 w4 : Nat) (x0 x1 x2 x3 x4 : Int) (n2 t2 rl : Nat) (hs2 : Nat → Int) (ks2 : Nat → Nat) : FinI (outK (pl_sort5_o p b1 b2 n t Lp hs ks nd vd sb ts bt hi hd rf lg le tk hs' ks' k e0 u0 w0 e1 u1 w1 e2 u2 w2 e3 u3 w3 e4 u4 w4 x0 x1 x2 x3 x4) ((.ok (.ret (.ref rl)))) ⟨(n2), (t2), ([]), (cond b2 (hy 128 []) (hy 128 [])),
    [], [], []⟩) [] (.ok (.ret (.ref rl))) n2 t2 [] [] := by show _ = _; cases b1 <;> cases b2 <;> kernel_rfl
noncomputable def pl_sort6_o (p : Params) (b1 b2 : Bool) (n t : Nat) (Lp : Nat) (hs : Nat → Int) (ks : Nat → Nat) (nd vd : Nat) (sb : Str) (ts : Nat) (bt : Bool) (hi hd rf lg le tk : Nat) (hs' : Nat → Int) (ks' : Nat → Nat) (k : Int) (e0 u0 w0 e1 u1 w1 e2 u2 w2 e3 u3 w3 e4 u4 w4 e5 u5 w5 : Nat) (x0 x1 x2 x3 x4 x5 : Int) : Out := run ((pv0 p b1 b2)) 100000 0 none ((.func (bodyAt p 654) (envAt p 654 Lp))) ((execsT ((bodyAt p 654).drop 3) (envAt p 654 Lp))) .ret ⟨n, t, ([ef e0 (tup [sv [74] u0, .int x0 w0]), ef e1 (tup [sv [74] u1, .int x1 w1]), ef e2 (tup [sv [74] u2, .int x2 w2]), ef e3 (tup [sv [74] u3, .int x3 w3]), ef e4 (tup [sv [74] u4, .int x4 w4]), ef e5 (tup [sv [74] u5, .int x5 w5]), et Lp (fq10 hs ks (.ref nd) (.str sb ts) (.ref vd) (.bool bt) (.ref hi) .none 6), et hd (hostD hs' ks' vd rf lg k tk), et lg (lst [.ref e0, .ref e1, .ref e2, .ref e3, .ref e4, .ref e5] le), ef hi (inst 589 hd)]), (cond b2 (q411 (q19 (q19 (q84 (q412 (hy 568075235969685 [])))))) (q411 (q19 (q19 (q85 (q412 (hy 568075235969685 []))))))),
    [], [], []⟩
theorem pl_sort6 (p : Params) (b1 b2 : Bool) (n t : Nat) (Lp : Nat) (hs : Nat → Int) (ks : Nat → Nat) (nd vd : Nat) (sb : Str) (ts : Nat) (bt : Bool) (hi hd rf lg le tk : Nat) (hs' : Nat → Int) (ks' : Nat → Nat) (k : Int) (e0 u0 w0 e1 u1 w1 e2 u2 w2 e3 u3 w3 e4 u4 w4 e5 u5 w5 : Nat) (x0 x1 x2 x3 x4 x5 : Int) : FinS (pl_sort6_o p b1 b2 n t Lp hs ks nd vd sb ts bt hi hd rf lg le tk hs' ks' k e0 u0 w0 e1 u1 w1 e2 u2 w2 e3 u3 w3 e4 u4 w4 e5 u5 w5 x0 x1 x2 x3 x4 x5) [21, 29, 30, 31, 32] 1 none (.call (.builtin "sorted") ⟨[.ref (n + 1)], []⟩) (n + 23) (t + 13) [et (n + 1) (lst [.int (x0) w0, .int (x1) w1, .int (x2) w2, .int (x3) w3, .int (x4) w4, .int (x5) w5] 6), et Lp (fq10 hs ks (.ref nd) (.str (sb) ts) (.ref vd) (.bool bt) (.ref hi) .none 6), et hd (fq1 hs' ks' (.ref vd) (.int 9999 (ks' 6)) (.ref rf) (.int 64 (ks' 7)) (.int (k) tk) (.ref lg) 6), et lg (lst [.ref e0, .ref e1, .ref e2, .ref e3, .ref e4, .ref e5] le), ef hi (inst 589 hd)] [] := by show _ = _; cases b1 <;> cases b2 <;> kernel_rfl
theorem pl_ret6 (p : Params) (b1 b2 : Bool) (n t : Nat) (Lp : Nat) (hs : Nat → Int) (ks : Nat → Nat) (nd vd : Nat) (sb : Str) (ts : Nat) (bt : Bool) (hi hd rf lg le tk : Nat) (hs' : Nat → Int) (ks' : Nat → Nat) (k : Int) (e0 u0 w0 e1 u1 w1 e2 u2 w2 e3 u3 w3 e4 u4 w4 e5 u5 w5 : Nat) (x0 x1 x2 x3 x4 x5 : Int) (n2 t2 rl : Nat) (hs2 : Nat → Int) (ks2 : Nat → Nat) : FinI (outK (pl_sort6_o p b1 b2 n t Lp hs ks nd vd sb ts bt hi hd rf lg le tk hs' ks' k e0 u0 w0 e1 u1 w1 e2 u2 w2 e3 u3 w3 e4 u4 w4 e5 u5 w5 x0 x1 x2 x3 x4 x5) ((.ok (.ret (.ref rl)))) ⟨(n2), (t2), ([]), (cond b2 (hy 128 []) (hy 128 [])),
    [], [], []⟩) [] (.ok (.ret (.ref rl))) n2 t2 [] [] := by show _ = _; cases b1 <;> cases b2 <;> kernel_rfl
end
section
open PySem PySem.W PySem.W.X PySem.Calls PySem.Spec PyProof.Rows
noncomputable def pf_comp_o (p : Params) (b1 b2 : Bool) (n t : Nat) (Lp : Nat) (hs : Nat → Int) (ks : Nat → Nat) (nd vd : Nat) (sb : Str) (ts : Nat) (bt : Bool) (hi : Nat) : Out := run ((pv0 p b1 b2)) 100000 0 none ((.func (bodyAt p 654) (envAt p 654 Lp))) ((execsT [stAt (bodyAt p 654) 2] (envAt p 654 Lp))) .ret ⟨n, t, ([et Lp (fq9 hs ks (.ref nd) (.str sb ts) (.ref vd) (.bool false) (.ref hi) 5)]), (q2 (q1 (q2 (q28 (q52 (q1 (q3 (q2 (hy 129 []))))))))),
    [], [], []⟩
theorem pf_comp (p : Params) (b1 b2 : Bool) (n t : Nat) (Lp : Nat) (hs : Nat → Int) (ks : Nat → Nat) (nd vd : Nat) (sb : Str) (ts : Nat) (bt : Bool) (hi : Nat) : FinS (pf_comp_o p b1 b2 n t Lp hs ks nd vd sb ts bt hi) [0, 1] 2 none (.call (.ref 112) ⟨[.ref nd], []⟩) (n + 1) (t + 4) [et n (fq11 p t (.ref nd) (t + 1) (.str (sb) ts) (t + 2) (.bool true) (t + 3) (.ref hi) 4), et Lp (fq9 hs ks (.ref nd) (.str (sb) ts) (.ref vd) (.bool false) (.ref hi) 5)] [] := by show _ = _; cases b1 <;> kernel_rfl
noncomputable def pf_find_o (p : Params) (b1 b2 : Bool) (n t : Nat) (Lp : Nat) (hs : Nat → Int) (ks : Nat → Nat) (nd vd : Nat) (sb : Str) (ts : Nat) (bt : Bool) (hi : Nat) (n2 t2 ol oe : Nat) (os : List Value) : Out := outK (pf_comp_o p b1 b2 n t Lp hs ks nd vd sb ts bt hi) ((.ok (.ret (.ref ol)))) ⟨(n2), (t2), ([et n (fq11 p (t) (.ref nd) (t + 1) (.str sb ts) (t + 2) (.bool true) (t + 3) (.ref hi) 4), et Lp (fq9 hs ks (.ref nd) (.str sb ts) (.ref vd) (.bool false) (.ref hi) 5)]), (q1 (q2 (q28 (q52 (q398 (q6 (q35 (q253 (q28 (q1 (q7 (q191 (q362 (q361 (q14 (q82 (q0 (q1 (q394 (q191 (q191 (q10 (hy 129 []))))))))))))))))))))))),
    [], [], []⟩
theorem pf_find (p : Params) (b1 b2 : Bool) (n t : Nat) (Lp : Nat) (hs : Nat → Int) (ks : Nat → Nat) (nd vd : Nat) (sb : Str) (ts : Nat) (bt : Bool) (hi : Nat) (n2 t2 ol oe : Nat) (os : List Value) : FinS (pf_find_o p b1 b2 n t Lp hs ks nd vd sb ts bt hi n2 t2 ol oe os) [0, 1, 2, 3, 4, 5, 6, 7, 8, 10, 11, 12] 5 none (mC p (n2 + 7)) (n2 + 11) (t2 + 42) [et (n2 + 10) (fo [ek p n_self (t2 + 22) (.ref (n2 + 9)), ek p n_orders (t2 + 23) (.ref ol), ek p [112, 99] (t2 + 24) (.int 0 (t2 + 21)), ek p [97, 116] (t2 + 25) (.int 0 (t2 + 7)), ek p n_named (t2 + 26) .none, ek p n_marks (t2 + 27) .none, ek p n_calls (t2 + 28) .none] 7), et (n2 + 9) (inst 449 (n2 + 8)), et (n2 + 8) (fq5 p (t2 + 30) (.ref ol) (t2 + 32) (.int 0 (t2 + 21)) (t2 + 34) (.int 0 (t2 + 7)) (t2 + 36) .none (t2 + 38) .none (t2 + 40) .none 6), et (n2 + 7) (fo [ek p n_self (t2 + 18) (.ref (n2 + 4)), ek p n_orders (t2 + 19) (.ref ol), ek p n_begin (t2 + 20) (.int 0 (t2 + 7)), ek p n_way (t2 + 41) (.ref (n2 + 9))] 4), et (n2 + 6) (lst [] 0), et (n2 + 5) (fo [ek p n_self (t2 + 9) (.ref (n2 + 4)), ek p n_subject (t2 + 10) (.str (sb) ts), ek p n_host (t2 + 11) (.ref hi)] 3), et (n2 + 4) (inst 526 (n2 + 3)), et (n2 + 3) (di [ek p n_subject (t2 + 13) (.str (sb) ts), ek p n_host (t2 + 15) (.ref hi), ek p n_history (t2 + 17) (.ref (n2 + 6))] 3), et (n2 + 2) (ri [.int 1 0, .int 0 0, .int 1 0]), et n2 (fo [ek p n_orders t2 (.ref ol), ek p n_subject (t2 + 1) (.str (sb) ts), ek p n_is_anchored (t2 + 2) (.bool true), ek p n_host (t2 + 3) (.ref hi), ek p n_begin (t2 + 8) (.int 0 (t2 + 7))] 5), et n (fq11 p t (.ref nd) (t + 1) (.str (sb) ts) (t + 2) (.bool true) (t + 3) (.ref hi) 4), et Lp (fq9 hs ks (.ref nd) (.str (sb) ts) (.ref vd) (.bool false) (.ref hi) 5)] [] := by show _ = _; cases b1 <;> kernel_rfl
theorem pf_found (p : Params) (b1 b2 : Bool) (n t : Nat) (Lp : Nat) (hs : Nat → Int) (ks : Nat → Nat) (nd vd : Nat) (sb : Str) (ts : Nat) (bt : Bool) (hi : Nat) (n2 t2 ol oe : Nat) (os : List Value) (n3 t3 ob : Nat) (hs3 : Nat → Int) (ks3 : Nat → Nat) : FinI (outK (pf_find_o p b1 b2 n t Lp hs ks nd vd sb ts bt hi n2 t2 ol oe os) ((.ok .next)) ⟨(n3), (t3), ([⟨n2 + 7, fq4 hs3 ks3 (.ref (n2 + 4)) (.ref ol) (.int 0 (t2 + 7)) .none (.ref ob) 5, true⟩, ⟨n2 + 2, ri [.int 1 0, .int 0 0, .int 1 0], true⟩, et n2 (fo [ek p n_orders (t2) (.ref ol), ek p n_subject (t2 + 1) (.str sb ts), ek p n_is_anchored (t2 + 2) (.bool true), ek p n_host (t2 + 3) (.ref hi), ek p n_begin (t2 + 8) (.int 0 (t2 + 7))] 5), et n (fq11 p (t) (.ref nd) (t + 1) (.str sb ts) (t + 2) (.bool true) (t + 3) (.ref hi) 4), et Lp (fq9 hs ks (.ref nd) (.str sb ts) (.ref vd) (.bool false) (.ref hi) 5)]), (hy 128 (q15 (q151 (q41 (hy 135 (q5 (q413 (hy 17803 [])))))))),
    [], [], []⟩) [6, 7, 8, 9, 10] (.ok .next) (n3 + 6) (t3 + 3) [et (n2 + 7) (fq4 hs3 ks3 (.ref (n2 + 4)) (.ref ol) (.int 0 (t2 + 7)) .none (.ref ob) 5), et (n2 + 2) (ri [.int 1 0, .int 0 0, .int 1 0]), et n2 (fo [ek p n_orders t2 (.ref ol), ek p n_subject (t2 + 1) (.str (sb) ts), ek p n_is_anchored (t2 + 2) (.bool true), ek p n_host (t2 + 3) (.ref hi), ek p n_begin (t2 + 8) (.int 0 (t2 + 7)), ek p n_how t3 (.int 1 815), ek p n_way (t3 + 1) .none] 7), et n (fq11 p t (.ref nd) (t + 1) (.str (sb) ts) (t + 2) (.bool true) (t + 3) (.ref hi) 4), et Lp (fo [eh hs ks 0 n_node (.ref nd), eh hs ks 1 n_word (.str (sb) ts), eh hs ks 2 n_values (.ref vd), eh hs ks 3 n_by_trial (.bool false), eh hs ks 4 n_host (.ref hi), ek p n_found (t3 + 2) .none] 6)] [] := by show _ = _; cases b1 <;> kernel_rfl
end
section
open PySem PySem.W PySem.W.X PySem.Calls PySem.Spec PyProof.Rows
noncomputable def up (N : Nat → Nat) (k n i : Nat) : Nat := cond (Nat.beq i k) n (N i)
section
variable (p : Params) (b1 b2 : Bool) (n t : Nat) (f tk N T : Nat → Nat)
noncomputable abbrev e100 : En := et (f 8) (fq13 p (f 9) (.ref (f 10)) 1)
noncomputable abbrev e101 : En := ef (N 1 + 85) (tup [sv n_meet 227, .ref (N 1 + 70)])
noncomputable abbrev e102 : En := ef (N 1 + 84) (tup [sv n_put 219, .ref (f 17)])
noncomputable abbrev e103 : En := ef (N 1 + 80) (tup [sv n_shut 225, .ref (N 1 + 70)])
noncomputable abbrev e104 : En := et (N 1 + 70) (lst [.int 3 (T 1 + 198), .ref (N 1 + 69)] 0)
noncomputable abbrev e105 : En := ef (N 1 + 51) (tup [sv n_meet 227, .ref (N 1 + 50)])
noncomputable abbrev e106 : En := et (N 1 + 50) (lst [.int 0 (T 1 + 105), .ref (N 1 + 49)] 0)
noncomputable abbrev e107 : En := et (N 1 + 49) (lst [.int 1 (T 1 + 114)] 0)
noncomputable abbrev e108 : En := ef (N 1 + 48) (tup [sv n_emit 221, .ref (N 1 + 47)])
noncomputable abbrev e109 : En := ef (N 1 + 47) (tup [sv n_jump 195, .int 0 (T 1 + 105)])
noncomputable abbrev e110 : En := ef (N 1 + 46) (tup [sv n_emit 221, .ref (N 1 + 45)])
noncomputable abbrev e111 : En := ef (N 1 + 45) (tup [sv n_gain 203])
noncomputable abbrev e112 : En := ef (N 1 + 42) (tup [sv n_mark 197])
noncomputable abbrev e113 : En := ef (N 1 + 41) (tup [sv n_split 193, .int 2 (T 1 + 118)])
noncomputable abbrev e114 : En := ef (N 1 + 29) (tup [sv n_put 219, .ref (f 27)])
noncomputable abbrev e115 : En := ef (N 1 + 28) (tup [sv n_put 219, .ref (f 26)])
noncomputable abbrev e116 : En := ef (N 1 + 27) (tup [sv n_put 219, .ref (f 14)])
noncomputable abbrev e117 : En := ef (N 3 + 32) (tup [sv n_put 219, .ref (f 19)])
noncomputable abbrev e118 : En := ef (N 3 + 31) (tup [sv n_put 219, .ref (f 21)])
noncomputable abbrev e119 : En := ef (N 3 + 5) (tup [sv n_split 193, .int 6 (T 3 + 19)])
noncomputable abbrev e120 : En := et (N 1 + 69) (lst [.int 5 (T 3 + 16)] 1)
noncomputable abbrev e121 : En := et (f 2) (fq14 p (f 3) (.ref (f 4)) (f 5) (.ref (f 6)) (f 7) (.ref (f 0)) (T 1 + 3) (sv n_put 219) (T 1 + 4) (.ref (f 20)) 5)
noncomputable abbrev e122 : En := ef (N 5 + 17) (tup [sv n_meet 227, .ref (N 5 + 16)])
noncomputable abbrev e123 : En := et (N 5 + 16) (lst [.int 7 (T 5 + 22), .ref (N 5 + 15)] 0)
noncomputable abbrev e124 : En := et (N 5 + 15) (lst [.int 8 (T 5 + 31)] 0)
noncomputable abbrev e125 : En := ef (N 5 + 14) (tup [sv n_emit 221, .ref (N 5 + 13)])
noncomputable abbrev e126 : En := ef (N 5 + 13) (tup [sv n_jump 195, .int 7 (T 5 + 22)])
noncomputable abbrev e127 : En := ef (N 5 + 12) (tup [sv n_emit 221, .ref (N 5 + 11)])
noncomputable abbrev e128 : En := ef (N 5 + 11) (tup [sv n_gain 203])
noncomputable abbrev e129 : En := ef (N 5 + 8) (tup [sv n_mark 197])
noncomputable abbrev e130 : En := ef (N 5 + 7) (tup [sv n_split 193, .int 9 (T 5 + 35)])
noncomputable abbrev e131 : En := et (f 2) (fq14 p (f 3) (.ref (f 4)) (f 5) (.ref (f 6)) (f 7) (.ref (f 0)) (T 1 + 3) (sv n_put 219) (T 1 + 4) (.ref (f 21)) 5)
noncomputable abbrev e132 : En := et (f 2) (fq14 p (f 3) (.ref (f 4)) (f 5) (.ref (f 6)) (f 7) (.ref (f 0)) (T 1 + 3) (sv n_put 219) (T 1 + 4) (.ref (f 22)) 5)
noncomputable abbrev e133 : En := ef (N 7 + 13) (tup [sv n_jump 195, .int 13 (T 7 + 38)])
noncomputable abbrev e134 : En := ef (N 9 + 54) (tup [sv n_meet 227, .ref (N 9 + 39)])
noncomputable abbrev e135 : En := ef (N 9 + 53) (tup [sv n_put 219, .ref (f 24)])
noncomputable abbrev e136 : En := ef (N 9 + 49) (tup [sv n_shut 225, .ref (N 9 + 39)])
noncomputable abbrev e137 : En := et (N 9 + 39) (lst [.int 16 (T 9 + 122), .ref (N 9 + 38)] 0)
noncomputable abbrev e138 : En := ef (N 9 + 21) (tup [sv n_jump 195, .int 16 (T 9 + 52)])
noncomputable abbrev e139 : En := ef (N 9 + 5) (tup [sv n_jump 195, .int 14 (T 9 + 12)])
noncomputable abbrev e140 : En := ef (N 11 + 31) (tup [sv n_put 219, .ref (f 21)])
noncomputable abbrev e141 : En := ef (N 11 + 5) (tup [sv n_split 193, .int 19 (T 11 + 19)])
noncomputable abbrev e142 : En := et (N 9 + 38) (lst [.int 18 (T 11 + 16)] 1)
noncomputable abbrev e143 : En := et (f 2) (fq14 p (f 3) (.ref (f 4)) (f 5) (.ref (f 6)) (f 7) (.ref (f 0)) (T 1 + 3) (sv n_put 219) (T 1 + 4) (.ref (f 24)) 5)
noncomputable abbrev e144 : En := ef (N 14 + 17) (tup [sv n_meet 227, .ref (N 14 + 16)])
noncomputable abbrev e145 : En := et (N 14 + 16) (lst [.int 20 (T 14 + 22), .ref (N 14 + 15)] 0)
noncomputable abbrev e146 : En := et (N 14 + 15) (lst [.int 21 (T 14 + 31)] 0)
noncomputable abbrev e147 : En := ef (N 14 + 14) (tup [sv n_emit 221, .ref (N 14 + 13)])
noncomputable abbrev e148 : En := ef (N 14 + 13) (tup [sv n_jump 195, .int 20 (T 14 + 22)])
noncomputable abbrev e149 : En := ef (N 14 + 12) (tup [sv n_emit 221, .ref (N 14 + 11)])
noncomputable abbrev e150 : En := ef (N 14 + 11) (tup [sv n_gain 203])
noncomputable abbrev e151 : En := ef (N 14 + 8) (tup [sv n_mark 197])
noncomputable abbrev e152 : En := ef (N 14 + 7) (tup [sv n_split 193, .int 22 (T 14 + 35)])
noncomputable abbrev e153 : En := ef (N 12 + 32) (tup [sv n_put 219, .ref (f 25)])
noncomputable abbrev e154 : En := ef (N 12 + 31) (tup [sv n_put 219, .ref (f 21)])
noncomputable abbrev e155 : En := ef (N 12 + 5) (tup [sv n_split 193, .int 19 (T 12 + 19)])
noncomputable abbrev e156 : En := et (N 9 + 38) (lst [.int 18 (T 12 + 16)] 1)
noncomputable abbrev e157 : En := ef (N 18 + 17) (tup [sv n_meet 227, .ref (N 18 + 16)])
noncomputable abbrev e158 : En := et (N 18 + 16) (lst [.int 20 (T 18 + 22), .ref (N 18 + 15)] 0)
noncomputable abbrev e159 : En := et (N 18 + 15) (lst [.int 21 (T 18 + 31)] 0)
noncomputable abbrev e160 : En := ef (N 18 + 14) (tup [sv n_emit 221, .ref (N 18 + 13)])
noncomputable abbrev e161 : En := ef (N 18 + 13) (tup [sv n_jump 195, .int 20 (T 18 + 22)])
noncomputable abbrev e162 : En := ef (N 18 + 12) (tup [sv n_emit 221, .ref (N 18 + 11)])
noncomputable abbrev e163 : En := ef (N 18 + 11) (tup [sv n_gain 203])
noncomputable abbrev e164 : En := ef (N 18 + 8) (tup [sv n_mark 197])
noncomputable abbrev e165 : En := ef (N 18 + 7) (tup [sv n_split 193, .int 22 (T 18 + 35)])
noncomputable abbrev e166 : En := ef (N 20 + 13) (tup [sv n_jump 195, .int 26 (T 20 + 38)])
noncomputable abbrev ldt : List En := [ef (f 6) (tup [sv n_cat (tk 0), .ref (f 11), .ref (f 12)]), ef (f 11) (tup [sv n_cat (tk 1), .ref (f 13), .ref (f 14)]), ef (f 13) (tup [sv n_arbno (tk 2), .ref (f 15)]), ef (f 15) (tup [sv n_alt (tk 3), .ref (f 16), .ref (f 17)]), ef (f 17) (tup [sv n_cat (tk 4), .ref (f 18), .ref (f 19)]), ef (f 18) (tup [sv n_cat (tk 5), .ref (f 20), .ref (f 21)]), ef (f 21) (tup [sv n_arbno (tk 6), .ref (f 22)]), ef (f 14) (tup [sv n_alt (tk 7), .ref (f 23), .ref (f 24)]), ef (f 24) (tup [sv n_cat (tk 8), .ref (f 18), .ref (f 25)]), ef (f 12) (tup [sv n_cat (tk 9), .ref (f 26), .ref (f 27)]), ef (f 26) (tup [sv n_cursor (tk 10), .ref (f 28)]), ef (f 27) (tup [sv n_fail (tk 11)])]
noncomputable abbrev ld_P0 : List En := et (f 0) (lst [.ref (f 1)] 0)::ef (f 1) (tup [sv n_put 219, .ref (f 6)])::et (f 2) (fq12 p (f 3) (.ref (f 4)) (f 5) (.ref (f 6)) (f 7) (.ref (f 0)) 3)::et (f 4) (inst 94 (f 8))::e100 p f::et (f 10) (lst [] 0)::ldt f tk
noncomputable abbrev ld_a00 : List En := e101 N::e102 f N::e103 N::ef (N 1 + 79) (tup [sv n_put 219, .ref (f 16)])::e104 N T::et (N 1 + 69) (lst [] 0)::e105 N::e106 N T::e107 N T::e108 N::e109 N T::e110 N::e111 N::e112 N::e113 N T::e114 f N::e115 f N::e116 f N::et (f 0) (lst [.ref (N 1 + 29), .ref (N 1 + 28), .ref (N 1 + 27), .ref (N 1 + 51), .ref (N 1 + 48), .ref (N 1 + 46), .ref (N 1 + 85), .ref (N 1 + 84), .ref (N 1 + 80), .ref (N 1 + 79)] 7)::et (f 2) (fq14 p (f 3) (.ref (f 4)) (f 5) (.ref (f 6)) (f 7) (.ref (f 0)) (T 1 + 3) (sv n_open 223) (T 1 + 4) (.ref (N 1 + 70)) 5)::et (f 4) (inst 94 (f 8))::e100 p f::et (f 10) (lst [.ref (N 1 + 41), .none, .ref (N 1 + 42), .none] 4)::ldt f tk
noncomputable abbrev ld_P1 : List En := e101 N::e102 f N::e103 N::e104 N T::et (N 1 + 69) (lst [] 0)::e105 N::e106 N T::e107 N T::e108 N::e109 N T::e110 N::e111 N::e112 N::e113 N T::e114 f N::e115 f N::e116 f N::et (f 0) (lst [.ref (N 1 + 29), .ref (N 1 + 28), .ref (N 1 + 27), .ref (N 1 + 51), .ref (N 1 + 48), .ref (N 1 + 46), .ref (N 1 + 85), .ref (N 1 + 84), .ref (N 1 + 80)] 8)::et (f 2) (fq14 p (f 3) (.ref (f 4)) (f 5) (.ref (f 6)) (f 7) (.ref (f 0)) (T 1 + 3) (sv n_put 219) (T 1 + 4) (.ref (f 16)) 5)::et (f 4) (inst 94 (f 8))::e100 p f::et (f 10) (lst [.ref (N 1 + 41), .none, .ref (N 1 + 42), .none, .ref (N 30 + 4)] 5)::ldt f tk
noncomputable abbrev ld_a01 : List En := e117 f N::e118 f N::ef (N 3 + 30) (tup [sv n_put 219, .ref (f 20)])::e119 N T::e101 N::e104 N T::e120 N T::e105 N::e106 N T::e107 N T::e108 N::e109 N T::e110 N::e111 N::e112 N::e113 N T::e114 f N::e115 f N::e116 f N::et (f 0) (lst [.ref (N 1 + 29), .ref (N 1 + 28), .ref (N 1 + 27), .ref (N 1 + 51), .ref (N 1 + 48), .ref (N 1 + 46), .ref (N 1 + 85), .ref (N 3 + 32), .ref (N 3 + 31), .ref (N 3 + 30)] 11)::et (f 2) (fq14 p (f 3) (.ref (f 4)) (f 5) (.ref (f 6)) (f 7) (.ref (f 0)) (T 1 + 3) (sv n_put 219) (T 1 + 4) (.ref (f 17)) 5)::et (f 4) (inst 94 (f 8))::e100 p f::et (f 10) (lst [.ref (N 1 + 41), .none, .ref (N 1 + 42), .ref (N 3 + 5), .ref (N 30 + 4), .none] 6)::ldt f tk
noncomputable abbrev ld_P2 : List En := e117 f N::e118 f N::e119 N T::e101 N::e104 N T::e120 N T::e105 N::e106 N T::e107 N T::e108 N::e109 N T::e110 N::e111 N::e112 N::e113 N T::e114 f N::e115 f N::e116 f N::et (f 0) (lst [.ref (N 1 + 29), .ref (N 1 + 28), .ref (N 1 + 27), .ref (N 1 + 51), .ref (N 1 + 48), .ref (N 1 + 46), .ref (N 1 + 85), .ref (N 3 + 32), .ref (N 3 + 31)] 12)::e121 p f T::et (f 4) (inst 94 (f 8))::e100 p f::et (f 10) (lst [.ref (N 1 + 41), .none, .ref (N 1 + 42), .ref (N 3 + 5), .ref (N 30 + 4), .none, .ref (N 31 + 4)] 7)::ldt f tk
noncomputable abbrev ld_a11 : List En := e122 N::e123 N T::e124 N T::e125 N::e126 N T::e127 N::e128 N::ef (N 5 + 10) (tup [sv n_put 219, .ref (f 22)])::e129 N::e130 N T::e117 f N::e119 N T::e101 N::e104 N T::e120 N T::e105 N::e106 N T::e107 N T::e108 N::e109 N T::e110 N::e111 N::e112 N::e113 N T::e114 f N::e115 f N::e116 f N::et (f 0) (lst [.ref (N 1 + 29), .ref (N 1 + 28), .ref (N 1 + 27), .ref (N 1 + 51), .ref (N 1 + 48), .ref (N 1 + 46), .ref (N 1 + 85), .ref (N 3 + 32), .ref (N 5 + 17), .ref (N 5 + 14), .ref (N 5 + 12), .ref (N 5 + 10)] 14)::e131 p f T::et (f 4) (inst 94 (f 8))::e100 p f::et (f 10) (lst [.ref (N 1 + 41), .none, .ref (N 1 + 42), .ref (N 3 + 5), .ref (N 30 + 4), .none, .ref (N 31 + 4), .ref (N 5 + 7), .none, .ref (N 5 + 8)] 10)::ldt f tk
noncomputable abbrev ld_P3 : List En := e122 N::e123 N T::e124 N T::e125 N::e126 N T::e127 N::e128 N::e129 N::e130 N T::e117 f N::e119 N T::e101 N::e104 N T::e120 N T::e105 N::e106 N T::e107 N T::e108 N::e109 N T::e110 N::e111 N::e112 N::e113 N T::e114 f N::e115 f N::e116 f N::et (f 0) (lst [.ref (N 1 + 29), .ref (N 1 + 28), .ref (N 1 + 27), .ref (N 1 + 51), .ref (N 1 + 48), .ref (N 1 + 46), .ref (N 1 + 85), .ref (N 3 + 32), .ref (N 5 + 17), .ref (N 5 + 14), .ref (N 5 + 12)] 15)::e132 p f T::et (f 4) (inst 94 (f 8))::e100 p f::et (f 10) (lst [.ref (N 1 + 41), .none, .ref (N 1 + 42), .ref (N 3 + 5), .ref (N 30 + 4), .none, .ref (N 31 + 4), .ref (N 5 + 7), .none, .ref (N 5 + 8), .ref (N 32 + 4)] 11)::ldt f tk
noncomputable abbrev ld_a10 : List En := e133 N T::e123 N T::e124 N T::e126 N T::e128 N::e129 N::e130 N T::e117 f N::e119 N T::e101 N::e104 N T::e120 N T::e105 N::e106 N T::e107 N T::e108 N::e109 N T::e110 N::e111 N::e112 N::e113 N T::e114 f N::e115 f N::e116 f N::et (f 0) (lst [.ref (N 1 + 29), .ref (N 1 + 28), .ref (N 1 + 27), .ref (N 1 + 51), .ref (N 1 + 48), .ref (N 1 + 46), .ref (N 1 + 85), .ref (N 3 + 32)] 18)::et (f 2) (fq14 p (f 3) (.ref (f 4)) (f 5) (.ref (f 6)) (f 7) (.ref (f 0)) (T 1 + 3) (sv n_meet 227) (T 1 + 4) (.ref (N 5 + 16)) 5)::et (f 4) (inst 94 (f 8))::e100 p f::et (f 10) (lst [.ref (N 1 + 41), .none, .ref (N 1 + 42), .ref (N 3 + 5), .ref (N 30 + 4), .none, .ref (N 31 + 4), .ref (N 5 + 7), .ref (N 7 + 13), .ref (N 5 + 8), .ref (N 32 + 4), .ref (N 5 + 11), .ref (N 5 + 13)] 13)::ldt f tk
noncomputable abbrev ld_P4 : List En := e133 N T::e123 N T::e124 N T::e126 N T::e128 N::e129 N::e130 N T::e119 N T::e101 N::e104 N T::e120 N T::e105 N::e106 N T::e107 N T::e108 N::e109 N T::e110 N::e111 N::e112 N::e113 N T::e114 f N::e115 f N::e116 f N::et (f 0) (lst [.ref (N 1 + 29), .ref (N 1 + 28), .ref (N 1 + 27), .ref (N 1 + 51), .ref (N 1 + 48), .ref (N 1 + 46), .ref (N 1 + 85)] 19)::et (f 2) (fq14 p (f 3) (.ref (f 4)) (f 5) (.ref (f 6)) (f 7) (.ref (f 0)) (T 1 + 3) (sv n_put 219) (T 1 + 4) (.ref (f 19)) 5)::et (f 4) (inst 94 (f 8))::e100 p f::et (f 10) (lst [.ref (N 1 + 41), .none, .ref (N 1 + 42), .ref (N 3 + 5), .ref (N 30 + 4), .none, .ref (N 31 + 4), .ref (N 5 + 7), .ref (N 7 + 13), .ref (N 5 + 8), .ref (N 32 + 4), .ref (N 5 + 11), .ref (N 5 + 13), .ref (N 33 + 4)] 14)::ldt f tk
noncomputable abbrev ld_aE0 : List En := e134 N::e135 f N::e136 N::ef (N 9 + 48) (tup [sv n_put 219, .ref (f 23)])::e137 N T::et (N 9 + 38) (lst [] 0)::e138 N T::e139 N T::e133 N T::e123 N T::e124 N T::e126 N T::e128 N::e129 N::e130 N T::e119 N T::e104 N T::e120 N T::e106 N T::e107 N T::e109 N T::e111 N::e112 N::e113 N T::e114 f N::e115 f N::et (f 0) (lst [.ref (N 1 + 29), .ref (N 1 + 28), .ref (N 9 + 54), .ref (N 9 + 53), .ref (N 9 + 49), .ref (N 9 + 48)] 26)::et (f 2) (fq14 p (f 3) (.ref (f 4)) (f 5) (.ref (f 6)) (f 7) (.ref (f 0)) (T 1 + 3) (sv n_open 223) (T 1 + 4) (.ref (N 9 + 39)) 5)::et (f 4) (inst 94 (f 8))::e100 p f::et (f 10) (lst [.ref (N 1 + 41), .ref (N 9 + 21), .ref (N 1 + 42), .ref (N 3 + 5), .ref (N 30 + 4), .ref (N 9 + 5), .ref (N 31 + 4), .ref (N 5 + 7), .ref (N 7 + 13), .ref (N 5 + 8), .ref (N 32 + 4), .ref (N 5 + 11), .ref (N 5 + 13), .ref (N 33 + 4), .ref (N 1 + 45), .ref (N 1 + 47), .none] 17)::ldt f tk
noncomputable abbrev ld_P5 : List En := e134 N::e135 f N::e136 N::e137 N T::et (N 9 + 38) (lst [] 0)::e138 N T::e139 N T::e133 N T::e123 N T::e124 N T::e126 N T::e128 N::e129 N::e130 N T::e119 N T::e104 N T::e120 N T::e106 N T::e107 N T::e109 N T::e111 N::e112 N::e113 N T::e114 f N::e115 f N::et (f 0) (lst [.ref (N 1 + 29), .ref (N 1 + 28), .ref (N 9 + 54), .ref (N 9 + 53), .ref (N 9 + 49)] 27)::et (f 2) (fq14 p (f 3) (.ref (f 4)) (f 5) (.ref (f 6)) (f 7) (.ref (f 0)) (T 1 + 3) (sv n_put 219) (T 1 + 4) (.ref (f 23)) 5)::et (f 4) (inst 94 (f 8))::e100 p f::et (f 10) (lst [.ref (N 1 + 41), .ref (N 9 + 21), .ref (N 1 + 42), .ref (N 3 + 5), .ref (N 30 + 4), .ref (N 9 + 5), .ref (N 31 + 4), .ref (N 5 + 7), .ref (N 7 + 13), .ref (N 5 + 8), .ref (N 32 + 4), .ref (N 5 + 11), .ref (N 5 + 13), .ref (N 33 + 4), .ref (N 1 + 45), .ref (N 1 + 47), .none, .ref (N 34 + 4)] 18)::ldt f tk
noncomputable abbrev ld_b01c : List En := e140 f N::ef (N 11 + 30) (tup [sv n_put 219, .ref (f 20)])::e141 N T::e134 N::e137 N T::e142 N T::e138 N T::e139 N T::e133 N T::e123 N T::e124 N T::e126 N T::e128 N::e129 N::e130 N T::e119 N T::e104 N T::e120 N T::e106 N T::e107 N T::e109 N T::e111 N::e112 N::e113 N T::e114 f N::e115 f N::et (f 0) (lst [.ref (N 1 + 29), .ref (N 1 + 28), .ref (N 9 + 54), .ref (N 11 + 31), .ref (N 11 + 30)] 30)::e143 p f T::et (f 4) (inst 94 (f 8))::e100 p f::et (f 10) (lst [.ref (N 1 + 41), .ref (N 9 + 21), .ref (N 1 + 42), .ref (N 3 + 5), .ref (N 30 + 4), .ref (N 9 + 5), .ref (N 31 + 4), .ref (N 5 + 7), .ref (N 7 + 13), .ref (N 5 + 8), .ref (N 32 + 4), .ref (N 5 + 11), .ref (N 5 + 13), .ref (N 33 + 4), .ref (N 1 + 45), .ref (N 1 + 47), .ref (N 11 + 5), .ref (N 34 + 4), .none] 19)::ldt f tk
noncomputable abbrev ld_P6c : List En := e140 f N::e141 N T::e134 N::e137 N T::e142 N T::e138 N T::e139 N T::e133 N T::e123 N T::e124 N T::e126 N T::e128 N::e129 N::e130 N T::e119 N T::e104 N T::e120 N T::e106 N T::e107 N T::e109 N T::e111 N::e112 N::e113 N T::e114 f N::e115 f N::et (f 0) (lst [.ref (N 1 + 29), .ref (N 1 + 28), .ref (N 9 + 54), .ref (N 11 + 31)] 31)::e121 p f T::et (f 4) (inst 94 (f 8))::e100 p f::et (f 10) (lst [.ref (N 1 + 41), .ref (N 9 + 21), .ref (N 1 + 42), .ref (N 3 + 5), .ref (N 30 + 4), .ref (N 9 + 5), .ref (N 31 + 4), .ref (N 5 + 7), .ref (N 7 + 13), .ref (N 5 + 8), .ref (N 32 + 4), .ref (N 5 + 11), .ref (N 5 + 13), .ref (N 33 + 4), .ref (N 1 + 45), .ref (N 1 + 47), .ref (N 11 + 5), .ref (N 34 + 4), .none, .ref (N 35 + 4)] 20)::ldt f tk
noncomputable abbrev ld_b11c : List En := e144 N::e145 N T::e146 N T::e147 N::e148 N T::e149 N::e150 N::ef (N 14 + 10) (tup [sv n_put 219, .ref (f 22)])::e151 N::e152 N T::e141 N T::e134 N::e137 N T::e142 N T::e138 N T::e139 N T::e133 N T::e123 N T::e124 N T::e126 N T::e128 N::e129 N::e130 N T::e119 N T::e104 N T::e120 N T::e106 N T::e107 N T::e109 N T::e111 N::e112 N::e113 N T::e114 f N::e115 f N::et (f 0) (lst [.ref (N 1 + 29), .ref (N 1 + 28), .ref (N 9 + 54), .ref (N 14 + 17), .ref (N 14 + 14), .ref (N 14 + 12), .ref (N 14 + 10)] 33)::e131 p f T::et (f 4) (inst 94 (f 8))::e100 p f::et (f 10) (lst [.ref (N 1 + 41), .ref (N 9 + 21), .ref (N 1 + 42), .ref (N 3 + 5), .ref (N 30 + 4), .ref (N 9 + 5), .ref (N 31 + 4), .ref (N 5 + 7), .ref (N 7 + 13), .ref (N 5 + 8), .ref (N 32 + 4), .ref (N 5 + 11), .ref (N 5 + 13), .ref (N 33 + 4), .ref (N 1 + 45), .ref (N 1 + 47), .ref (N 11 + 5), .ref (N 34 + 4), .none, .ref (N 35 + 4), .ref (N 14 + 7), .none, .ref (N 14 + 8)] 23)::ldt f tk
noncomputable abbrev ld_P7c : List En := e144 N::e145 N T::e146 N T::e147 N::e148 N T::e149 N::e150 N::e151 N::e152 N T::e141 N T::e134 N::e137 N T::e142 N T::e138 N T::e139 N T::e133 N T::e123 N T::e124 N T::e126 N T::e128 N::e129 N::e130 N T::e119 N T::e104 N T::e120 N T::e106 N T::e107 N T::e109 N T::e111 N::e112 N::e113 N T::e114 f N::e115 f N::et (f 0) (lst [.ref (N 1 + 29), .ref (N 1 + 28), .ref (N 9 + 54), .ref (N 14 + 17), .ref (N 14 + 14), .ref (N 14 + 12)] 34)::e132 p f T::et (f 4) (inst 94 (f 8))::e100 p f::et (f 10) (lst [.ref (N 1 + 41), .ref (N 9 + 21), .ref (N 1 + 42), .ref (N 3 + 5), .ref (N 30 + 4), .ref (N 9 + 5), .ref (N 31 + 4), .ref (N 5 + 7), .ref (N 7 + 13), .ref (N 5 + 8), .ref (N 32 + 4), .ref (N 5 + 11), .ref (N 5 + 13), .ref (N 33 + 4), .ref (N 1 + 45), .ref (N 1 + 47), .ref (N 11 + 5), .ref (N 34 + 4), .none, .ref (N 35 + 4), .ref (N 14 + 7), .none, .ref (N 14 + 8), .ref (N 36 + 4)] 24)::ldt f tk
noncomputable abbrev ld_P8c : List En := ef (N 16 + 13) (tup [sv n_jump 195, .int 26 (T 16 + 38)])::e145 N T::e146 N T::e148 N T::e150 N::e151 N::e152 N T::e141 N T::e134 N::e137 N T::e142 N T::e138 N T::e139 N T::e133 N T::e123 N T::e124 N T::e126 N T::e128 N::e129 N::e130 N T::e119 N T::e104 N T::e120 N T::e106 N T::e107 N T::e109 N T::e111 N::e112 N::e113 N T::e114 f N::e115 f N::et (f 0) (lst [.ref (N 1 + 29), .ref (N 1 + 28), .ref (N 9 + 54)] 37)::et (f 2) (fq14 p (f 3) (.ref (f 4)) (f 5) (.ref (f 6)) (f 7) (.ref (f 0)) (T 1 + 3) (sv n_meet 227) (T 1 + 4) (.ref (N 14 + 16)) 5)::et (f 4) (inst 94 (f 8))::e100 p f::et (f 10) (lst [.ref (N 1 + 41), .ref (N 9 + 21), .ref (N 1 + 42), .ref (N 3 + 5), .ref (N 30 + 4), .ref (N 9 + 5), .ref (N 31 + 4), .ref (N 5 + 7), .ref (N 7 + 13), .ref (N 5 + 8), .ref (N 32 + 4), .ref (N 5 + 11), .ref (N 5 + 13), .ref (N 33 + 4), .ref (N 1 + 45), .ref (N 1 + 47), .ref (N 11 + 5), .ref (N 34 + 4), .none, .ref (N 35 + 4), .ref (N 14 + 7), .ref (N 16 + 13), .ref (N 14 + 8), .ref (N 36 + 4), .ref (N 14 + 11), .ref (N 14 + 13)] 26)::ldt f tk
noncomputable abbrev ld_b01f : List En := e153 f N::e154 f N::ef (N 12 + 30) (tup [sv n_put 219, .ref (f 20)])::e155 N T::e134 N::e137 N T::e156 N T::e138 N T::e139 N T::e133 N T::e123 N T::e124 N T::e126 N T::e128 N::e129 N::e130 N T::e119 N T::e104 N T::e120 N T::e106 N T::e107 N T::e109 N T::e111 N::e112 N::e113 N T::e114 f N::e115 f N::et (f 0) (lst [.ref (N 1 + 29), .ref (N 1 + 28), .ref (N 9 + 54), .ref (N 12 + 32), .ref (N 12 + 31), .ref (N 12 + 30)] 30)::e143 p f T::et (f 4) (inst 94 (f 8))::e100 p f::et (f 10) (lst [.ref (N 1 + 41), .ref (N 9 + 21), .ref (N 1 + 42), .ref (N 3 + 5), .ref (N 30 + 4), .ref (N 9 + 5), .ref (N 31 + 4), .ref (N 5 + 7), .ref (N 7 + 13), .ref (N 5 + 8), .ref (N 32 + 4), .ref (N 5 + 11), .ref (N 5 + 13), .ref (N 33 + 4), .ref (N 1 + 45), .ref (N 1 + 47), .ref (N 12 + 5), .ref (N 34 + 4), .none] 19)::ldt f tk
noncomputable abbrev ld_P6f : List En := e153 f N::e154 f N::e155 N T::e134 N::e137 N T::e156 N T::e138 N T::e139 N T::e133 N T::e123 N T::e124 N T::e126 N T::e128 N::e129 N::e130 N T::e119 N T::e104 N T::e120 N T::e106 N T::e107 N T::e109 N T::e111 N::e112 N::e113 N T::e114 f N::e115 f N::et (f 0) (lst [.ref (N 1 + 29), .ref (N 1 + 28), .ref (N 9 + 54), .ref (N 12 + 32), .ref (N 12 + 31)] 31)::e121 p f T::et (f 4) (inst 94 (f 8))::e100 p f::et (f 10) (lst [.ref (N 1 + 41), .ref (N 9 + 21), .ref (N 1 + 42), .ref (N 3 + 5), .ref (N 30 + 4), .ref (N 9 + 5), .ref (N 31 + 4), .ref (N 5 + 7), .ref (N 7 + 13), .ref (N 5 + 8), .ref (N 32 + 4), .ref (N 5 + 11), .ref (N 5 + 13), .ref (N 33 + 4), .ref (N 1 + 45), .ref (N 1 + 47), .ref (N 12 + 5), .ref (N 34 + 4), .none, .ref (N 37 + 4)] 20)::ldt f tk
noncomputable abbrev ld_b11f : List En := e157 N::e158 N T::e159 N T::e160 N::e161 N T::e162 N::e163 N::ef (N 18 + 10) (tup [sv n_put 219, .ref (f 22)])::e164 N::e165 N T::e153 f N::e155 N T::e134 N::e137 N T::e156 N T::e138 N T::e139 N T::e133 N T::e123 N T::e124 N T::e126 N T::e128 N::e129 N::e130 N T::e119 N T::e104 N T::e120 N T::e106 N T::e107 N T::e109 N T::e111 N::e112 N::e113 N T::e114 f N::e115 f N::et (f 0) (lst [.ref (N 1 + 29), .ref (N 1 + 28), .ref (N 9 + 54), .ref (N 12 + 32), .ref (N 18 + 17), .ref (N 18 + 14), .ref (N 18 + 12), .ref (N 18 + 10)] 33)::e131 p f T::et (f 4) (inst 94 (f 8))::e100 p f::et (f 10) (lst [.ref (N 1 + 41), .ref (N 9 + 21), .ref (N 1 + 42), .ref (N 3 + 5), .ref (N 30 + 4), .ref (N 9 + 5), .ref (N 31 + 4), .ref (N 5 + 7), .ref (N 7 + 13), .ref (N 5 + 8), .ref (N 32 + 4), .ref (N 5 + 11), .ref (N 5 + 13), .ref (N 33 + 4), .ref (N 1 + 45), .ref (N 1 + 47), .ref (N 12 + 5), .ref (N 34 + 4), .none, .ref (N 37 + 4), .ref (N 18 + 7), .none, .ref (N 18 + 8)] 23)::ldt f tk
noncomputable abbrev ld_P7f : List En := e157 N::e158 N T::e159 N T::e160 N::e161 N T::e162 N::e163 N::e164 N::e165 N T::e153 f N::e155 N T::e134 N::e137 N T::e156 N T::e138 N T::e139 N T::e133 N T::e123 N T::e124 N T::e126 N T::e128 N::e129 N::e130 N T::e119 N T::e104 N T::e120 N T::e106 N T::e107 N T::e109 N T::e111 N::e112 N::e113 N T::e114 f N::e115 f N::et (f 0) (lst [.ref (N 1 + 29), .ref (N 1 + 28), .ref (N 9 + 54), .ref (N 12 + 32), .ref (N 18 + 17), .ref (N 18 + 14), .ref (N 18 + 12)] 34)::e132 p f T::et (f 4) (inst 94 (f 8))::e100 p f::et (f 10) (lst [.ref (N 1 + 41), .ref (N 9 + 21), .ref (N 1 + 42), .ref (N 3 + 5), .ref (N 30 + 4), .ref (N 9 + 5), .ref (N 31 + 4), .ref (N 5 + 7), .ref (N 7 + 13), .ref (N 5 + 8), .ref (N 32 + 4), .ref (N 5 + 11), .ref (N 5 + 13), .ref (N 33 + 4), .ref (N 1 + 45), .ref (N 1 + 47), .ref (N 12 + 5), .ref (N 34 + 4), .none, .ref (N 37 + 4), .ref (N 18 + 7), .none, .ref (N 18 + 8), .ref (N 38 + 4)] 24)::ldt f tk
noncomputable abbrev ld_Zf : List En := e166 N T::e158 N T::e159 N T::e161 N T::e163 N::e164 N::e165 N T::e153 f N::e155 N T::e134 N::e137 N T::e156 N T::e138 N T::e139 N T::e133 N T::e123 N T::e124 N T::e126 N T::e128 N::e129 N::e130 N T::e119 N T::e104 N T::e120 N T::e106 N T::e107 N T::e109 N T::e111 N::e112 N::e113 N T::e114 f N::e115 f N::et (f 0) (lst [.ref (N 1 + 29), .ref (N 1 + 28), .ref (N 9 + 54), .ref (N 12 + 32)] 37)::et (f 2) (fq14 p (f 3) (.ref (f 4)) (f 5) (.ref (f 6)) (f 7) (.ref (f 0)) (T 1 + 3) (sv n_meet 227) (T 1 + 4) (.ref (N 18 + 16)) 5)::et (f 4) (inst 94 (f 8))::e100 p f::et (f 10) (lst [.ref (N 1 + 41), .ref (N 9 + 21), .ref (N 1 + 42), .ref (N 3 + 5), .ref (N 30 + 4), .ref (N 9 + 5), .ref (N 31 + 4), .ref (N 5 + 7), .ref (N 7 + 13), .ref (N 5 + 8), .ref (N 32 + 4), .ref (N 5 + 11), .ref (N 5 + 13), .ref (N 33 + 4), .ref (N 1 + 45), .ref (N 1 + 47), .ref (N 12 + 5), .ref (N 34 + 4), .none, .ref (N 37 + 4), .ref (N 18 + 7), .ref (N 20 + 13), .ref (N 18 + 8), .ref (N 38 + 4), .ref (N 18 + 11), .ref (N 18 + 13)] 26)::ldt f tk
noncomputable abbrev ld_P8f : List En := e166 N T::e158 N T::e159 N T::e161 N T::e163 N::e164 N::e165 N T::e155 N T::e134 N::e137 N T::e156 N T::e138 N T::e139 N T::e133 N T::e123 N T::e124 N T::e126 N T::e128 N::e129 N::e130 N T::e119 N T::e104 N T::e120 N T::e106 N T::e107 N T::e109 N T::e111 N::e112 N::e113 N T::e114 f N::e115 f N::et (f 0) (lst [.ref (N 1 + 29), .ref (N 1 + 28), .ref (N 9 + 54)] 38)::et (f 2) (fq14 p (f 3) (.ref (f 4)) (f 5) (.ref (f 6)) (f 7) (.ref (f 0)) (T 1 + 3) (sv n_put 219) (T 1 + 4) (.ref (f 25)) 5)::et (f 4) (inst 94 (f 8))::e100 p f::et (f 10) (lst [.ref (N 1 + 41), .ref (N 9 + 21), .ref (N 1 + 42), .ref (N 3 + 5), .ref (N 30 + 4), .ref (N 9 + 5), .ref (N 31 + 4), .ref (N 5 + 7), .ref (N 7 + 13), .ref (N 5 + 8), .ref (N 32 + 4), .ref (N 5 + 11), .ref (N 5 + 13), .ref (N 33 + 4), .ref (N 1 + 45), .ref (N 1 + 47), .ref (N 12 + 5), .ref (N 34 + 4), .none, .ref (N 37 + 4), .ref (N 18 + 7), .ref (N 20 + 13), .ref (N 18 + 8), .ref (N 38 + 4), .ref (N 18 + 11), .ref (N 18 + 13), .ref (N 39 + 4)] 27)::ldt f tk
theorem cp_P0 (tL00 : Nat) (KL00 : Str) (rL00 : List Value) : FinT (rn p b1 b2 (pC p (f 2)) (den (pC p (f 2))) n t (ef (f 16) (tup (.str KL00 tL00 :: rL00))::ld_P0 p f tk) (cond b2 (q414 (q84 (hy 139 (q415 (hy 230 (q369 [])))))) (q414 (q85 (hy 139 (q415 (hy 230 (q369 []))))))) [(32795286342768305172929921614907396159093, .rd 67 (fun _ => .str (KL00) tL00) 0), (455126313168696234964340, .gv (fun _ => .bool false) 0)]) [9,10,14,15,24,25,43,44,45,46,47,48,49,52,53,65,66,67,96,98,99,100,101,102,103,104,105,106,107,108,109,110,111,112,113] (pC p (f 2)) (n + 95) (t + 200) (ld_a00 p f tk (up N 1 n) (up T 1 t)) [.gv 455126313168696234964340 [.str (KL00) tL00, sv n_alt (t + 141)] (fun _ => .bool false) 0, .rd 32795286342768305172929921614907396159093 [.ref (f 16), .int 0 (t + 157)] (f 16) (tup (Value.str KL00 tL00 :: rL00)) (fun _ => .str (KL00) tL00) 0] := by show _ = _; cases b1 <;> cases b2 <;> kernel_rfl
theorem cp_a00_any (xL00 yL00 : Nat) (csL00 : Str) : FinT (rn p b1 b2 (pC p (f 2)) (den (pC p (f 2))) n t (ef (f 16) (tup [sv n_any xL00, .str csL00 yL00])::ld_a00 p f tk N T) (q416 (hy 40850803607 (q299 (hy 19482 (q195 (q245 (hy 16411 (q196 (q37 (q417 (q95 (hy 132 [])))))))))))) []) [4,10,11,12,14,15,16,17,18,19,20,21,22,23,24,25,26,27,28,29,30,31,32,33,34,35,36,37,38,39,40,41,42,43,44] (pC p (f 2)) (n + 9) (t + 28) (ef (n + 4) (tup [sv n_one 189, sv n_any xL00, .str (csL00) yL00])::ld_P1 p f tk (up N 30 n) T) [] := by show _ = _; cases b1 <;> kernel_rfl
theorem cp_a00_fail (xL00 : Nat) : FinT (rn p b1 b2 (pC p (f 2)) (den (pC p (f 2))) n t (ef (f 16) (tup [sv n_fail xL00])::ld_a00 p f tk N T) (q416 (hy 40850803607 (q299 (hy 19482 (q103 (q153 (q245 (hy 155 (q169 (q417 (q95 (hy 132 [])))))))))))) []) [4,10,11,12,14,15,16,17,18,19,20,21,22,23,24,25,26,27,28,29,30,31,32,33,34,35,36,37,38,39,40,41,42,43,44] (pC p (f 2)) (n + 9) (t + 26) (ef (n + 4) (tup [sv n_fail xL00])::ld_P1 p f tk (up N 30 n) T) [] := by show _ = _; cases b1 <;> kernel_rfl
theorem cp_P1 (tL01 tL10 : Nat) (KL01 : Str) (rL01 : List Value) (KL10 : Str) (rL10 : List Value) : FinT (rn p b1 b2 (pC p (f 2)) (den (pC p (f 2))) n t (ef (f 20) (tup (.str KL01 tL01 :: rL01))::ef (f 19) (tup (.str KL10 tL10 :: rL10))::ld_P1 p f tk N T) (cond b2 (q418 (q419 (q329 (hy 132 [])))) (q418 (q420 (q329 (hy 132 []))))) [(32795286342768305172929921614907396159093, .rd 19 (fun _ => .str (KL01) tL01) 0), (455126313168696234964340, .gv (fun _ => .bool false) 0), (32795286342768305172929921614907396159093, .rd 20 (fun _ => .str (KL10) tL10) 0), (455126313168696234964340, .gv (fun _ => .bool false) 0), (32795286342768305172929921614907396159093, .rd 23 (fun _ => .str (KL01) tL01) 0), (455126313168696234964340, .gv (fun _ => .bool false) 0), (32795286342768305172929921614907396159093, .rd 26 (fun _ => .str (KL10) tL10) 0), (455126313168696234964340, .gv (fun _ => .bool false) 0)]) [4,5,6,31,39,42,43,44,45,46,47,48,49,50,51,52,53,54,55,56,57,58,59,60,61,62,63,64,65,66,67,68,69,70,71,72] (pC p (f 2)) (n + 37) (t + 88) (ld_a01 p f tk (up N 3 n) (up T 3 t)) [.gv 455126313168696234964340 [.str (KL10) tL10, sv n_chars (t + 82)] (fun _ => .bool false) 0, .rd 32795286342768305172929921614907396159093 [.ref (f 19), .int 0 (t + 81)] (f 19) (tup (Value.str KL10 tL10 :: rL10)) (fun _ => .str (KL10) tL10) 0, .gv 455126313168696234964340 [.str (KL01) tL01, sv n_chars (t + 74)] (fun _ => .bool false) 0, .rd 32795286342768305172929921614907396159093 [.ref (f 20), .int 0 (t + 73)] (f 20) (tup (Value.str KL01 tL01 :: rL01)) (fun _ => .str (KL01) tL01) 0, .gv 455126313168696234964340 [.str (KL10) tL10, sv n_cat (t + 32)] (fun _ => .bool false) 0, .rd 32795286342768305172929921614907396159093 [.ref (f 19), .int 0 (t + 65)] (f 19) (tup (Value.str KL10 tL10 :: rL10)) (fun _ => .str (KL10) tL10) 0, .gv 455126313168696234964340 [.str (KL01) tL01, sv n_cat (t + 32)] (fun _ => .bool false) 0, .rd 32795286342768305172929921614907396159093 [.ref (f 20), .int 0 (t + 55)] (f 20) (tup (Value.str KL01 tL01 :: rL01)) (fun _ => .str (KL01) tL01) 0] := by show _ = _; cases b1 <;> cases b2 <;> kernel_rfl
theorem cp_a01_any (xL01 yL01 : Nat) (csL01 : Str) : FinT (rn p b1 b2 (pC p (f 2)) (den (pC p (f 2))) n t (ef (f 20) (tup [sv n_any xL01, .str csL01 yL01])::ld_a01 p f tk N T) (q421 (hy 153 (q195 (q373 (hy 2100763 (q196 (q37 (q422 [])))))))) []) [4,10,11,13,14,15,16,17,18,19,20,21,22,23,24,25,26,27,28,29,30,31,32,33,34,35,36,37,38,39,40,41,42,43,44,45] (pC p (f 2)) (n + 9) (t + 28) (ef (n + 4) (tup [sv n_one 189, sv n_any xL01, .str (csL01) yL01])::ld_P2 p f tk (up N 31 n) T) [] := by show _ = _; cases b1 <;> kernel_rfl
theorem cp_a01_fail (xL01 : Nat) : FinT (rn p b1 b2 (pC p (f 2)) (den (pC p (f 2))) n t (ef (f 20) (tup [sv n_fail xL01])::ld_a01 p f tk N T) (q421 (hy 153 (q103 (q153 (q373 (hy 19995 (q169 (q422 [])))))))) []) [4,10,11,13,14,15,16,17,18,19,20,21,22,23,24,25,26,27,28,29,30,31,32,33,34,35,36,37,38,39,40,41,42,43,44,45] (pC p (f 2)) (n + 9) (t + 26) (ef (n + 4) (tup [sv n_fail xL01])::ld_P2 p f tk (up N 31 n) T) [] := by show _ = _; cases b1 <;> kernel_rfl
theorem cp_P2 : FinT (rn p b1 b2 (pC p (f 2)) (den (pC p (f 2))) n t (ld_P2 p f tk N T) (q0 (hy 148 (q0 (q131 (hy 147 (q0 (hy 308595092 (q131 (hy 308595091 (q423 (hy 131 (q20 (hy 40582368151 (q3 (hy 5194272574231 (q371 (q5 (hy 2477208 (q37 (q242 (q295 (q299 (hy 16538 (q242 (q37 (q372 (q0 (q74 (q373 (hy 19995 (q37 (q370 (q332 (q297 (q332 (hy 132 (q302 (hy 4406433091328 (q221 (hy 16927 (q424 (hy 157 (q5 (hy 20253 (q244 (q425 (hy 338186401 (q2 (hy 43287855137 (q34 (q425 (q0 (hy 268976161 (q70 (q298 (hy 168 (q28 (q222 (hy 132 []))))))))))))))))))))))))))))))))))))))))))))))))))))))))))) []) [3,4,5,6,7,8,9,10,12,13,21,23,24,25,26,27,28,29,30,31,32,33,34,35,36,37,38,39,40,41,42,43,44,45,46,47,48,49,50,51,52,53,54,55] (pC p (f 2)) (n + 21) (t + 47) (ld_a11 p f tk (up N 5 n) (up T 5 t)) [] := by show _ = _; cases b1 <;> kernel_rfl
theorem cp_a11_any (xL11 yL11 : Nat) (csL11 : Str) : FinT (rn p b1 b2 (pC p (f 2)) (den (pC p (f 2))) n t (ef (f 22) (tup [sv n_any xL11, .str csL11 yL11])::ld_a11 p f tk N T) (q335 (q147 (q336 (hy 161 (q426 (q337 [])))))) []) [4,10,11,12,13,14,15,16,18,19,20,21,22,23,24,25,26,27,28,29,30,31,32,33,34,35,36,37,38,39,40,41,42,43,44,45,46,47,48,49,50,51,52,53] (pC p (f 2)) (n + 9) (t + 28) (ef (n + 4) (tup [sv n_one 189, sv n_any xL11, .str (csL11) yL11])::ld_P3 p f tk (up N 32 n) T) [] := by show _ = _; cases b1 <;> kernel_rfl
theorem cp_a11_fail (xL11 : Nat) : FinT (rn p b1 b2 (pC p (f 2)) (den (pC p (f 2))) n t (ef (f 22) (tup [sv n_fail xL11])::ld_a11 p f tk N T) (q335 (q147 (q336 (hy 161 (q427 []))))) []) [4,10,11,12,13,14,15,16,18,19,20,21,22,23,24,25,26,27,28,29,30,31,32,33,34,35,36,37,38,39,40,41,42,43,44,45,46,47,48,49,50,51,52,53] (pC p (f 2)) (n + 9) (t + 26) (ef (n + 4) (tup [sv n_fail xL11])::ld_P3 p f tk (up N 32 n) T) [] := by show _ = _; cases b1 <;> kernel_rfl
theorem cp_P3 : FinT (rn p b1 b2 (pC p (f 2)) (den (pC p (f 2))) n t (ld_P3 p f tk N T) (q428 (q338 (hy 19867 (q292 (q155 (q247 (q305 (hy 20385 (q37 (q429 (q34 (q271 (q339 (hy 163 (q0 (q3 (hy 160 (q0 (hy 42681745439 (q0 (hy 160 (q155 (hy 2101120 (q155 (q294 (hy 342413731 (q270 (hy 163 (q430 (hy 163 (q37 (q304 (q199 (q0 (q3 (q431 (hy 5610106568739 (q147 (q132 (q223 (hy 167 (q375 (hy 21415 (q340 (q272 (q376 (q0 (hy 4512937607212 (q377 (hy 0x2b56ad00b402d5a0d600 (q378 []))))))))))))))))))))))))))))))))))))))))))))))))))) []) [2,17,18,20,22,23,24,25,26,27,28,29,30,31,32,33,34,35,36,37,38,39,40,41,42,43,44,45,46,47,48,49,50,51,52,53,54,55,56,57,58] (pC p (f 2)) (n + 16) (t + 40) (ld_a10 p f tk (up N 7 n) (up T 7 t)) [] := by show _ = _; cases b1 <;> kernel_rfl
theorem cp_a10_any (xL10 yL10 : Nat) (csL10 : Str) : FinT (rn p b1 b2 (pC p (f 2)) (den (pC p (f 2))) n t (ef (f 19) (tup [sv n_any xL10, .str csL10 yL10])::ld_a10 p f tk N T) (q379 (q147 (q301 (hy 158 (q195 (q305 (hy 16417 (q196 (q37 (q432 [])))))))))) []) [4,10,11,12,13,14,15,16,18,19,20,21,22,23,24,25,26,27,28,29,30,31,32,33,34,35,36,37,38,39,40,41,42,43,44,45,46,47,48,49,50] (pC p (f 2)) (n + 9) (t + 28) (ef (n + 4) (tup [sv n_one 189, sv n_any xL10, .str (csL10) yL10])::ld_P4 p f tk (up N 33 n) T) [] := by show _ = _; cases b1 <;> kernel_rfl
theorem cp_a10_fail (xL10 : Nat) : FinT (rn p b1 b2 (pC p (f 2)) (den (pC p (f 2))) n t (ef (f 19) (tup [sv n_fail xL10])::ld_a10 p f tk N T) (q379 (q147 (q301 (hy 158 (q103 (q153 (q305 (hy 161 (q169 (q432 [])))))))))) []) [4,10,11,12,13,14,15,16,18,19,20,21,22,23,24,25,26,27,28,29,30,31,32,33,34,35,36,37,38,39,40,41,42,43,44,45,46,47,48,49,50] (pC p (f 2)) (n + 9) (t + 26) (ef (n + 4) (tup [sv n_fail xL10])::ld_P4 p f tk (up N 33 n) T) [] := by show _ = _; cases b1 <;> kernel_rfl
theorem cp_P4 (tE0 : Nat) (KE0 : Str) (rE0 : List Value) : FinT (rn p b1 b2 (pC p (f 2)) (den (pC p (f 2))) n t (ef (f 23) (tup (.str KE0 tE0 :: rE0))::ld_P4 p f tk N T) (q0 (hy 154 (q0 (hy 41071034393 (q0 (hy 321277082 (q265 (hy 19609 (q246 (q95 (q424 (q433 (hy 20125 (q154 (q96 (hy 301991952 (q248 (hy 145 (q272 (q341 (hy 20608 (q0 (q89 (hy 16802 (q271 (hy 0xa3468c023008d183 (q138 (hy 146 (q17 (hy 129 (q5 (hy 162 (q0 (hy 43218649121 (q0 (hy 0x9a0068d1a42850a1008402142850a2 (q45 (hy 155 (q15 (hy 155 (q15 (hy 155 (q20 (q81 (q381 (hy 21285 (q152 (q152 (q5 (hy 2708390 (q37 (q434 (q34 (q382 (q157 (hy 169 (q0 (q152 (q383 (hy 128 (q81 (hy 41876393500 (q45 (hy 157 (q15 (hy 157 (q15 (hy 157 (q20 (q168 (hy 169 (q3 (q243 (q261 (hy 169 (q37 (q377 (hy 5956409447936 (q2 (hy 46534443053 (q34 (q377 (hy 22016 (q0 (hy 46440071213 (q0 (q3 (hy 170 (q0 (q157 (hy 169 (q0 (hy 170 (q168 (hy 2102400 (q168 (q139 (hy 20096 (q45 (hy 158 (q15 (hy 158 (q15 (hy 158 (q20 (hy 363550381 (q326 (hy 173 (q435 (hy 22189 (q154 (q242 (hy 34433143203 (q2 (q11 (hy 164 (q272 (q436 (hy 131 (q264 (hy 0x2cd9b300cc033660d900 (q138 (hy 165 (q17 (hy 129 (q5 (hy 178 (q437 (hy 0xb000c183062c58b1 (q45 (hy 177 (q15 (hy 177 (q15 (hy 177 (q438 (hy 181 (q37 (hy 848840426021057 (q71 (hy 129 (q439 (hy 2104375 (q165 (hy 879628630762568 (q166 (hy 0x32004801224480f200480122448 (q167 (q110 (hy 21120 (q367 (q137 (q42 (hy 888425260688714 (q368 (hy 147 (q13 (q75 (hy 212 (q28 (hy 445983316 (q3 (hy 213 (q0 (hy 56909693012 (q0 (hy 0x1a952a540150054a952a55 (q164 (hy 58168061016 (q3 (hy 216 (q3 (hy 27864 (q3 (hy 217 (q3 (hy 217 (q5 (hy 454438233 (q61 (q38 (hy 218 (q3 (hy 218 (q3 (hy 218 (q5 (hy 28122 (q37 (q440 (hy 975188895662171 (q2 (hy 59520794717 (q34 (q440 (hy 3604571 (q0 (hy 59325759581 (q369 []))))))))))))))))))))))))))))))))))))))))))))))))))))))))))))))))))))))))))))))))))))))))))))))))))))))))))))))))))))))))))))))))))))))))))))))))))))))))))))))))))))))))))))))))))))))))))))))))))))))) [(32795286342768305172929921614907396159093, .rd 36 (fun _ => .str (KE0) tE0) 0), (455126313168696234964340, .gv (fun _ => .bool false) 0)]) [9,10,14,15,24,25,42,58,65,66,67,68,69,70,71,72,74,75,77,78,80,82,83,84,85,86,88,89,90,91,92,93,94,95,96,97,98,99,100,101,102,103,104] (pC p (f 2)) (n + 64) (t + 124) (ld_aE0 p f tk (up N 9 n) (up T 9 t)) [.gv 455126313168696234964340 [.str (KE0) tE0, sv n_alt (t + 65)] (fun _ => .bool false) 0, .rd 32795286342768305172929921614907396159093 [.ref (f 23), .int 0 (t + 81)] (f 23) (tup (Value.str KE0 tE0 :: rE0)) (fun _ => .str (KE0) tE0) 0] := by show _ = _; cases b1 <;> kernel_rfl
theorem cp_aE0_chars (xE0 yE0 : Nat) : FinT (rn p b1 b2 (pC p (f 2)) (den (pC p (f 2))) n t (ef (f 23) (tup [sv n_chars xE0, sv [] yE0])::ld_aE0 p f tk N T) (q441 (q442 (q343 []))) []) [4,10,11,12,14,15,16,17,18,19,20,21,22,23,24,25,26,27,28,29,30,31,32,33,34,35,36,37,38,39,40,41,42,43,44,45,46,47,48,49,50,51,52] (pC p (f 2)) (n + 9) (t + 28) (ef (n + 4) (tup [sv n_one 189, sv n_chars xE0, sv [] yE0])::ld_P5 p f tk (up N 34 n) T) [] := by show _ = _; cases b1 <;> kernel_rfl
theorem cp_aE0_fail (xE0 : Nat) : FinT (rn p b1 b2 (pC p (f 2)) (den (pC p (f 2))) n t (ef (f 23) (tup [sv n_fail xE0])::ld_aE0 p f tk N T) (q441 (q443 [])) []) [4,10,11,12,14,15,16,17,18,19,20,21,22,23,24,25,26,27,28,29,30,31,32,33,34,35,36,37,38,39,40,41,42,43,44,45,46,47,48,49,50,51,52] (pC p (f 2)) (n + 9) (t + 26) (ef (n + 4) (tup [sv n_fail xE0])::ld_P5 p f tk (up N 34 n) T) [] := by show _ = _; cases b1 <;> kernel_rfl
theorem cp_P5c (tL01 xE1 yE1 : Nat) (KL01 : Str) (rL01 : List Value) : FinT (rn p b1 b2 (pC p (f 2)) (den (pC p (f 2))) n t (ef (f 20) (tup (.str KL01 tL01 :: rL01))::ef (f 25) (tup [sv n_chars xE1, sv [] yE1])::ld_P5 p f tk N T) (cond b2 (q444 (q268 (q84 (q445 (q28 (hy 35568754752 [])))))) (q444 (q268 (q85 (q445 (q28 (hy 35568754752 []))))))) [(32795286342768305172929921614907396159093, .rd 19 (fun _ => .str (KL01) tL01) 0), (455126313168696234964340, .gv (fun _ => .bool false) 0), (32795286342768305172929921614907396159093, .rd 23 (fun _ => .str (KL01) tL01) 0), (455126313168696234964340, .gv (fun _ => .bool false) 0)]) [4,5,30,38,41,42,43,44,45,46,47,48,49,50,51,52,53,54,55,56,57,58,59,60,61,62,63,64,65,66,67,68,69,70,71,72,73,74,75,76,77,78,79] (pC p (f 2)) (n + 36) (t + 90) (ld_b01c p f tk (up N 11 n) (up T 11 t)) [.gv 455126313168696234964340 [.str (KL01) tL01, sv n_chars (t + 74)] (fun _ => .bool false) 0, .rd 32795286342768305172929921614907396159093 [.ref (f 20), .int 0 (t + 73)] (f 20) (tup (Value.str KL01 tL01 :: rL01)) (fun _ => .str (KL01) tL01) 0, .gv 455126313168696234964340 [.str (KL01) tL01, sv n_cat (t + 32)] (fun _ => .bool false) 0, .rd 32795286342768305172929921614907396159093 [.ref (f 20), .int 0 (t + 55)] (f 20) (tup (Value.str KL01 tL01 :: rL01)) (fun _ => .str (KL01) tL01) 0] := by show _ = _; cases b1 <;> cases b2 <;> kernel_rfl
theorem cp_P5f (tL01 xE1 : Nat) (KL01 : Str) (rL01 : List Value) : FinT (rn p b1 b2 (pC p (f 2)) (den (pC p (f 2))) n t (ef (f 20) (tup (.str KL01 tL01 :: rL01))::ef (f 25) (tup [sv n_fail xE1])::ld_P5 p f tk N T) (cond b2 (q344 (hy 155 (q47 (q260 (q419 (q446 (hy 132 []))))))) (q344 (hy 155 (q47 (q260 (q420 (q446 (hy 132 [])))))))) [(32795286342768305172929921614907396159093, .rd 19 (fun _ => .str (KL01) tL01) 0), (455126313168696234964340, .gv (fun _ => .bool false) 0), (32795286342768305172929921614907396159093, .rd 23 (fun _ => .str (KL01) tL01) 0), (455126313168696234964340, .gv (fun _ => .bool false) 0)]) [4,5,6,31,39,42,43,44,45,46,47,48,49,50,51,52,53,54,55,56,57,58,59,60,61,62,63,64,65,66,67,68,69,70,71,72,73,74,75,76,77,78,79,80] (pC p (f 2)) (n + 37) (t + 88) (ld_b01f p f tk (up N 12 n) (up T 12 t)) [.gv 455126313168696234964340 [.str (KL01) tL01, sv n_chars (t + 74)] (fun _ => .bool false) 0, .rd 32795286342768305172929921614907396159093 [.ref (f 20), .int 0 (t + 73)] (f 20) (tup (Value.str KL01 tL01 :: rL01)) (fun _ => .str (KL01) tL01) 0, .gv 455126313168696234964340 [.str (KL01) tL01, sv n_cat (t + 32)] (fun _ => .bool false) 0, .rd 32795286342768305172929921614907396159093 [.ref (f 20), .int 0 (t + 55)] (f 20) (tup (Value.str KL01 tL01 :: rL01)) (fun _ => .str (KL01) tL01) 0] := by show _ = _; cases b1 <;> cases b2 <;> kernel_rfl
theorem cp_b01c_any (xL01 yL01 : Nat) (csL01 : Str) : FinT (rn p b1 b2 (pC p (f 2)) (den (pC p (f 2))) n t (ef (f 20) (tup [sv n_any xL01, .str csL01 yL01])::ld_b01c p f tk N T) (q447 (q342 (q442 (q343 [])))) []) [4,10,12,13,14,15,16,17,18,19,20,21,22,23,24,25,26,27,28,29,30,31,32,33,34,35,36,37,38,39,40,41,42,43,44,45,46,47,48,49,50,51,52] (pC p (f 2)) (n + 9) (t + 28) (ef (n + 4) (tup [sv n_one 189, sv n_any xL01, .str (csL01) yL01])::ld_P6c p f tk (up N 35 n) T) [] := by show _ = _; cases b1 <;> kernel_rfl
theorem cp_b01c_fail (xL01 : Nat) : FinT (rn p b1 b2 (pC p (f 2)) (den (pC p (f 2))) n t (ef (f 20) (tup [sv n_fail xL01])::ld_b01c p f tk N T) (q447 (q342 (q443 []))) []) [4,10,12,13,14,15,16,17,18,19,20,21,22,23,24,25,26,27,28,29,30,31,32,33,34,35,36,37,38,39,40,41,42,43,44,45,46,47,48,49,50,51,52] (pC p (f 2)) (n + 9) (t + 26) (ef (n + 4) (tup [sv n_fail xL01])::ld_P6c p f tk (up N 35 n) T) [] := by show _ = _; cases b1 <;> kernel_rfl
theorem cp_P6c : FinT (rn p b1 b2 (pC p (f 2)) (den (pC p (f 2))) n t (ld_P6c p f tk N T) (q379 (q15 (q239 (q301 (hy 158 (q37 (q277 (q295 (q305 (hy 16545 (q277 (q37 (q183 (q37 (q380 (q0 (q74 (q274 (q297 (q111 (q141 (hy 132 (q118 (hy 4408247685892 (q86 (hy 132 (q430 (q244 (q448 (hy 21376 (q222 (q2 (hy 45181698088 (q34 (q448 (hy 21376 (q0 (hy 269090856 (q156 (q298 (hy 175 (q28 (hy 35532822447 []))))))))))))))))))))))))))))))))))))))))))) []) [3,4,5,6,7,8,9,10,12,13,22,23,24,25,26,27,28,29,30,31,32,33,34,35,36,37,38,39,40,41,42,43,44,45,46,47,48,49,50,51,52,53,54,55,56,57,58,59,60,61,62] (pC p (f 2)) (n + 21) (t + 47) (ld_b11c p f tk (up N 14 n) (up T 14 t)) [] := by show _ = _; cases b1 <;> kernel_rfl
theorem cp_b11c_any (xL11 yL11 : Nat) (csL11 : Str) : FinT (rn p b1 b2 (pC p (f 2)) (den (pC p (f 2))) n t (ef (f 22) (tup [sv n_any xL11, .str csL11 yL11])::ld_b11c p f tk N T) (q449 (q195 (q217 (hy 170 (q5 (hy 2102698 (q196 (q37 (q450 []))))))))) []) [4,10,11,12,13,14,15,16,18,19,20,21,22,23,24,25,26,27,28,29,30,31,32,33,34,35,36,37,38,39,40,41,42,43,44,45,46,47,48,49,50,51,52,53,54,55,56,57,58,59,60] (pC p (f 2)) (n + 9) (t + 28) (ef (n + 4) (tup [sv n_one 189, sv n_any xL11, .str (csL11) yL11])::ld_P7c p f tk (up N 36 n) T) [] := by show _ = _; cases b1 <;> kernel_rfl
theorem cp_b11c_fail (xL11 : Nat) : FinT (rn p b1 b2 (pC p (f 2)) (den (pC p (f 2))) n t (ef (f 22) (tup [sv n_fail xL11])::ld_b11c p f tk N T) (q449 (q103 (q153 (q261 (q169 (q450 [])))))) []) [4,10,11,12,13,14,15,16,18,19,20,21,22,23,24,25,26,27,28,29,30,31,32,33,34,35,36,37,38,39,40,41,42,43,44,45,46,47,48,49,50,51,52,53,54,55,56,57,58,59,60] (pC p (f 2)) (n + 9) (t + 26) (ef (n + 4) (tup [sv n_fail xL11])::ld_P7c p f tk (up N 36 n) T) [] := by show _ = _; cases b1 <;> kernel_rfl
theorem cp_P7c : FinT (rn p b1 b2 (pC p (f 2)) (den (pC p (f 2))) n t (ld_P7c p f tk N T) (q0 (q275 (hy 340300066 (q292 (hy 21286 (q86 (q152 (q152 (q276 (hy 166 (q37 (q387 (hy 5852518585472 (q2 (q250 (hy 170 (q34 (q387 (hy 21632 (q0 (hy 45634715690 (q0 (q3 (hy 167 (q249 (q0 (hy 167 (q148 (hy 2102016 (q148 (q294 (hy 357209386 (q217 (hy 170 (q325 (hy 170 (q37 (q386 (q0 (hy 46708523054 (q0 (q3 (hy 171 (q0 (hy 45634715690 (q0 (hy 4409409574187 (q250 (hy 21802 (q147 (hy 365664046 (q384 (hy 174 (q365 (hy 22318 (q340 (q272 (q366 (hy 131 (q451 (hy 0x2d1a3400d0034680d980 (q378 [])))))))))))))))))))))))))))))))))))))))))))))))))))))))))))))) []) [2,17,18,20,22,23,24,25,26,27,28,29,30,31,32,33,34,35,36,37,38,39,40,41,42,43,44,45,46,47,48,49,50,51,52,53,54,55,56,57,58,59,60,61,62,63,64,65] (pC p (f 2)) (n + 16) (t + 40) (ld_P8c p f tk (up N 16 n) (up T 16 t)) [] := by show _ = _; cases b1 <;> kernel_rfl
theorem cp_P8c : FinI (rn p b1 b2 (pC p (f 2)) (den (pC p (f 2))) n t (ld_P8c p f tk N T) (q0 (hy 161 (q0 (hy 42950197280 (q0 (hy 161 (q117 (hy 2101248 (q117 (q147 (q116 (q374 (hy 164 (q452 (hy 21028 (q340 (q272 (q382 (q157 (hy 16809 (q387 (hy 4409408935040 (q250 (hy 170 (q138 (hy 145 (q17 (hy 129 (q5 (hy 169 (q0 (hy 45097812008 (q0 (hy 169 (q222 (hy 2102272 (q222 (hy 44829365159 (q45 (hy 168 (q15 (hy 168 (q15 (hy 168 (q20 (hy 361436716 (q178 (q201 (hy 172 (q364 (hy 172 (q37 (q279 (q94 (q153 (q435 (q13 (q36 (hy 16512 (q38 (q279 (q37 (q385 (hy 47887194417 (q2 (hy 47887188018 (q34 (q436 (q5 (q75 (hy 177 (q28 (hy 372005041 (q3 (hy 178 (q437 (hy 0xaf00bd7af62c58b1 (q45 (hy 176 (q15 (hy 176 (q15 (hy 176 (q438 (hy 181 (q37 (q280 (hy 197 (q94 (q153 (q439 (hy 23607 (q169 (q453 (hy 6441233472768 (q2 (hy 50322128955 (q34 (q453 (hy 23808 (q0 (hy 50198396987 (q5 (q75 (hy 186 (q28 (hy 391028026 (q3 (hy 187 (q0 (hy 49929945146 (q0 [])))))))))))))))))))))))))))))))))))))))))))))))))))))))))))))))))))))))))))))))))))))))))))))))))))))))))))))))) []) [4,13,20,26,27,28,29,30,31,32,33,35,36,37,38,39,40,41,42,43,44,45,46,47,48,49,50,51,52,53,54,57,58,59,60,61,62,63,64,65,66,67,68,69,70,71,72,73] (.ok .next) (n + 26) (t + 71) (ef (n + 21) (tup [sv n_fail (tk 11)])::ef (n + 12) (tup [sv n_place 205, .ref (f 28)])::ef (n + 5) (tup [sv n_jump 195, .int 26 (t + 12)])::ef (N 16 + 13) (tup [sv n_jump 195, .int 26 (T 16 + 38)])::e145 N T::e146 N T::e148 N T::e150 N::e151 N::e152 N T::e141 N T::e137 N T::e142 N T::e138 N T::e139 N T::e133 N T::e123 N T::e124 N T::e126 N T::e128 N::e129 N::e130 N T::e119 N T::e104 N T::e120 N T::e106 N T::e107 N T::e109 N T::e111 N::e112 N::e113 N T::et (f 0) (lst [] 40)::et (f 2) (fq14 p (f 3) (.ref (f 4)) (f 5) (.ref (f 6)) (f 7) (.ref (f 0)) (T 1 + 3) (sv n_put 219) (T 1 + 4) (.ref (f 27)) 5)::et (f 4) (inst 94 (f 8))::e100 p f::et (f 10) (lst [.ref (N 1 + 41), .ref (N 9 + 21), .ref (N 1 + 42), .ref (N 3 + 5), .ref (N 30 + 4), .ref (N 9 + 5), .ref (N 31 + 4), .ref (N 5 + 7), .ref (N 7 + 13), .ref (N 5 + 8), .ref (N 32 + 4), .ref (N 5 + 11), .ref (N 5 + 13), .ref (N 33 + 4), .ref (N 1 + 45), .ref (N 1 + 47), .ref (N 11 + 5), .ref (N 34 + 4), .ref (n + 5), .ref (N 35 + 4), .ref (N 14 + 7), .ref (N 16 + 13), .ref (N 14 + 8), .ref (N 36 + 4), .ref (N 14 + 11), .ref (N 14 + 13), .ref (n + 12), .ref (n + 21)] 28)::ldt f tk) [] := by show _ = _; cases b1 <;> kernel_rfl
theorem cp_b01f_any (xL01 yL01 : Nat) (csL01 : Str) : FinT (rn p b1 b2 (pC p (f 2)) (den (pC p (f 2))) n t (ef (f 20) (tup [sv n_any xL01, .str csL01 yL01])::ld_b01f p f tk N T) (q335 (q334 (q336 (hy 161 (q426 (q337 [])))))) []) [4,10,11,13,14,15,16,17,18,19,20,21,22,23,24,25,26,27,28,29,30,31,32,33,34,35,36,37,38,39,40,41,42,43,44,45,46,47,48,49,50,51,52,53] (pC p (f 2)) (n + 9) (t + 28) (ef (n + 4) (tup [sv n_one 189, sv n_any xL01, .str (csL01) yL01])::ld_P6f p f tk (up N 37 n) T) [] := by show _ = _; cases b1 <;> kernel_rfl
theorem cp_b01f_fail (xL01 : Nat) : FinT (rn p b1 b2 (pC p (f 2)) (den (pC p (f 2))) n t (ef (f 20) (tup [sv n_fail xL01])::ld_b01f p f tk N T) (q335 (q334 (q336 (hy 161 (q427 []))))) []) [4,10,11,13,14,15,16,17,18,19,20,21,22,23,24,25,26,27,28,29,30,31,32,33,34,35,36,37,38,39,40,41,42,43,44,45,46,47,48,49,50,51,52,53] (pC p (f 2)) (n + 9) (t + 26) (ef (n + 4) (tup [sv n_fail xL01])::ld_P6f p f tk (up N 37 n) T) [] := by show _ = _; cases b1 <;> kernel_rfl
theorem cp_P6f : FinT (rn p b1 b2 (pC p (f 2)) (den (pC p (f 2))) n t (ld_P6f p f tk N T) (q428 (q338 (hy 19867 (q423 (hy 131 (q20 (q155 (hy 159 (q3 (hy 5471314874143 (q305 (hy 20385 (q37 (hy 747679181870378 (q295 (q183 (hy 95702935279408385 (q37 (q274 (q0 (q74 (q303 (q37 (q307 (q34 (q118 (q249 (q297 (q118 (q249 (hy 132 (q170 (hy 0x1089d3a7009c0274e11300 (q452 (q244 (q434 (q34 (q382 (q157 (hy 169 (q3 (q298 (hy 176 (q28 (hy 35534936112 []))))))))))))))))))))))))))))))))))))))))))))) []) [3,4,5,6,7,8,9,10,12,13,21,23,24,25,26,27,28,29,30,31,32,33,34,35,36,37,38,39,40,41,42,43,44,45,46,47,48,49,50,51,52,53,54,55,56,57,58,59,60,61,62,63] (pC p (f 2)) (n + 21) (t + 47) (ld_b11f p f tk (up N 18 n) (up T 18 t)) [] := by show _ = _; cases b1 <;> kernel_rfl
theorem cp_b11f_any (xL11 yL11 : Nat) (csL11 : Str) : FinT (rn p b1 b2 (pC p (f 2)) (den (pC p (f 2))) n t (ef (f 22) (tup [sv n_any xL11, .str csL11 yL11])::ld_b11f p f tk N T) (q454 (q195 (q262 (hy 171 (q5 (hy 2102827 (q196 (q37 (q455 []))))))))) []) [4,10,11,12,13,14,15,16,18,19,20,21,22,23,24,25,26,27,28,29,30,31,32,33,34,35,36,37,38,39,40,41,42,43,44,45,46,47,48,49,50,51,52,53,54,55,56,57,58,59,60,61] (pC p (f 2)) (n + 9) (t + 28) (ef (n + 4) (tup [sv n_one 189, sv n_any xL11, .str (csL11) yL11])::ld_P7f p f tk (up N 38 n) T) [] := by show _ = _; cases b1 <;> kernel_rfl
theorem cp_b11f_fail (xL11 : Nat) : FinT (rn p b1 b2 (pC p (f 2)) (den (pC p (f 2))) n t (ef (f 22) (tup [sv n_fail xL11])::ld_b11f p f tk N T) (q454 (q103 (q153 (q325 (q169 (q455 [])))))) []) [4,10,11,12,13,14,15,16,18,19,20,21,22,23,24,25,26,27,28,29,30,31,32,33,34,35,36,37,38,39,40,41,42,43,44,45,46,47,48,49,50,51,52,53,54,55,56,57,58,59,60,61] (pC p (f 2)) (n + 9) (t + 26) (ef (n + 4) (tup [sv n_fail xL11])::ld_P7f p f tk (up N 38 n) T) [] := by show _ = _; cases b1 <;> kernel_rfl
theorem cp_P7f : FinT (rn p b1 b2 (pC p (f 2)) (den (pC p (f 2))) n t (ld_P7f p f tk N T) (q0 (q431 (hy 5610106568739 (q292 (q132 (q223 (hy 167 (q375 (hy 167 (q37 (q456 (hy 356521129 (q201 (q2 (hy 45993345067 (q34 (q456 (hy 356521129 (q0 (hy 45903167531 (q0 (q3 (hy 168 (q0 (q199 (q0 (hy 168 (q132 (hy 2102144 (q132 (q294 (q201 (q262 (hy 171 (q363 (hy 21933 (q37 (q296 (q0 (q146 (q0 (q3 (hy 172 (q0 (hy 45903167531 (q0 (hy 172 (q201 (hy 2102656 (q201 (q147 (hy 367777711 (q328 (hy 22575 (q3 (hy 176 (q3 (hy 176 (q5 (hy 367777968 (q340 (q272 (q451 (hy 22912 (q0 (hy 787367364198452 (q5 (hy 179 (q3 (hy 0xb56ad403500d5a8368019b3 (q378 []))))))))))))))))))))))))))))))))))))))))))))))))))))))))))))))))))))))) []) [2,17,18,20,22,23,24,25,26,27,28,29,30,31,32,33,34,35,36,37,38,39,40,41,42,43,44,45,46,47,48,49,50,51,52,53,54,55,56,57,58,59,60,61,62,63,64,65,66] (pC p (f 2)) (n + 16) (t + 40) (ld_Zf p f tk (up N 20 n) (up T 20 t)) [] := by show _ = _; cases b1 <;> kernel_rfl
theorem cp_bE1_fail (xE1 : Nat) : FinT (rn p b1 b2 (pC p (f 2)) (den (pC p (f 2))) n t (ef (f 25) (tup [sv n_fail xE1])::ld_Zf p f tk N T) (q0 (q275 (hy 340300066 (q147 (q308 (q276 (hy 166 (q103 (q153 (q375 (q169 (q376 (hy 361436716 (q2 (hy 46263894060 (q34 (q376 (q0 (hy 46171619372 (q5 (q75 (hy 171 (q28 (q201 (hy 132 []))))))))))))))))))))))))) []) [4,10,11,12,13,14,15,16,18,19,20,21,22,23,24,25,26,27,28,29,30,31,32,33,34,35,36,37,38,39,40,41,42,43,44,45,46,47,48,49,50,51,52,53,54,55,56,57,58] (pC p (f 2)) (n + 9) (t + 26) (ef (n + 4) (tup [sv n_fail xE1])::ld_P8f p f tk (up N 39 n) T) [] := by show _ = _; cases b1 <;> kernel_rfl
theorem cp_P8f : FinI (rn p b1 b2 (pC p (f 2)) (den (pC p (f 2))) n t (ld_P8f p f tk N T) (q0 (hy 161 (q0 (hy 42950197280 (q0 (hy 161 (q117 (hy 2101248 (q117 (q147 (q116 (q374 (hy 164 (q452 (hy 21028 (q340 (q272 (q382 (q157 (hy 16809 (q387 (hy 4409408935040 (q250 (hy 170 (q138 (hy 145 (q17 (hy 129 (q5 (hy 169 (q0 (hy 45097812008 (q0 (hy 169 (q222 (hy 2102272 (q222 (hy 44829365159 (q45 (hy 168 (q15 (hy 168 (q15 (hy 168 (q20 (hy 361436716 (q178 (q201 (hy 172 (q364 (hy 172 (q37 (q279 (q94 (q153 (q435 (q13 (q36 (hy 16512 (q38 (q279 (q37 (q385 (hy 47887194417 (q2 (hy 47887188018 (q34 (q436 (q5 (q75 (hy 177 (q28 (hy 372005041 (q3 (hy 178 (q437 (hy 0xaf00bd7af62c58b1 (q45 (hy 176 (q15 (hy 176 (q15 (hy 176 (q438 (hy 181 (q37 (q280 (hy 197 (q94 (q153 (q439 (hy 23607 (q169 (q453 (hy 6441233472768 (q2 (hy 50322128955 (q34 (q453 (hy 23808 (q0 (hy 50198396987 (q5 (q75 (hy 186 (q28 (hy 391028026 (q3 (hy 187 (q0 (hy 49929945146 (q0 [])))))))))))))))))))))))))))))))))))))))))))))))))))))))))))))))))))))))))))))))))))))))))))))))))))))))))))))))) []) [4,13,20,26,27,28,29,30,31,32,33,35,36,37,38,39,40,41,42,43,44,45,46,47,48,49,50,51,52,53,54,57,58,59,60,61,62,63,64,65,66,67,68,69,70,71,72,73] (.ok .next) (n + 26) (t + 71) (ef (n + 21) (tup [sv n_fail (tk 11)])::ef (n + 12) (tup [sv n_place 205, .ref (f 28)])::ef (n + 5) (tup [sv n_jump 195, .int 27 (t + 12)])::e166 N T::e158 N T::e159 N T::e161 N T::e163 N::e164 N::e165 N T::e155 N T::e137 N T::e156 N T::e138 N T::e139 N T::e133 N T::e123 N T::e124 N T::e126 N T::e128 N::e129 N::e130 N T::e119 N T::e104 N T::e120 N T::e106 N T::e107 N T::e109 N T::e111 N::e112 N::e113 N T::et (f 0) (lst [] 41)::et (f 2) (fq14 p (f 3) (.ref (f 4)) (f 5) (.ref (f 6)) (f 7) (.ref (f 0)) (T 1 + 3) (sv n_put 219) (T 1 + 4) (.ref (f 27)) 5)::et (f 4) (inst 94 (f 8))::e100 p f::et (f 10) (lst [.ref (N 1 + 41), .ref (N 9 + 21), .ref (N 1 + 42), .ref (N 3 + 5), .ref (N 30 + 4), .ref (N 9 + 5), .ref (N 31 + 4), .ref (N 5 + 7), .ref (N 7 + 13), .ref (N 5 + 8), .ref (N 32 + 4), .ref (N 5 + 11), .ref (N 5 + 13), .ref (N 33 + 4), .ref (N 1 + 45), .ref (N 1 + 47), .ref (N 12 + 5), .ref (N 34 + 4), .ref (n + 5), .ref (N 37 + 4), .ref (N 18 + 7), .ref (N 20 + 13), .ref (N 18 + 8), .ref (N 38 + 4), .ref (N 18 + 11), .ref (N 18 + 13), .ref (N 39 + 4), .ref (n + 12), .ref (n + 21)] 29)::ldt f tk) [] := by show _ = _; cases b1 <;> kernel_rfl
end
end
section
open PySem PySem.W PySem.W.X PySem.Calls PySem.Spec PyProof.Rows
theorem cp_call (p : Params) (b1 b2 : Bool) (n t : Nat) (aT : Nat) : FinT (rn p b1 b2 (.call (.ref 112) ⟨[.ref aT], []⟩) (callNo 112 (fdAt p 112) ⟨[.ref aT], []⟩ (bodyAt p 112)) n t [] (q1 (hy 132 [])) []) [0] (.func (bodyAt p 112) (envAt p 112 n)) (n + 1) (t + 1) [et n (fo [ek p n_node t (.ref aT)] 1)] [] := by show _ = _; kernel_rfl
theorem cp_start (p : Params) (b1 b2 : Bool) (n t : Nat) (Lc aT : Nat) (hs : Nat → Int) (ks : Nat → Nat) : FinI (rn p b1 b2 (.func (bodyAt p 112) (envAt p 112 Lc)) (execsT ((bodyAt p 112).take 1) (envAt p 112 Lc)) n t [et Lc (fo [eh hs ks 0 n_node (.ref aT)] 1)] (q5 (q5 (q5 (q5 (q5 (q5 (q0 (q3 (q208 (hy 130 (q7 (q362 (q18 []))))))))))))) []) [0, 2, 3, 4] (.ok .next) (n + 4) (t + 4) [et (n + 3) (lst [] 0), et (n + 1) (inst 94 n), et n (fq13 p (t + 2) (.ref (n + 3)) 1), et Lc (fo [eh hs ks 0 n_node (.ref aT), ek p n_code (t + 3) (.ref (n + 1))] 2)] [] := by show _ = _; kernel_rfl
noncomputable def cp_put_o (p : Params) (b1 b2 : Bool) (n t : Nat) (Lc aT ci cd ol oe : Nat) (hs hc : Nat → Int) (ks kc : Nat → Nat) (os : List Value) : Out := run ((pv0 p b1 b2)) 100000 0 none ((.func (bodyAt p 112) (envAt p 112 Lc))) ((execsT [stAt (bodyAt p 112) 1] (envAt p 112 Lc))) .ret ⟨n, t, ([et Lc (fq15 hs ks (.ref aT) (.ref ci) 2), et ci (inst 94 cd), et cd (fq16 hc kc (.ref ol) 1), et ol (lst [] oe)]), (hy 16641 (q36 (q36 (q5 (hy 16770 (q2 (q28 (q1 (q34 (q6 (hy 129 []))))))))))),
    [], [], []⟩
theorem cp_put (p : Params) (b1 b2 : Bool) (n t : Nat) (Lc aT ci cd ol oe : Nat) (hs hc : Nat → Int) (ks kc : Nat → Nat) (os : List Value) : FinS (cp_put_o p b1 b2 n t Lc aT ci cd ol oe hs hc ks kc os) [0, 1, 2, 3, 4, 5, 6] 2 none (pC p n) (n + 3) (t + 3) [et (n + 2) (lst [.ref (n + 1)] 0), ef (n + 1) (tup [sv n_put 219, .ref aT]), et n (fq12 p t (.ref ci) (t + 1) (.ref aT) (t + 2) (.ref (n + 2)) 3), et Lc (fq15 hs ks (.ref aT) (.ref ci) 2), et ci (inst 94 cd), et cd (fq16 hc kc (.ref ol) 1), et ol (lst [] oe)] [] := by show _ = _; kernel_rfl
theorem cp_putr (p : Params) (b1 b2 : Bool) (n t : Nat) (Lc aT ci cd ol oe : Nat) (hs hc : Nat → Int) (ks kc : Nat → Nat) (os : List Value) (n2 t2 oe2 : Nat) : FinI (outK (cp_put_o p b1 b2 n t Lc aT ci cd ol oe hs hc ks kc os) ((.ok .next)) ⟨(n2), (t2), ([et Lc (fq15 hs ks (.ref aT) (.ref ci) 2), et ci (inst 94 cd), et cd (fq16 hc kc (.ref ol) 1), et ol (lst os oe2)]), (hy 128 []),
    [], [], []⟩) [0, 1, 2, 3] (.ok .next) n2 t2 [et Lc (fq15 hs ks (.ref aT) (.ref ci) 2), et ci (inst 94 cd), et cd (fq16 hc kc (.ref ol) 1), et ol (lst (os) oe2)] [] := by show _ = _; kernel_rfl
end
section
open PySem PySem.W PySem.W.X PySem.Calls PySem.Spec PyProof.Rows
theorem cp_rest_c (p : Params) (b1 b2 : Bool) (n t : Nat) (Lc aT ci cd ol oe rj : Nat) (hs hc : Nat → Int) (ks kc : Nat → Nat) (o0 o1 o2 o3 o4 o5 o6 o7 o8 o9 o10 o11 o12 o13 o14 o15 o16 o17 o18 o19 o20 o21 o22 o23 o24 o25 o26 o27 t0 t1 t2 t3 t4 t5 t6 t7 t8 t9 t10 t11 t12 t13 t14 t15 t16 t17 t18 t19 t20 t21 t22 t23 t24 t25 t26 t27 g0 g1 g3 g5 g7 g8 g12 g15 g16 g18 g20 g21 g25 : Nat) (W4 W6 W10 W13 W17 W19 W23 : Str) (r4 r6 r10 r13 r17 r19 r23 : List Value) : FinI (rn p b1 b2 (.func (bodyAt p 112) (envAt p 112 Lc)) (execsT ((bodyAt p 112).drop 2) (envAt p 112 Lc)) n t [ef o0 (tup [sv n_split t0, .int 2 g0]), ef o1 (tup [sv n_jump t1, .int 16 g1]), ef o2 (tup [sv n_mark t2]), ef o3 (tup [sv n_split t3, .int 6 g3]), ef o4 (tup (.str W4 t4 :: r4)), ef o5 (tup [sv n_jump t5, .int 14 g5]), ef o6 (tup (.str W6 t6 :: r6)), ef o7 (tup [sv n_split t7, .int 9 g7]), ef o8 (tup [sv n_jump t8, .int 13 g8]), ef o9 (tup [sv n_mark t9]), ef o10 (tup (.str W10 t10 :: r10)), ef o11 (tup [sv n_gain t11]), ef o12 (tup [sv n_jump t12, .int 7 g12]), ef o13 (tup (.str W13 t13 :: r13)), ef o14 (tup [sv n_gain t14]), ef o15 (tup [sv n_jump t15, .int 0 g15]), ef o16 (tup [sv n_split t16, .int 19 g16]), ef o17 (tup (.str W17 t17 :: r17)), ef o18 (tup [sv n_jump t18, .int 26 g18]), ef o19 (tup (.str W19 t19 :: r19)), ef o20 (tup [sv n_split t20, .int 22 g20]), ef o21 (tup [sv n_jump t21, .int 26 g21]), ef o22 (tup [sv n_mark t22]), ef o23 (tup (.str W23 t23 :: r23)), ef o24 (tup [sv n_gain t24]), ef o25 (tup [sv n_jump t25, .int 20 g25]), ef o26 (tup [sv n_place t26, .ref rj]), ef o27 (tup [sv n_fail t27]), et Lc (fq15 hs ks (.ref aT) (.ref ci) 2), et ci (inst 94 cd), et cd (fq16 hc kc (.ref ol) 1), et ol (lst [.ref o0, .ref o1, .ref o2, .ref o3, .ref o4, .ref o5, .ref o6, .ref o7, .ref o8, .ref o9, .ref o10, .ref o11, .ref o12, .ref o13, .ref o14, .ref o15, .ref o16, .ref o17, .ref o18, .ref o19, .ref o20, .ref o21, .ref o22, .ref o23, .ref o24, .ref o25, .ref o26, .ref o27] oe)] (q433 (q244 (q341 (hy 5575476285568 (q2 (hy 43558404130 (q34 (q341 (hy 20608 (q0 (q89 (hy 162 (q3 (hy 159 (q341 (hy 20608 (q176 (hy 343937572 (q248 (hy 165 (q457 (q10 (q86 (hy 348132096 (q458 (hy 167 (q459 (q22 (q293 (hy 168 (q460 (q97 (q324 (hy 169 (q461 (hy 170 (q462 (hy 752077496833451 (q463 (hy 172 (q464 (hy 173 (q465 (hy 37606131212 (q182 (q466 (hy 98564998340543872 (q467 (hy 176 (q468 (hy 778467386611889 (q469 (hy 47811100686 (q470 (hy 22963 (q180 (q471 (q64 (hy 377751552 (q472 (hy 181 (q473 (hy 16403 (q257 (hy 182 (q474 (hy 3000723 (q475 (hy 314933270 (q133 (hy 184 (q476 (hy 185 (q477 (hy 3050262 (q478 (hy 187 (q479 (hy 2526464 (q282 (hy 188 (q480 (hy 268864794 (q265 (hy 189 (q481 (hy 0x17c01f007cf9f1c3800e1c (q482 (hy 128 (q338 (hy 191 (q483 (hy 192 (q484 (hy 848840426021057 (q282 (hy 188 (q485 (hy 854259868860446 (q486 (q194 (hy 16415 (q221 (hy 195 (q487 (q311 (hy 0x1880220089122224401122 (q488 (hy 197 (q489 (hy 0xc1010404183063008c023468c91200 (q5 (q490 (hy 199 (q491 (hy 0x190912004801200 (q492 (hy 0x192952804a01280 (q493 (hy 424252160 (q494 (hy 892823575651787 (q495 (hy 0x31c047011e3c754a9528513142800a0028 (q55 (q496 (hy 205 (q497 (hy 72242323625001003 (q250 (hy 5921779127630 (q182 (q55 (q498 (hy 0xab573d5ab00ac02b (q2 (hy 175 []))))))))))))))))))))))))))))))))))))))))))))))))))))))))))))))))))))))))))))))))))))))))))))))))))))))))))))))))))))))))))))))))))))))))) [(32795286342768305172929921614907396159093, .rd 17 (fun _ => .str (W6) t6) 0), (455126313168696234964340, .gv (fun _ => .bool false) 0), (32795286342768305172929921614907396159093, .rd 16 (fun _ => .str (W4) t4) 0), (8395601325623592240556648632771639105386101, .rd 0 (fun _ => .bool false) 0), (32795286342768305172929921614907396159093, .rd 21 (fun _ => .str (W6) t6) 0), (8395601325623592240556648632771639105386101, .rd 0 (fun _ => .bool false) 0), (32795286342768305172929921614907396159093, .rd 32 (fun _ => .str (W13) t13) 0), (455126313168696234964340, .gv (fun _ => .bool false) 0), (32795286342768305172929921614907396159093, .rd 31 (fun _ => .str (W10) t10) 0), (8395601325623592240556648632771639105386101, .rd 0 (fun _ => .bool false) 0), (32795286342768305172929921614907396159093, .rd 38 (fun _ => .str (W13) t13) 0), (8395601325623592240556648632771639105386101, .rd 0 (fun _ => .bool false) 0), (32795286342768305172929921614907396159093, .rd 49 (fun _ => .str (W19) t19) 0), (455126313168696234964340, .gv (fun _ => .bool false) 0), (32795286342768305172929921614907396159093, .rd 48 (fun _ => .str (W17) t17) 0), (8395601325623592240556648632771639105386101, .rd 0 (fun _ => .bool false) 0), (32795286342768305172929921614907396159093, .rd 53 (fun _ => .str (W19) t19) 0), (8395601325623592240556648632771639105386101, .rd 0 (fun _ => .bool false) 0), (32795286342768305172929921614907396159093, .rd 63 (fun _ => .str (W23) t23) 0), (8395601325623592240556648632771639105386101, .rd 0 (fun _ => .bool false) 0)]) [5, 10, 12, 15, 18, 20, 24, 29, 31, 34, 37, 40, 42, 45, 48, 77, 78, 79, 80] (.ok (.ret (.ref (n + 3)))) (n + 49) (t + 134) [ef (n + 43) (tup [sv n_jump t25, .int 20 g25]), ef (n + 38) (tup [sv n_jump t21, .int 26 g21]), ef (n + 36) (tup [sv n_split t20, .int 22 g20]), ef (n + 33) (tup [sv n_jump t18, .int 26 g18]), ef (n + 30) (tup [sv n_split t16, .int 19 g16]), ef (n + 28) (tup [sv n_jump t15, .int 0 g15]), ef (n + 24) (tup [sv n_jump t12, .int 7 g12]), ef (n + 19) (tup [sv n_jump t8, .int 13 g8]), ef (n + 17) (tup [sv n_split t7, .int 9 g7]), ef (n + 14) (tup [sv n_jump t5, .int 14 g5]), ef (n + 11) (tup [sv n_split t3, .int 6 g3]), ef (n + 8) (tup [sv n_jump t1, .int 16 g1]), ef (n + 6) (tup [sv n_split t0, .int 2 g0]), et (n + 3) (lst [.ref (n + 6), .ref (n + 8), .ref o2, .ref (n + 11), .ref o4, .ref (n + 14), .ref o6, .ref (n + 17), .ref (n + 19), .ref o9, .ref o10, .ref o11, .ref (n + 24), .ref o13, .ref o14, .ref (n + 28), .ref (n + 30), .ref o17, .ref (n + 33), .ref o19, .ref (n + 36), .ref (n + 38), .ref o22, .ref o23, .ref o24, .ref (n + 43), .ref o26, .ref o27, .ref n] 29), ef n (tup [sv n_done 217]), et Lc (fq15 hs ks (.ref aT) (.ref ci) 2), et ci (inst 94 cd), et cd (fq16 hc kc (.ref ol) 1), et ol (lst [.ref o0, .ref o1, .ref o2, .ref o3, .ref o4, .ref o5, .ref o6, .ref o7, .ref o8, .ref o9, .ref o10, .ref o11, .ref o12, .ref o13, .ref o14, .ref o15, .ref o16, .ref o17, .ref o18, .ref o19, .ref o20, .ref o21, .ref o22, .ref o23, .ref o24, .ref o25, .ref o26, .ref o27, .ref n] (oe + 1))] [.rd 8395601325623592240556648632771639105386101 [.ref (n + 40), .str (W23) t23] (n + 40) (tup [sv n_jump 195, sv n_split 193]) (fun _ => .bool false) 0, .rd 32795286342768305172929921614907396159093 [.ref o23, .int 0 (t + 118)] o23 (tup (Value.str W23 t23 :: r23)) (fun _ => .str (W23) t23) 0, .rd 8395601325623592240556648632771639105386101 [.ref (n + 34), .str (W19) t19] (n + 34) (tup [sv n_jump 195, sv n_split 193]) (fun _ => .bool false) 0, .rd 32795286342768305172929921614907396159093 [.ref o19, .int 0 (t + 100)] o19 (tup (Value.str W19 t19 :: r19)) (fun _ => .str (W19) t19) 0, .rd 8395601325623592240556648632771639105386101 [.ref (n + 31), .str (W17) t17] (n + 31) (tup [sv n_jump 195, sv n_split 193]) (fun _ => .bool false) 0, .rd 32795286342768305172929921614907396159093 [.ref o17, .int 0 (t + 91)] o17 (tup (Value.str W17 t17 :: r17)) (fun _ => .str (W17) t17) 0, .gv 455126313168696234964340 [.str (W19) t19, sv n_jump 195] (fun _ => .bool false) 0, .rd 32795286342768305172929921614907396159093 [.ref o19, .int 0 (t + 87)] o19 (tup (Value.str W19 t19 :: r19)) (fun _ => .str (W19) t19) 0, .rd 8395601325623592240556648632771639105386101 [.ref (n + 25), .str (W13) t13] (n + 25) (tup [sv n_jump 195, sv n_split 193]) (fun _ => .bool false) 0, .rd 32795286342768305172929921614907396159093 [.ref o13, .int 0 (t + 73)] o13 (tup (Value.str W13 t13 :: r13)) (fun _ => .str (W13) t13) 0, .rd 8395601325623592240556648632771639105386101 [.ref (n + 21), .str (W10) t10] (n + 21) (tup [sv n_jump 195, sv n_split 193]) (fun _ => .bool false) 0, .rd 32795286342768305172929921614907396159093 [.ref o10, .int 0 (t + 62)] o10 (tup (Value.str W10 t10 :: r10)) (fun _ => .str (W10) t10) 0, .gv 455126313168696234964340 [.str (W13) t13, sv n_jump 195] (fun _ => .bool false) 0, .rd 32795286342768305172929921614907396159093 [.ref o13, .int 0 (t + 56)] o13 (tup (Value.str W13 t13 :: r13)) (fun _ => .str (W13) t13) 0, .rd 8395601325623592240556648632771639105386101 [.ref (n + 15), .str (W6) t6] (n + 15) (tup [sv n_jump 195, sv n_split 193]) (fun _ => .bool false) 0, .rd 32795286342768305172929921614907396159093 [.ref o6, .int 0 (t + 44)] o6 (tup (Value.str W6 t6 :: r6)) (fun _ => .str (W6) t6) 0, .rd 8395601325623592240556648632771639105386101 [.ref (n + 12), .str (W4) t4] (n + 12) (tup [sv n_jump 195, sv n_split 193]) (fun _ => .bool false) 0, .rd 32795286342768305172929921614907396159093 [.ref o4, .int 0 (t + 35)] o4 (tup (Value.str W4 t4 :: r4)) (fun _ => .str (W4) t4) 0, .gv 455126313168696234964340 [.str (W6) t6, sv n_jump 195] (fun _ => .bool false) 0, .rd 32795286342768305172929921614907396159093 [.ref o6, .int 0 (t + 31)] o6 (tup (Value.str W6 t6 :: r6)) (fun _ => .str (W6) t6) 0] := by show _ = _; cases b1 <;> kernel_rfl
theorem cp_rest_f (p : Params) (b1 b2 : Bool) (n t : Nat) (Lc aT ci cd ol oe rj : Nat) (hs hc : Nat → Int) (ks kc : Nat → Nat) (o0 o1 o2 o3 o4 o5 o6 o7 o8 o9 o10 o11 o12 o13 o14 o15 o16 o17 o18 o19 o20 o21 o22 o23 o24 o25 o26 o27 o28 t0 t1 t2 t3 t4 t5 t6 t7 t8 t9 t10 t11 t12 t13 t14 t15 t16 t17 t18 t19 t20 t21 t22 t23 t24 t25 t26 t27 t28 g0 g1 g3 g5 g7 g8 g12 g15 g16 g18 g20 g21 g25 : Nat) (W4 W6 W10 W13 W17 W19 W23 W26 : Str) (r4 r6 r10 r13 r17 r19 r23 r26 : List Value) : FinI (rn p b1 b2 (.func (bodyAt p 112) (envAt p 112 Lc)) (execsT ((bodyAt p 112).drop 2) (envAt p 112 Lc)) n t [ef o0 (tup [sv n_split t0, .int 2 g0]), ef o1 (tup [sv n_jump t1, .int 16 g1]), ef o2 (tup [sv n_mark t2]), ef o3 (tup [sv n_split t3, .int 6 g3]), ef o4 (tup (.str W4 t4 :: r4)), ef o5 (tup [sv n_jump t5, .int 14 g5]), ef o6 (tup (.str W6 t6 :: r6)), ef o7 (tup [sv n_split t7, .int 9 g7]), ef o8 (tup [sv n_jump t8, .int 13 g8]), ef o9 (tup [sv n_mark t9]), ef o10 (tup (.str W10 t10 :: r10)), ef o11 (tup [sv n_gain t11]), ef o12 (tup [sv n_jump t12, .int 7 g12]), ef o13 (tup (.str W13 t13 :: r13)), ef o14 (tup [sv n_gain t14]), ef o15 (tup [sv n_jump t15, .int 0 g15]), ef o16 (tup [sv n_split t16, .int 19 g16]), ef o17 (tup (.str W17 t17 :: r17)), ef o18 (tup [sv n_jump t18, .int 27 g18]), ef o19 (tup (.str W19 t19 :: r19)), ef o20 (tup [sv n_split t20, .int 22 g20]), ef o21 (tup [sv n_jump t21, .int 26 g21]), ef o22 (tup [sv n_mark t22]), ef o23 (tup (.str W23 t23 :: r23)), ef o24 (tup [sv n_gain t24]), ef o25 (tup [sv n_jump t25, .int 20 g25]), ef o26 (tup (.str W26 t26 :: r26)), ef o27 (tup [sv n_place t27, .ref rj]), ef o28 (tup [sv n_fail t28]), et Lc (fq15 hs ks (.ref aT) (.ref ci) 2), et ci (inst 94 cd), et cd (fq16 hc kc (.ref ol) 1), et ol (lst [.ref o0, .ref o1, .ref o2, .ref o3, .ref o4, .ref o5, .ref o6, .ref o7, .ref o8, .ref o9, .ref o10, .ref o11, .ref o12, .ref o13, .ref o14, .ref o15, .ref o16, .ref o17, .ref o18, .ref o19, .ref o20, .ref o21, .ref o22, .ref o23, .ref o24, .ref o25, .ref o26, .ref o27, .ref o28] oe)] (hy 158 (q247 (q5 (hy 20511 (q244 (q429 (q34 (q271 (q339 (hy 163 (q3 (hy 160 (q271 (q176 (hy 346034853 (q248 (hy 166 (q457 (q10 (hy 21415 (q199 (q458 (hy 168 (q459 (q22 (q277 (q460 (q97 (q324 (hy 170 (q461 (hy 171 (q462 (q309 (q463 (hy 173 (q464 (hy 174 (q465 (hy 37606131212 (q226 (q466 (hy 99127948293965184 (q467 (hy 177 (q468 (hy 782865701574962 (q469 (hy 48079536142 (q470 (q310 (q471 (q64 (hy 379848704 (q472 (hy 182 (q473 (hy 16403 (q257 (hy 183 (q474 (hy 3017107 (q475 (hy 314933270 (q311 (q476 (hy 186 (q477 (hy 3066646 (q478 (hy 188 (q479 (hy 0x5e807a01ebd7a68d00 (q480 (hy 268864794 (q265 (hy 190 (q481 (hy 0x17e01f807efdf9c3800e1c (q482 (hy 128 (q338 (hy 192 (q483 (hy 193 (q484 (hy 0x5e807a01ebd7b08042010a142 (q485 (hy 858657915371550 (q486 (q194 (hy 16415 (q221 (hy 196 (q487 (q311 (hy 43557851426 (q280 (hy 197 (q488 (hy 198 (q489 (hy 0x30404183063808e023c78e91200 (q173 (q490 (hy 200 (q491 (hy 0x192912004801200 (q492 (hy 0x194952804a01280 (q493 (hy 426349312 (q494 (hy 897221890614860 (q495 (hy 0xc7011e3c754a9528513542800a0028 (q134 (q496 (hy 206 (q497 (hy 72242323625001003 (q250 (hy 0xcb012c04b972d62c58a954f (q55 (q498 (hy 0x15ab56ab57415ab00ac02b (q226 (q55 (hy 0x562ca2b160058016005ab56805a0172d5ab56ae (q2 (hy 176 []))))))))))))))))))))))))))))))))))))))))))))))))))))))))))))))))))))))))))))))))))))))))))))))))))))))))))))))))))))))))))))))))))) [(32795286342768305172929921614907396159093, .rd 17 (fun _ => .str (W6) t6) 0), (455126313168696234964340, .gv (fun _ => .bool false) 0), (32795286342768305172929921614907396159093, .rd 16 (fun _ => .str (W4) t4) 0), (8395601325623592240556648632771639105386101, .rd 0 (fun _ => .bool false) 0), (32795286342768305172929921614907396159093, .rd 21 (fun _ => .str (W6) t6) 0), (8395601325623592240556648632771639105386101, .rd 0 (fun _ => .bool false) 0), (32795286342768305172929921614907396159093, .rd 32 (fun _ => .str (W13) t13) 0), (455126313168696234964340, .gv (fun _ => .bool false) 0), (32795286342768305172929921614907396159093, .rd 31 (fun _ => .str (W10) t10) 0), (8395601325623592240556648632771639105386101, .rd 0 (fun _ => .bool false) 0), (32795286342768305172929921614907396159093, .rd 38 (fun _ => .str (W13) t13) 0), (8395601325623592240556648632771639105386101, .rd 0 (fun _ => .bool false) 0), (32795286342768305172929921614907396159093, .rd 49 (fun _ => .str (W19) t19) 0), (455126313168696234964340, .gv (fun _ => .bool false) 0), (32795286342768305172929921614907396159093, .rd 48 (fun _ => .str (W17) t17) 0), (8395601325623592240556648632771639105386101, .rd 0 (fun _ => .bool false) 0), (32795286342768305172929921614907396159093, .rd 53 (fun _ => .str (W19) t19) 0), (8395601325623592240556648632771639105386101, .rd 0 (fun _ => .bool false) 0), (32795286342768305172929921614907396159093, .rd 64 (fun _ => .str (W26) t26) 0), (455126313168696234964340, .gv (fun _ => .bool false) 0), (32795286342768305172929921614907396159093, .rd 63 (fun _ => .str (W23) t23) 0), (8395601325623592240556648632771639105386101, .rd 0 (fun _ => .bool false) 0), (32795286342768305172929921614907396159093, .rd 70 (fun _ => .str (W26) t26) 0), (8395601325623592240556648632771639105386101, .rd 0 (fun _ => .bool false) 0)]) [6, 11, 13, 16, 19, 21, 25, 30, 32, 35, 38, 41, 43, 46, 49, 79, 80, 81, 82] (.ok (.ret (.ref (n + 3)))) (n + 50) (t + 136) [ef (n + 43) (tup [sv n_jump t25, .int 20 g25]), ef (n + 38) (tup [sv n_jump t21, .int 26 g21]), ef (n + 36) (tup [sv n_split t20, .int 22 g20]), ef (n + 33) (tup [sv n_jump t18, .int 27 g18]), ef (n + 30) (tup [sv n_split t16, .int 19 g16]), ef (n + 28) (tup [sv n_jump t15, .int 0 g15]), ef (n + 24) (tup [sv n_jump t12, .int 7 g12]), ef (n + 19) (tup [sv n_jump t8, .int 13 g8]), ef (n + 17) (tup [sv n_split t7, .int 9 g7]), ef (n + 14) (tup [sv n_jump t5, .int 14 g5]), ef (n + 11) (tup [sv n_split t3, .int 6 g3]), ef (n + 8) (tup [sv n_jump t1, .int 16 g1]), ef (n + 6) (tup [sv n_split t0, .int 2 g0]), et (n + 3) (lst [.ref (n + 6), .ref (n + 8), .ref o2, .ref (n + 11), .ref o4, .ref (n + 14), .ref o6, .ref (n + 17), .ref (n + 19), .ref o9, .ref o10, .ref o11, .ref (n + 24), .ref o13, .ref o14, .ref (n + 28), .ref (n + 30), .ref o17, .ref (n + 33), .ref o19, .ref (n + 36), .ref (n + 38), .ref o22, .ref o23, .ref o24, .ref (n + 43), .ref o26, .ref o27, .ref o28, .ref n] 30), ef n (tup [sv n_done 217]), et Lc (fq15 hs ks (.ref aT) (.ref ci) 2), et ci (inst 94 cd), et cd (fq16 hc kc (.ref ol) 1), et ol (lst [.ref o0, .ref o1, .ref o2, .ref o3, .ref o4, .ref o5, .ref o6, .ref o7, .ref o8, .ref o9, .ref o10, .ref o11, .ref o12, .ref o13, .ref o14, .ref o15, .ref o16, .ref o17, .ref o18, .ref o19, .ref o20, .ref o21, .ref o22, .ref o23, .ref o24, .ref o25, .ref o26, .ref o27, .ref o28, .ref n] (oe + 1))] [.rd 8395601325623592240556648632771639105386101 [.ref (n + 44), .str (W26) t26] (n + 44) (tup [sv n_jump 195, sv n_split 193]) (fun _ => .bool false) 0, .rd 32795286342768305172929921614907396159093 [.ref o26, .int 0 (t + 129)] o26 (tup (Value.str W26 t26 :: r26)) (fun _ => .str (W26) t26) 0, .rd 8395601325623592240556648632771639105386101 [.ref (n + 40), .str (W23) t23] (n + 40) (tup [sv n_jump 195, sv n_split 193]) (fun _ => .bool false) 0, .rd 32795286342768305172929921614907396159093 [.ref o23, .int 0 (t + 118)] o23 (tup (Value.str W23 t23 :: r23)) (fun _ => .str (W23) t23) 0, .gv 455126313168696234964340 [.str (W26) t26, sv n_jump 195] (fun _ => .bool false) 0, .rd 32795286342768305172929921614907396159093 [.ref o26, .int 0 (t + 112)] o26 (tup (Value.str W26 t26 :: r26)) (fun _ => .str (W26) t26) 0, .rd 8395601325623592240556648632771639105386101 [.ref (n + 34), .str (W19) t19] (n + 34) (tup [sv n_jump 195, sv n_split 193]) (fun _ => .bool false) 0, .rd 32795286342768305172929921614907396159093 [.ref o19, .int 0 (t + 100)] o19 (tup (Value.str W19 t19 :: r19)) (fun _ => .str (W19) t19) 0, .rd 8395601325623592240556648632771639105386101 [.ref (n + 31), .str (W17) t17] (n + 31) (tup [sv n_jump 195, sv n_split 193]) (fun _ => .bool false) 0, .rd 32795286342768305172929921614907396159093 [.ref o17, .int 0 (t + 91)] o17 (tup (Value.str W17 t17 :: r17)) (fun _ => .str (W17) t17) 0, .gv 455126313168696234964340 [.str (W19) t19, sv n_jump 195] (fun _ => .bool false) 0, .rd 32795286342768305172929921614907396159093 [.ref o19, .int 0 (t + 87)] o19 (tup (Value.str W19 t19 :: r19)) (fun _ => .str (W19) t19) 0, .rd 8395601325623592240556648632771639105386101 [.ref (n + 25), .str (W13) t13] (n + 25) (tup [sv n_jump 195, sv n_split 193]) (fun _ => .bool false) 0, .rd 32795286342768305172929921614907396159093 [.ref o13, .int 0 (t + 73)] o13 (tup (Value.str W13 t13 :: r13)) (fun _ => .str (W13) t13) 0, .rd 8395601325623592240556648632771639105386101 [.ref (n + 21), .str (W10) t10] (n + 21) (tup [sv n_jump 195, sv n_split 193]) (fun _ => .bool false) 0, .rd 32795286342768305172929921614907396159093 [.ref o10, .int 0 (t + 62)] o10 (tup (Value.str W10 t10 :: r10)) (fun _ => .str (W10) t10) 0, .gv 455126313168696234964340 [.str (W13) t13, sv n_jump 195] (fun _ => .bool false) 0, .rd 32795286342768305172929921614907396159093 [.ref o13, .int 0 (t + 56)] o13 (tup (Value.str W13 t13 :: r13)) (fun _ => .str (W13) t13) 0, .rd 8395601325623592240556648632771639105386101 [.ref (n + 15), .str (W6) t6] (n + 15) (tup [sv n_jump 195, sv n_split 193]) (fun _ => .bool false) 0, .rd 32795286342768305172929921614907396159093 [.ref o6, .int 0 (t + 44)] o6 (tup (Value.str W6 t6 :: r6)) (fun _ => .str (W6) t6) 0, .rd 8395601325623592240556648632771639105386101 [.ref (n + 12), .str (W4) t4] (n + 12) (tup [sv n_jump 195, sv n_split 193]) (fun _ => .bool false) 0, .rd 32795286342768305172929921614907396159093 [.ref o4, .int 0 (t + 35)] o4 (tup (Value.str W4 t4 :: r4)) (fun _ => .str (W4) t4) 0, .gv 455126313168696234964340 [.str (W6) t6, sv n_jump 195] (fun _ => .bool false) 0, .rd 32795286342768305172929921614907396159093 [.ref o6, .int 0 (t + 31)] o6 (tup (Value.str W6 t6 :: r6)) (fun _ => .str (W6) t6) 0] := by show _ = _; cases b1 <;> kernel_rfl
end
section
open PySem PySem.W PySem.W.X PySem.Calls PySem.Spec PyProof.Rows
theorem lw_call (p : Params) (b1 b2 : Bool) (n t : Nat) : FinT (rn p b1 b2 (.call (.ref 659) ⟨[.ref 660], []⟩) (callNo 659 (fdAt p 659) ⟨[.ref 660], []⟩ (bodyAt p 659)) n t [] (q25 []) []) [0, 1, 2, 3] (.func (bodyAt p 659) (envL p n (n + 1) (n + 2) (n + 3))) (n + 4) (t + 1) [et (n + 3) (cel none), et (n + 2) (cel none), et (n + 1) (cel none), et n (fo [ek p n_script t (.ref 660)] 1)] [] := by show _ = _; kernel_rfl
theorem lw_cells0 (p : Params) (b1 b2 : Bool) (n t : Nat) (Lw c1 c2 c3 : Nat) (hs : Nat → Int) (ks : Nat → Nat) : FinI (rn p b1 b2 (.func (bodyAt p 659) (envL p Lw c1 c2 c3)) (execsT (lS p 0 2) (envL p Lw c1 c2 c3)) n t [et Lw (fq17 hs ks (.ref 660) 1), et c1 (cel none), et c2 (cel none), et c3 (cel none), ⟨660, { cls := .type "list", data := .seq ⟨[]⟩ }, false⟩] (cond b2 (q283 (q84 (hy 132 (q6 (hy 16769 (q284 (hy 18319 []))))))) (q283 (q85 (hy 132 (q6 (hy 16769 (q284 (hy 18319 [])))))))) []) [0, 12, 13, 14, 15, 16, 17] (.ok .next) (n + 13) (t + 8) [et (n + 12) (lst [.int 25 t, .int 3 (t + 1), .int 2 (t + 2)] 0), et n (lst [.int 25 t, .int 3 (t + 1), .int 2 (t + 2)] 0), et Lw (fq18 hs ks p (.ref 660) (t + 3) (.ref n) 2), et c1 (cel (some (.ref (n + 12)))), et c2 (cel none), et c3 (cel none), ef 660 (lst [] 0)] [] := by show _ = _; cases b1 <;> cases b2 <;> kernel_rfl
theorem lw_cells1 (p : Params) (b1 b2 : Bool) (n t : Nat) (Lw c1 c2 c3 : Nat) (hs : Nat → Int) (ks : Nat → Nat) (x0 : Int) (w0 : Nat) (T0 T1 T2 : Nat → Nat) (k0 k1 k2 : Nat) : FinI (rn p b1 b2 (.func (bodyAt p 659) (envL p Lw c1 c2 c3)) (execsT (lS p 0 2) (envL p Lw c1 c2 c3)) n t [et Lw (fq17 hs ks (.ref 660) 1), et c1 (cel none), et c2 (cel none), et c3 (cel none), ⟨660, { cls := .type "list", data := .seq ⟨[.int x0 w0]⟩ }, false⟩] (cond b2 (q283 (q84 (q346 []))) (q283 (q85 (q346 [])))) [(116512372849064760722157418, .gv (fun t => .int (↑x0.natAbs) (T0 t)) k0)]) [0, 12, 13, 14, 15, 16, 17] (.ok .next) (n + 13) ((fun z => Nat.add z k0) t.succ.succ.succ.succ.succ.succ + 3) [et (n + 12) (lst [.int (↑x0.natAbs) (T0 t.succ.succ.succ.succ.succ.succ), .int 3 (t + 1), .int 2 (t + 2)] 0), et n (lst [.int 25 t, .int 3 (t + 1), .int 2 (t + 2)] 0), et Lw (fq18 hs ks p (.ref 660) (t + 3) (.ref n) 2), et c1 (cel (some (.ref (n + 12)))), et c2 (cel none), et c3 (cel none), ef 660 (lst [.int (x0) w0] 0)] [.gv 116512372849064760722157418 [.int (x0) w0] (fun t => .int (↑x0.natAbs) (T0 t)) k0] := by show _ = _; cases b1 <;> cases b2 <;> kernel_rfl
theorem lw_cells2 (p : Params) (b1 b2 : Bool) (n t : Nat) (Lw c1 c2 c3 : Nat) (hs : Nat → Int) (ks : Nat → Nat) (x0 x1 : Int) (w0 w1 : Nat) (T0 T1 T2 : Nat → Nat) (k0 k1 k2 : Nat) : FinI (rn p b1 b2 (.func (bodyAt p 659) (envL p Lw c1 c2 c3)) (execsT (lS p 0 2) (envL p Lw c1 c2 c3)) n t [et Lw (fq17 hs ks (.ref 660) 1), et c1 (cel none), et c2 (cel none), et c3 (cel none), ⟨660, { cls := .type "list", data := .seq ⟨[.int x0 w0, .int x1 w1]⟩ }, false⟩] (cond b2 (q283 (q84 (q159 (q346 [])))) (q283 (q85 (q159 (q346 []))))) [(116512372849064760722157418, .gv (fun t => .int (↑x0.natAbs) (T0 t)) k0), (116512372849064760722157418, .gv (fun t => .int (↑x1.natAbs) (T1 t)) k1)]) [0, 12, 13, 14, 15, 16, 17] (.ok .next) (n + 13) ((fun z => Nat.add z k1) (t.succ.succ.succ.succ.succ.succ.add k0).succ + 3) [et (n + 12) (lst [.int (↑x0.natAbs) (T0 t.succ.succ.succ.succ.succ.succ), .int (↑x1.natAbs) (T1 (t.succ.succ.succ.succ.succ.succ.add k0).succ), .int 2 (t + 2)] 0), et n (lst [.int 25 t, .int 3 (t + 1), .int 2 (t + 2)] 0), et Lw (fq18 hs ks p (.ref 660) (t + 3) (.ref n) 2), et c1 (cel (some (.ref (n + 12)))), et c2 (cel none), et c3 (cel none), ef 660 (lst [.int (x0) w0, .int (x1) w1] 0)] [.gv 116512372849064760722157418 [.int (x1) w1] (fun t => .int (↑x1.natAbs) (T1 t)) k1, .gv 116512372849064760722157418 [.int (x0) w0] (fun t => .int (↑x0.natAbs) (T0 t)) k0] := by show _ = _; cases b1 <;> cases b2 <;> kernel_rfl
noncomputable def lw_long1_o (p : Params) (b1 b2 : Bool) (n t : Nat) (Lw c1 c2 c3 : Nat) (hs : Nat → Int) (ks : Nat → Nat) (x0 x1 x2 : Int) (w0 w1 w2 : Nat) (vs : List Value) : Out := run ((pv0 p b1 b2)) 100000 0 none ((.func (bodyAt p 659) (envL p Lw c1 c2 c3))) ((execsT (lS p 0 2) (envL p Lw c1 c2 c3))) .ret ⟨n, t, ([et Lw (fq17 hs ks (.ref 660) 1), et c1 (cel none), et c2 (cel none), et c3 (cel none), ⟨660, { cls := .type "list", data := .seq ⟨(.int x0 w0 :: .int x1 w1 :: .int x2 w2 :: vs)⟩ }, false⟩]), (q74 (q97 (hy 129 []))),
    [], [], []⟩
theorem lw_long1 (p : Params) (b1 b2 : Bool) (n t : Nat) (Lw c1 c2 c3 : Nat) (hs : Nat → Int) (ks : Nat → Nat) (x0 x1 x2 : Int) (w0 w1 w2 : Nat) (vs : List Value) : FinS (lw_long1_o p b1 b2 n t Lw c1 c2 c3 hs ks x0 x1 x2 w0 w1 w2 vs) [0, 1, 2, 3, 4, 5, 6] 1 none (.call (.builtin "list.__getitem__") ⟨[.ref 660, .ref (n + 1)], []⟩) (n + 2) (t + 5) [⟨(n + 1), { cls := .type "slice", data := .fields ⟨[.none, .int 3 (t + 4), .none]⟩ }, true⟩, et n (lst [.int 25 t, .int 3 (t + 1), .int 2 (t + 2)] 0), et Lw (fq18 hs ks p (.ref 660) (t + 3) (.ref n) 2), et c1 (cel none), et c2 (cel none), et c3 (cel none), ef 660 (lst (Value.int x0 w0 :: Value.int x1 w1 :: Value.int x2 w2 :: vs) 0)] [] := by show _ = _; kernel_rfl
theorem lw_goals (p : Params) (b1 b2 : Bool) (n t : Nat) (Lw c1 c2 c3 : Nat) (hs : Nat → Int) (ks : Nat → Nat) (us : Nat) (cl ce : Nat) (c0 c1v c2v : Int) (d0 d1 d2 : Nat) : FinI (rn p b1 b2 (.func (bodyAt p 659) (envL p Lw c1 c2 c3)) (execsT (lS p 2 1) (envL p Lw c1 c2 c3)) n t [et Lw (fq19 hs ks (.ref 660) (.ref us) 2), et c1 (cel (some (.ref cl))), et c2 (cel none), et c3 (cel none), et cl (lst [.int c0 d0, .int c1v d1, .int c2v d2] ce)] (cond b2 (q202 (q499 (q49 (q108 (q104 (q500 (hy 19351 []))))))) (q203 (q499 (q49 (q108 (q105 (q27 (q500 (hy 19351 []))))))))) []) [5, 11, 16, 19, 20, 21, 22, 23] (.ok .next) (n + 19) (t + 55) [et (n + 13) (lst [.int ((c0.fdiv (2 ^ 2)).fmod 2) (t + 43), .int ((c0.fdiv (2 ^ 3)).fmod 2) (t + 54)] 2), et (n + 7) (lst [.int ((c0.fdiv 1).fmod 2) (t + 17), .int ((c0.fdiv (2 ^ 1)).fmod 2) (t + 28)] 2), et (n + 2) (lst [.ref (n + 7), .ref (n + 13)] 2), et Lw (fq19 hs ks (.ref 660) (.ref us) 2), et c1 (cel (some (.ref cl))), et c2 (cel none), et c3 (cel (some (.ref (n + 2)))), et cl (lst [.int (c0) d0, .int (c1v) d1, .int (c2v) d2] ce)] [] := by show _ = _; cases b1 <;> cases b2 <;> kernel_rfl
theorem lw_ends00 (p : Params) (b1 b2 : Bool) (n t : Nat) (Lw c1 c2 c3 : Nat) (hs : Nat → Int) (ks : Nat → Nat) (us : Nat) (cl ce : Nat) (c0 c1v c2v : Int) (d0 d1 d2 : Nat) (ga : Nat) : FinI (rn p b1 b2 (.func (bodyAt p 659) (envL p Lw c1 c2 c3)) (execsT (lS p 3 1) (envL p Lw c1 c2 c3)) n t [et Lw (fq19 hs ks (.ref 660) (.ref us) 2), et c1 (cel (some (.ref cl))), et c2 (cel none), et c3 (cel (some (.ref ga))), et cl (lst [.int c0 d0, .int c1v d1, .int c2v d2] ce)] (cond b2 (q104 (q501 (hy 17545 (q31 [])))) (q105 (q27 (q501 (hy 17545 (q31 [])))))) [(455126313168696235093866, .gv (fun _ => .bool false) 0), (455126313168696235093866, .gv (fun _ => .bool false) 0)]) [2, 3, 5, 8, 9, 10, 11, 12] (.ok .next) (n + 8) (t + 28) [ef (n + 5) (tup [sv n_fail (t + 26)]), ef (n + 4) (tup [sv n_fail (t + 14)]), et (n + 2) (lst [.ref (n + 4), .ref (n + 5)] 2), et Lw (fq20 hs ks p (.ref 660) (.ref us) (t + 27) (.ref (n + 2)) 3), et c1 (cel (some (.ref cl))), et c2 (cel none), et c3 (cel (some (.ref ga))), et cl (lst [.int (c0) d0, .int (c1v) d1, .int (c2v) d2] ce)] [.gv 455126313168696235093866 [.int ((c0.fdiv (2 ^ 5)).fmod 2) (t + 24), .int 1 (t + 25)] (fun _ => .bool false) 0, .gv 455126313168696235093866 [.int ((c0.fdiv (2 ^ 4)).fmod 2) (t + 12), .int 1 (t + 13)] (fun _ => .bool false) 0] := by show _ = _; cases b1 <;> cases b2 <;> kernel_rfl
theorem lw_ends01 (p : Params) (b1 b2 : Bool) (n t : Nat) (Lw c1 c2 c3 : Nat) (hs : Nat → Int) (ks : Nat → Nat) (us : Nat) (cl ce : Nat) (c0 c1v c2v : Int) (d0 d1 d2 : Nat) (ga : Nat) : FinI (rn p b1 b2 (.func (bodyAt p 659) (envL p Lw c1 c2 c3)) (execsT (lS p 3 1) (envL p Lw c1 c2 c3)) n t [et Lw (fq19 hs ks (.ref 660) (.ref us) 2), et c1 (cel (some (.ref cl))), et c2 (cel none), et c3 (cel (some (.ref ga))), et cl (lst [.int c0 d0, .int c1v d1, .int c2v d2] ce)] (cond b2 (q104 (q501 (hy 17545 (q31 [])))) (q105 (q27 (q501 (hy 17545 (q31 [])))))) [(455126313168696235093866, .gv (fun _ => .bool false) 0), (455126313168696235093866, .gv (fun _ => .bool true) 0)]) [2, 3, 5, 8, 9, 10, 11, 12] (.ok .next) (n + 8) (t + 29) [ef (n + 5) (tup [sv n_chars (t + 26), sv [] (t + 27)]), ef (n + 4) (tup [sv n_fail (t + 14)]), et (n + 2) (lst [.ref (n + 4), .ref (n + 5)] 2), et Lw (fq20 hs ks p (.ref 660) (.ref us) (t + 28) (.ref (n + 2)) 3), et c1 (cel (some (.ref cl))), et c2 (cel none), et c3 (cel (some (.ref ga))), et cl (lst [.int (c0) d0, .int (c1v) d1, .int (c2v) d2] ce)] [.gv 455126313168696235093866 [.int ((c0.fdiv (2 ^ 5)).fmod 2) (t + 24), .int 1 (t + 25)] (fun _ => .bool true) 0, .gv 455126313168696235093866 [.int ((c0.fdiv (2 ^ 4)).fmod 2) (t + 12), .int 1 (t + 13)] (fun _ => .bool false) 0] := by show _ = _; cases b1 <;> cases b2 <;> kernel_rfl
theorem lw_ends10 (p : Params) (b1 b2 : Bool) (n t : Nat) (Lw c1 c2 c3 : Nat) (hs : Nat → Int) (ks : Nat → Nat) (us : Nat) (cl ce : Nat) (c0 c1v c2v : Int) (d0 d1 d2 : Nat) (ga : Nat) : FinI (rn p b1 b2 (.func (bodyAt p 659) (envL p Lw c1 c2 c3)) (execsT (lS p 3 1) (envL p Lw c1 c2 c3)) n t [et Lw (fq19 hs ks (.ref 660) (.ref us) 2), et c1 (cel (some (.ref cl))), et c2 (cel none), et c3 (cel (some (.ref ga))), et cl (lst [.int c0 d0, .int c1v d1, .int c2v d2] ce)] (cond b2 (q104 (q501 (hy 17545 (q31 [])))) (q105 (q27 (q501 (hy 17545 (q31 [])))))) [(455126313168696235093866, .gv (fun _ => .bool true) 0), (455126313168696235093866, .gv (fun _ => .bool false) 0)]) [2, 3, 5, 8, 9, 10, 11, 12] (.ok .next) (n + 8) (t + 29) [ef (n + 5) (tup [sv n_fail (t + 27)]), ef (n + 4) (tup [sv n_chars (t + 14), sv [] (t + 15)]), et (n + 2) (lst [.ref (n + 4), .ref (n + 5)] 2), et Lw (fq20 hs ks p (.ref 660) (.ref us) (t + 28) (.ref (n + 2)) 3), et c1 (cel (some (.ref cl))), et c2 (cel none), et c3 (cel (some (.ref ga))), et cl (lst [.int (c0) d0, .int (c1v) d1, .int (c2v) d2] ce)] [.gv 455126313168696235093866 [.int ((c0.fdiv (2 ^ 5)).fmod 2) (t + 25), .int 1 (t + 26)] (fun _ => .bool false) 0, .gv 455126313168696235093866 [.int ((c0.fdiv (2 ^ 4)).fmod 2) (t + 12), .int 1 (t + 13)] (fun _ => .bool true) 0] := by show _ = _; cases b1 <;> cases b2 <;> kernel_rfl
theorem lw_ends11 (p : Params) (b1 b2 : Bool) (n t : Nat) (Lw c1 c2 c3 : Nat) (hs : Nat → Int) (ks : Nat → Nat) (us : Nat) (cl ce : Nat) (c0 c1v c2v : Int) (d0 d1 d2 : Nat) (ga : Nat) : FinI (rn p b1 b2 (.func (bodyAt p 659) (envL p Lw c1 c2 c3)) (execsT (lS p 3 1) (envL p Lw c1 c2 c3)) n t [et Lw (fq19 hs ks (.ref 660) (.ref us) 2), et c1 (cel (some (.ref cl))), et c2 (cel none), et c3 (cel (some (.ref ga))), et cl (lst [.int c0 d0, .int c1v d1, .int c2v d2] ce)] (cond b2 (q104 (q501 (hy 17545 (q31 [])))) (q105 (q27 (q501 (hy 17545 (q31 [])))))) [(455126313168696235093866, .gv (fun _ => .bool true) 0), (455126313168696235093866, .gv (fun _ => .bool true) 0)]) [2, 3, 5, 8, 9, 10, 11, 12] (.ok .next) (n + 8) (t + 30) [ef (n + 5) (tup [sv n_chars (t + 27), sv [] (t + 28)]), ef (n + 4) (tup [sv n_chars (t + 14), sv [] (t + 15)]), et (n + 2) (lst [.ref (n + 4), .ref (n + 5)] 2), et Lw (fq20 hs ks p (.ref 660) (.ref us) (t + 29) (.ref (n + 2)) 3), et c1 (cel (some (.ref cl))), et c2 (cel none), et c3 (cel (some (.ref ga))), et cl (lst [.int (c0) d0, .int (c1v) d1, .int (c2v) d2] ce)] [.gv 455126313168696235093866 [.int ((c0.fdiv (2 ^ 5)).fmod 2) (t + 25), .int 1 (t + 26)] (fun _ => .bool true) 0, .gv 455126313168696235093866 [.int ((c0.fdiv (2 ^ 4)).fmod 2) (t + 12), .int 1 (t + 13)] (fun _ => .bool true) 0] := by show _ = _; cases b1 <;> cases b2 <;> kernel_rfl
theorem lw_word0 (p : Params) (b1 b2 : Bool) (n t : Nat) (Lw c1 c2 c3 : Nat) (hs : Nat → Int) (ks : Nat → Nat) (us : Nat) (cl ce : Nat) (c0 c1v c2v : Int) (d0 d1 d2 : Nat) (ga ea : Nat) : FinI (rn p b1 b2 (.func (bodyAt p 659) (envL p Lw c1 c2 c3)) (execsT (lS p 4 1) (envL p Lw c1 c2 c3)) n t [et Lw (fq21 hs ks (.ref 660) (.ref us) (.ref ea) 3), et c1 (cel (some (.ref cl))), et c2 (cel none), et c3 (cel (some (.ref ga))), et cl (lst [.int c0 d0, .int c1v d1, .int c2v d2] ce)] (cond b2 (q160 (q1 (q0 (hy 131 (q12 (q6 (hy 16769 (q0 (q10 (q14 [])))))))))) (q285 (hy 16769 (q0 (q10 (q14 [])))))) [(116512097088030077292474218, .gv (fun t => .int 0 t) 1)]) [6, 7, 8, 9, 10] (.ok .next) (n + 6) (t + 8) [et Lw (fq22 hs ks p (.ref 660) (.ref us) (.ref ea) (t + 7) (sv [] (t + 6)) 4), et c1 (cel (some (.ref cl))), et c2 (cel none), et c3 (cel (some (.ref ga))), et cl (lst [.int (c0) d0, .int (c1v) d1, .int (c2v) d2] ce)] [.gv 116512097088030077292474218 [.int (c1v) d1, .int 6 (t + 2)] (fun t => .int 0 t) 1] := by show _ = _; cases b1 <;> cases b2 <;> kernel_rfl
theorem lw_word1 (p : Params) (b1 b2 : Bool) (n t : Nat) (Lw c1 c2 c3 : Nat) (hs : Nat → Int) (ks : Nat → Nat) (us : Nat) (cl ce : Nat) (c0 c1v c2v : Int) (d0 d1 d2 : Nat) (ga ea : Nat) (v0 : Int) (h0 : Nat) : FinI (rn p b1 b2 (.func (bodyAt p 659) (envL p Lw c1 c2 c3)) (execsT (lS p 4 1) (envL p Lw c1 c2 c3)) n t [et Lw (fq21 hs ks (.ref 660) (.ref us) (.ref ea) 3), et c1 (cel (some (.ref cl))), et c2 (cel none), et c3 (cel (some (.ref ga))), et cl (lst [.int c0 d0, .int c1v d1, .int c2v d2] ce)] (cond b2 (q312 (q72 (q56 (q14 [])))) (q285 (q313 []))) [(116512097088030077292474218, .gv (fun t => .int 1 t) 1), (116512097088030077292474218, .gv (fun t => .int (v0) t) 1), (500416356548588640944365259017385332, .gv (fun t => .str ({ cps := #[h0] }) t) 1)]) [6, 7, 8, 9, 10] (.ok .next) (n + 6) (t + 17) [et Lw (fq22 hs ks p (.ref 660) (.ref us) (.ref ea) (t + 16) (sv [h0] (t + 15)) 4), et c1 (cel (some (.ref cl))), et c2 (cel none), et c3 (cel (some (.ref ga))), et cl (lst [.int (c0) d0, .int (c1v) d1, .int (c2v) d2] ce)] [.gv 500416356548588640944365259017385332 [sv [97, 98] (t + 8), .int (v0) (t + 14)] (fun t => .str ({ cps := #[h0] }) t) 1, .gv 116512097088030077292474218 [.int (c2v.fdiv 1) (t + 12), .int 2 (t + 13)] (fun t => .int (v0) t) 1, .gv 116512097088030077292474218 [.int (c1v) d1, .int 6 (t + 2)] (fun t => .int 1 t) 1] := by show _ = _; cases b1 <;> cases b2 <;> kernel_rfl
theorem lw_word2 (p : Params) (b1 b2 : Bool) (n t : Nat) (Lw c1 c2 c3 : Nat) (hs : Nat → Int) (ks : Nat → Nat) (us : Nat) (cl ce : Nat) (c0 c1v c2v : Int) (d0 d1 d2 : Nat) (ga ea : Nat) (v0 v1 : Int) (h0 h1 : Nat) : FinI (rn p b1 b2 (.func (bodyAt p 659) (envL p Lw c1 c2 c3)) (execsT (lS p 4 1) (envL p Lw c1 c2 c3)) n t [et Lw (fq21 hs ks (.ref 660) (.ref us) (.ref ea) 3), et c1 (cel (some (.ref cl))), et c2 (cel none), et c3 (cel (some (.ref ga))), et cl (lst [.int c0 d0, .int c1v d1, .int c2v d2] ce)] (cond b2 (q312 (q72 (q313 []))) (q285 (q184 (q56 (q14 []))))) [(116512097088030077292474218, .gv (fun t => .int 2 t) 1), (116512097088030077292474218, .gv (fun t => .int (v0) t) 1), (500416356548588640944365259017385332, .gv (fun t => .str ({ cps := #[h0] }) t) 1), (116512097088030077292474218, .gv (fun t => .int (v1) t) 1), (500416356548588640944365259017385332, .gv (fun t => .str ({ cps := #[h1] }) t) 1)]) [6, 7, 8, 9, 10] (.ok .next) (n + 6) (t + 28) [et Lw (fq22 hs ks p (.ref 660) (.ref us) (.ref ea) (t + 27) (sv [h0, h1] (t + 26)) 4), et c1 (cel (some (.ref cl))), et c2 (cel none), et c3 (cel (some (.ref ga))), et cl (lst [.int (c0) d0, .int (c1v) d1, .int (c2v) d2] ce)] [.gv 500416356548588640944365259017385332 [sv [97, 98] (t + 18), .int (v1) (t + 24)] (fun t => .str ({ cps := #[h1] }) t) 1, .gv 116512097088030077292474218 [.int (c2v.fdiv (2 ^ 1)) (t + 22), .int 2 (t + 23)] (fun t => .int (v1) t) 1, .gv 500416356548588640944365259017385332 [sv [97, 98] (t + 8), .int (v0) (t + 14)] (fun t => .str ({ cps := #[h0] }) t) 1, .gv 116512097088030077292474218 [.int (c2v.fdiv 1) (t + 12), .int 2 (t + 13)] (fun t => .int (v0) t) 1, .gv 116512097088030077292474218 [.int (c1v) d1, .int 6 (t + 2)] (fun t => .int 2 t) 1] := by show _ = _; cases b1 <;> cases b2 <;> kernel_rfl
theorem lw_word3 (p : Params) (b1 b2 : Bool) (n t : Nat) (Lw c1 c2 c3 : Nat) (hs : Nat → Int) (ks : Nat → Nat) (us : Nat) (cl ce : Nat) (c0 c1v c2v : Int) (d0 d1 d2 : Nat) (ga ea : Nat) (v0 v1 v2 : Int) (h0 h1 h2 : Nat) : FinI (rn p b1 b2 (.func (bodyAt p 659) (envL p Lw c1 c2 c3)) (execsT (lS p 4 1) (envL p Lw c1 c2 c3)) n t [et Lw (fq21 hs ks (.ref 660) (.ref us) (.ref ea) 3), et c1 (cel (some (.ref cl))), et c2 (cel none), et c3 (cel (some (.ref ga))), et cl (lst [.int c0 d0, .int c1v d1, .int c2v d2] ce)] (cond b2 (q312 (q72 (q184 (q56 (q14 []))))) (q285 (q184 (q313 [])))) [(116512097088030077292474218, .gv (fun t => .int 3 t) 1), (116512097088030077292474218, .gv (fun t => .int (v0) t) 1), (500416356548588640944365259017385332, .gv (fun t => .str ({ cps := #[h0] }) t) 1), (116512097088030077292474218, .gv (fun t => .int (v1) t) 1), (500416356548588640944365259017385332, .gv (fun t => .str ({ cps := #[h1] }) t) 1), (116512097088030077292474218, .gv (fun t => .int (v2) t) 1), (500416356548588640944365259017385332, .gv (fun t => .str ({ cps := #[h2] }) t) 1)]) [6, 7, 8, 9, 10] (.ok .next) (n + 6) (t + 38) [et Lw (fq22 hs ks p (.ref 660) (.ref us) (.ref ea) (t + 37) (sv [h0, h1, h2] (t + 36)) 4), et c1 (cel (some (.ref cl))), et c2 (cel none), et c3 (cel (some (.ref ga))), et cl (lst [.int (c0) d0, .int (c1v) d1, .int (c2v) d2] ce)] [.gv 500416356548588640944365259017385332 [sv [97, 98] (t + 28), .int (v2) (t + 34)] (fun t => .str ({ cps := #[h2] }) t) 1, .gv 116512097088030077292474218 [.int (c2v.fdiv (2 ^ 2)) (t + 32), .int 2 (t + 33)] (fun t => .int (v2) t) 1, .gv 500416356548588640944365259017385332 [sv [97, 98] (t + 18), .int (v1) (t + 24)] (fun t => .str ({ cps := #[h1] }) t) 1, .gv 116512097088030077292474218 [.int (c2v.fdiv (2 ^ 1)) (t + 22), .int 2 (t + 23)] (fun t => .int (v1) t) 1, .gv 500416356548588640944365259017385332 [sv [97, 98] (t + 8), .int (v0) (t + 14)] (fun t => .str ({ cps := #[h0] }) t) 1, .gv 116512097088030077292474218 [.int (c2v.fdiv 1) (t + 12), .int 2 (t + 13)] (fun t => .int (v0) t) 1, .gv 116512097088030077292474218 [.int (c1v) d1, .int 6 (t + 2)] (fun t => .int 3 t) 1] := by show _ = _; cases b1 <;> cases b2 <;> kernel_rfl
theorem lw_word4 (p : Params) (b1 b2 : Bool) (n t : Nat) (Lw c1 c2 c3 : Nat) (hs : Nat → Int) (ks : Nat → Nat) (us : Nat) (cl ce : Nat) (c0 c1v c2v : Int) (d0 d1 d2 : Nat) (ga ea : Nat) (v0 v1 v2 v3 : Int) (h0 h1 h2 h3 : Nat) : FinI (rn p b1 b2 (.func (bodyAt p 659) (envL p Lw c1 c2 c3)) (execsT (lS p 4 1) (envL p Lw c1 c2 c3)) n t [et Lw (fq21 hs ks (.ref 660) (.ref us) (.ref ea) 3), et c1 (cel (some (.ref cl))), et c2 (cel none), et c3 (cel (some (.ref ga))), et cl (lst [.int c0 d0, .int c1v d1, .int c2v d2] ce)] (cond b2 (q312 (q72 (q184 (q313 [])))) (q285 (q184 (q184 (q56 (q14 [])))))) [(116512097088030077292474218, .gv (fun t => .int 4 t) 1), (116512097088030077292474218, .gv (fun t => .int (v0) t) 1), (500416356548588640944365259017385332, .gv (fun t => .str ({ cps := #[h0] }) t) 1), (116512097088030077292474218, .gv (fun t => .int (v1) t) 1), (500416356548588640944365259017385332, .gv (fun t => .str ({ cps := #[h1] }) t) 1), (116512097088030077292474218, .gv (fun t => .int (v2) t) 1), (500416356548588640944365259017385332, .gv (fun t => .str ({ cps := #[h2] }) t) 1), (116512097088030077292474218, .gv (fun t => .int (v3) t) 1), (500416356548588640944365259017385332, .gv (fun t => .str ({ cps := #[h3] }) t) 1)]) [6, 7, 8, 9, 10] (.ok .next) (n + 6) (t + 48) [et Lw (fq22 hs ks p (.ref 660) (.ref us) (.ref ea) (t + 47) (sv [h0, h1, h2, h3] (t + 46)) 4), et c1 (cel (some (.ref cl))), et c2 (cel none), et c3 (cel (some (.ref ga))), et cl (lst [.int (c0) d0, .int (c1v) d1, .int (c2v) d2] ce)] [.gv 500416356548588640944365259017385332 [sv [97, 98] (t + 38), .int (v3) (t + 44)] (fun t => .str ({ cps := #[h3] }) t) 1, .gv 116512097088030077292474218 [.int (c2v.fdiv (2 ^ 3)) (t + 42), .int 2 (t + 43)] (fun t => .int (v3) t) 1, .gv 500416356548588640944365259017385332 [sv [97, 98] (t + 28), .int (v2) (t + 34)] (fun t => .str ({ cps := #[h2] }) t) 1, .gv 116512097088030077292474218 [.int (c2v.fdiv (2 ^ 2)) (t + 32), .int 2 (t + 33)] (fun t => .int (v2) t) 1, .gv 500416356548588640944365259017385332 [sv [97, 98] (t + 18), .int (v1) (t + 24)] (fun t => .str ({ cps := #[h1] }) t) 1, .gv 116512097088030077292474218 [.int (c2v.fdiv (2 ^ 1)) (t + 22), .int 2 (t + 23)] (fun t => .int (v1) t) 1, .gv 500416356548588640944365259017385332 [sv [97, 98] (t + 8), .int (v0) (t + 14)] (fun t => .str ({ cps := #[h0] }) t) 1, .gv 116512097088030077292474218 [.int (c2v.fdiv 1) (t + 12), .int 2 (t + 13)] (fun t => .int (v0) t) 1, .gv 116512097088030077292474218 [.int (c1v) d1, .int 6 (t + 2)] (fun t => .int 4 t) 1] := by show _ = _; cases b1 <;> cases b2 <;> kernel_rfl
theorem lw_word5 (p : Params) (b1 b2 : Bool) (n t : Nat) (Lw c1 c2 c3 : Nat) (hs : Nat → Int) (ks : Nat → Nat) (us : Nat) (cl ce : Nat) (c0 c1v c2v : Int) (d0 d1 d2 : Nat) (ga ea : Nat) (v0 v1 v2 v3 v4 : Int) (h0 h1 h2 h3 h4 : Nat) : FinI (rn p b1 b2 (.func (bodyAt p 659) (envL p Lw c1 c2 c3)) (execsT (lS p 4 1) (envL p Lw c1 c2 c3)) n t [et Lw (fq21 hs ks (.ref 660) (.ref us) (.ref ea) 3), et c1 (cel (some (.ref cl))), et c2 (cel none), et c3 (cel (some (.ref ga))), et cl (lst [.int c0 d0, .int c1v d1, .int c2v d2] ce)] (cond b2 (q312 (q72 (q184 (q184 (q56 (q14 [])))))) (q285 (q184 (q184 (q313 []))))) [(116512097088030077292474218, .gv (fun t => .int 5 t) 1), (116512097088030077292474218, .gv (fun t => .int (v0) t) 1), (500416356548588640944365259017385332, .gv (fun t => .str ({ cps := #[h0] }) t) 1), (116512097088030077292474218, .gv (fun t => .int (v1) t) 1), (500416356548588640944365259017385332, .gv (fun t => .str ({ cps := #[h1] }) t) 1), (116512097088030077292474218, .gv (fun t => .int (v2) t) 1), (500416356548588640944365259017385332, .gv (fun t => .str ({ cps := #[h2] }) t) 1), (116512097088030077292474218, .gv (fun t => .int (v3) t) 1), (500416356548588640944365259017385332, .gv (fun t => .str ({ cps := #[h3] }) t) 1), (116512097088030077292474218, .gv (fun t => .int (v4) t) 1), (500416356548588640944365259017385332, .gv (fun t => .str ({ cps := #[h4] }) t) 1)]) [6, 7, 8, 9, 10] (.ok .next) (n + 6) (t + 58) [et Lw (fq22 hs ks p (.ref 660) (.ref us) (.ref ea) (t + 57) (sv [h0, h1, h2, h3, h4] (t + 56)) 4), et c1 (cel (some (.ref cl))), et c2 (cel none), et c3 (cel (some (.ref ga))), et cl (lst [.int (c0) d0, .int (c1v) d1, .int (c2v) d2] ce)] [.gv 500416356548588640944365259017385332 [sv [97, 98] (t + 48), .int (v4) (t + 54)] (fun t => .str ({ cps := #[h4] }) t) 1, .gv 116512097088030077292474218 [.int (c2v.fdiv (2 ^ 4)) (t + 52), .int 2 (t + 53)] (fun t => .int (v4) t) 1, .gv 500416356548588640944365259017385332 [sv [97, 98] (t + 38), .int (v3) (t + 44)] (fun t => .str ({ cps := #[h3] }) t) 1, .gv 116512097088030077292474218 [.int (c2v.fdiv (2 ^ 3)) (t + 42), .int 2 (t + 43)] (fun t => .int (v3) t) 1, .gv 500416356548588640944365259017385332 [sv [97, 98] (t + 28), .int (v2) (t + 34)] (fun t => .str ({ cps := #[h2] }) t) 1, .gv 116512097088030077292474218 [.int (c2v.fdiv (2 ^ 2)) (t + 32), .int 2 (t + 33)] (fun t => .int (v2) t) 1, .gv 500416356548588640944365259017385332 [sv [97, 98] (t + 18), .int (v1) (t + 24)] (fun t => .str ({ cps := #[h1] }) t) 1, .gv 116512097088030077292474218 [.int (c2v.fdiv (2 ^ 1)) (t + 22), .int 2 (t + 23)] (fun t => .int (v1) t) 1, .gv 500416356548588640944365259017385332 [sv [97, 98] (t + 8), .int (v0) (t + 14)] (fun t => .str ({ cps := #[h0] }) t) 1, .gv 116512097088030077292474218 [.int (c2v.fdiv 1) (t + 12), .int 2 (t + 13)] (fun t => .int (v0) t) 1, .gv 116512097088030077292474218 [.int (c1v) d1, .int 6 (t + 2)] (fun t => .int 5 t) 1] := by show _ = _; cases b1 <;> cases b2 <;> kernel_rfl
noncomputable def lw_lots_o (p : Params) (b1 b2 : Bool) (n t : Nat) (Lw c1 c2 c3 : Nat) (hs : Nat → Int) (ks : Nat → Nat) (us : Nat) (cl ce ga ea g0 g1 : Nat) (g00 g01 g10 g11 : Int) (gt gp : Nat → Nat) (wd_ : Str) (wt : Nat) : Out := run ((pv0 p b1 b2)) 100000 0 none ((.func (bodyAt p 659) (envL p Lw c1 c2 c3))) ((execsT (lS p 5 2) (envL p Lw c1 c2 c3))) .ret ⟨n, t, ([et Lw (fo [eh hs ks 0 n_script (.ref 660), eh hs ks 1 n_usual (.ref us), eh hs ks 2 n_ends (.ref ea), eh hs ks 3 n_word (.str wd_ wt)] 4), et c1 (cel (some (.ref cl))), et c2 (cel none), et c3 (cel (some (.ref ga))), et ga (lst [.ref g0, .ref g1] (gp 0)), et g0 (lst [.int g00 (gt 0), .int g01 (gt 1)] (gp 1)), et g1 (lst [.int g10 (gt 2), .int g11 (gt 3)] (gp 2))]), (q17 (q44 (q20 []))),
    [], [], []⟩
theorem lw_lots (p : Params) (b1 b2 : Bool) (n t : Nat) (Lw c1 c2 c3 : Nat) (hs : Nat → Int) (ks : Nat → Nat) (us : Nat) (cl ce ga ea g0 g1 : Nat) (g00 g01 g10 g11 : Int) (gt gp : Nat → Nat) (wd_ : Str) (wt : Nat) : FinS (lw_lots_o p b1 b2 n t Lw c1 c2 c3 hs ks us cl ce ga ea g0 g1 g00 g01 g10 g11 gt gp wd_ wt) [0, 2, 3, 4, 5, 6, 7, 8, 9] 1 none (fC p 6 Lw c1 c2 c3 (n + 2)) (n + 3) (t + 4) [et (n + 2) (ri [.int 0 0, .int 2 0, .int 1 0]), et n (lst [] 0), et Lw (fo [eh hs ks 0 n_script (.ref 660), eh hs ks 1 n_usual (.ref us), eh hs ks 2 n_ends (.ref ea), eh hs ks 3 n_word (.str (wd_) wt), ek p n_lots t (.ref n)] 5), et c1 (cel (some (.ref cl))), et c2 (cel none), et c3 (cel (some (.ref ga))), et ga (lst [.ref g0, .ref g1] (gp 0)), et g0 (lst [.int (g00) (gt 0), .int (g01) (gt 1)] (gp 1)), et g1 (lst [.int (g10) (gt 2), .int (g11) (gt 3)] (gp 2))] [] := by show _ = _; cases b1 <;> kernel_rfl
theorem lw_lot0_00 (p : Params) (b1 b2 : Bool) (n t : Nat) (Lw c1 c2 c3 it : Nat) (hs : Nat → Int) (ks : Nat → Nat) (us : Nat) (cl ce ga ea g0 g1 : Nat) (g00 g01 g10 g11 : Int) (gt gp : Nat → Nat) (wd_ : Str) (wt : Nat) (lo le l0 si : Nat) : FinT (rn p b1 b2 (fC p 6 Lw c1 c2 c3 it) (den (fC p 6 Lw c1 c2 c3 it)) n t [et Lw (fq23 hs ks (.ref 660) (.ref us) (.ref ea) (.str wd_ wt) (.ref lo) 5), et c1 (cel (some (.ref cl))), et c2 (cel none), et c3 (cel (some (.ref ga))), et ga (lst [.ref g0, .ref g1] (gp 0)), et g0 (lst [.int g00 (gt 0), .int g01 (gt 1)] (gp 1)), et g1 (lst [.int g10 (gt 2), .int g11 (gt 3)] (gp 2)), et it (ri [.int 0 0, .int 2 0, .int 1 0]), et lo (lst [] le)] (cond b2 (q502 (q121 (q122 (q228 (q503 (q84 (q348 []))))))) (q504 (q121 (q122 (q230 (q503 (q85 (q348 [])))))))) [(455126313168696235093866, .gv (fun _ => .bool true) 0), (455126313168696235093866, .gv (fun _ => .bool true) 0), (455126313168696235093866, .gv (fun _ => .bool false) 0), (455126313168696235093866, .gv (fun _ => .bool false) 0)]) [2, 3, 5, 23, 26, 27, 28, 29, 30, 31, 32, 33, 34] (fC p 6 Lw c1 c2 c3 it) (n + 26) (t + 35) [ef (n + 23) (tup [sv n_fail (t + 34)]), ef (n + 22) (tup [sv n_any (t + 31), sv [97, 98] (t + 17)]), et (n + 20) (lst [.ref (n + 22), .ref (n + 23)] 2), et (n + 2) (lst [sv [97, 98] (t + 17), sv [] (t + 27)] 2), et Lw (fq24 hs ks p (.ref 660) (.ref us) (.ref ea) (.str (wd_) wt) (.ref lo) (t + 28) (.ref (n + 2)) 6), et c1 (cel (some (.ref cl))), et c2 (cel (some (.int 0 t))), et c3 (cel (some (.ref ga))), et ga (lst [.ref g0, .ref g1] (gp 0)), et g0 (lst [.int (g00) (gt 0), .int (g01) (gt 1)] (gp 1)), et g1 (lst [.int (g10) (gt 2), .int (g11) (gt 3)] (gp 2)), et it (ri [.int 1 0, .int 1 0, .int 1 0]), et lo (lst [.ref (n + 20)] (le + 1))] [.gv 455126313168696235093866 [.int (g01) (gt 1), .int 1 (t + 18)] (fun _ => .bool false) 0, .gv 455126313168696235093866 [.int (g00) (gt 0), .int 1 (t + 18)] (fun _ => .bool false) 0, .gv 455126313168696235093866 [.int (g01) (gt 1), .int 0 (t + 4)] (fun _ => .bool true) 0, .gv 455126313168696235093866 [.int (g00) (gt 0), .int 0 (t + 4)] (fun _ => .bool true) 0] := by show _ = _; cases b1 <;> cases b2 <;> kernel_rfl
theorem lw_lot0_01 (p : Params) (b1 b2 : Bool) (n t : Nat) (Lw c1 c2 c3 it : Nat) (hs : Nat → Int) (ks : Nat → Nat) (us : Nat) (cl ce ga ea g0 g1 : Nat) (g00 g01 g10 g11 : Int) (gt gp : Nat → Nat) (wd_ : Str) (wt : Nat) (lo le l0 si : Nat) : FinT (rn p b1 b2 (fC p 6 Lw c1 c2 c3 it) (den (fC p 6 Lw c1 c2 c3 it)) n t [et Lw (fq23 hs ks (.ref 660) (.ref us) (.ref ea) (.str wd_ wt) (.ref lo) 5), et c1 (cel (some (.ref cl))), et c2 (cel none), et c3 (cel (some (.ref ga))), et ga (lst [.ref g0, .ref g1] (gp 0)), et g0 (lst [.int g00 (gt 0), .int g01 (gt 1)] (gp 1)), et g1 (lst [.int g10 (gt 2), .int g11 (gt 3)] (gp 2)), et it (ri [.int 0 0, .int 2 0, .int 1 0]), et lo (lst [] le)] (cond b2 (q502 (q349 (q228 (q229 (q59 (q231 (q124 (q84 (q232 []))))))))) (q504 (q349 (q230 (q229 (q59 (q231 (q124 (q85 (q232 [])))))))))) [(455126313168696235093866, .gv (fun _ => .bool true) 0), (455126313168696235093866, .gv (fun _ => .bool false) 0), (455126313168696235093866, .gv (fun _ => .bool false) 0), (455126313168696235093866, .gv (fun _ => .bool true) 0)]) [2, 3, 5, 23, 26, 27, 28, 29, 30, 31, 32, 33, 34] (fC p 6 Lw c1 c2 c3 it) (n + 26) (t + 33) [ef (n + 23) (tup [sv n_any (t + 32), sv [98] (t + 25)]), ef (n + 22) (tup [sv n_any (t + 29), sv [97] (t + 12)]), et (n + 20) (lst [.ref (n + 22), .ref (n + 23)] 2), et (n + 2) (lst [sv [97] (t + 12), sv [98] (t + 25)] 2), et Lw (fq24 hs ks p (.ref 660) (.ref us) (.ref ea) (.str (wd_) wt) (.ref lo) (t + 26) (.ref (n + 2)) 6), et c1 (cel (some (.ref cl))), et c2 (cel (some (.int 0 t))), et c3 (cel (some (.ref ga))), et ga (lst [.ref g0, .ref g1] (gp 0)), et g0 (lst [.int (g00) (gt 0), .int (g01) (gt 1)] (gp 1)), et g1 (lst [.int (g10) (gt 2), .int (g11) (gt 3)] (gp 2)), et it (ri [.int 1 0, .int 1 0, .int 1 0]), et lo (lst [.ref (n + 20)] (le + 1))] [.gv 455126313168696235093866 [.int (g01) (gt 1), .int 1 (t + 15)] (fun _ => .bool true) 0, .gv 455126313168696235093866 [.int (g00) (gt 0), .int 1 (t + 15)] (fun _ => .bool false) 0, .gv 455126313168696235093866 [.int (g01) (gt 1), .int 0 (t + 4)] (fun _ => .bool false) 0, .gv 455126313168696235093866 [.int (g00) (gt 0), .int 0 (t + 4)] (fun _ => .bool true) 0] := by show _ = _; cases b1 <;> cases b2 <;> kernel_rfl
theorem lw_lot0_10 (p : Params) (b1 b2 : Bool) (n t : Nat) (Lw c1 c2 c3 it : Nat) (hs : Nat → Int) (ks : Nat → Nat) (us : Nat) (cl ce ga ea g0 g1 : Nat) (g00 g01 g10 g11 : Int) (gt gp : Nat → Nat) (wd_ : Str) (wt : Nat) (lo le l0 si : Nat) : FinT (rn p b1 b2 (fC p 6 Lw c1 c2 c3 it) (den (fC p 6 Lw c1 c2 c3 it)) n t [et Lw (fq23 hs ks (.ref 660) (.ref us) (.ref ea) (.str wd_ wt) (.ref lo) 5), et c1 (cel (some (.ref cl))), et c2 (cel none), et c3 (cel (some (.ref ga))), et ga (lst [.ref g0, .ref g1] (gp 0)), et g0 (lst [.int g00 (gt 0), .int g01 (gt 1)] (gp 1)), et g1 (lst [.int g10 (gt 2), .int g11 (gt 3)] (gp 2)), et it (ri [.int 0 0, .int 2 0, .int 1 0]), et lo (lst [] le)] (cond b2 (q505 (q121 (q122 (q228 (q506 (q84 (q232 []))))))) (q507 (q121 (q122 (q230 (q506 (q85 (q232 [])))))))) [(455126313168696235093866, .gv (fun _ => .bool false) 0), (455126313168696235093866, .gv (fun _ => .bool true) 0), (455126313168696235093866, .gv (fun _ => .bool true) 0), (455126313168696235093866, .gv (fun _ => .bool false) 0)]) [2, 3, 5, 23, 26, 27, 28, 29, 30, 31, 32, 33, 34] (fC p 6 Lw c1 c2 c3 it) (n + 26) (t + 33) [ef (n + 23) (tup [sv n_any (t + 32), sv [97] (t + 23)]), ef (n + 22) (tup [sv n_any (t + 29), sv [98] (t + 14)]), et (n + 20) (lst [.ref (n + 22), .ref (n + 23)] 2), et (n + 2) (lst [sv [98] (t + 14), sv [97] (t + 23)] 2), et Lw (fq24 hs ks p (.ref 660) (.ref us) (.ref ea) (.str (wd_) wt) (.ref lo) (t + 26) (.ref (n + 2)) 6), et c1 (cel (some (.ref cl))), et c2 (cel (some (.int 0 t))), et c3 (cel (some (.ref ga))), et ga (lst [.ref g0, .ref g1] (gp 0)), et g0 (lst [.int (g00) (gt 0), .int (g01) (gt 1)] (gp 1)), et g1 (lst [.int (g10) (gt 2), .int (g11) (gt 3)] (gp 2)), et it (ri [.int 1 0, .int 1 0, .int 1 0]), et lo (lst [.ref (n + 20)] (le + 1))] [.gv 455126313168696235093866 [.int (g01) (gt 1), .int 1 (t + 15)] (fun _ => .bool false) 0, .gv 455126313168696235093866 [.int (g00) (gt 0), .int 1 (t + 15)] (fun _ => .bool true) 0, .gv 455126313168696235093866 [.int (g01) (gt 1), .int 0 (t + 4)] (fun _ => .bool true) 0, .gv 455126313168696235093866 [.int (g00) (gt 0), .int 0 (t + 4)] (fun _ => .bool false) 0] := by show _ = _; cases b1 <;> cases b2 <;> kernel_rfl
theorem lw_lot0_11 (p : Params) (b1 b2 : Bool) (n t : Nat) (Lw c1 c2 c3 it : Nat) (hs : Nat → Int) (ks : Nat → Nat) (us : Nat) (cl ce ga ea g0 g1 : Nat) (g00 g01 g10 g11 : Int) (gt gp : Nat → Nat) (wd_ : Str) (wt : Nat) (lo le l0 si : Nat) : FinT (rn p b1 b2 (fC p 6 Lw c1 c2 c3 it) (den (fC p 6 Lw c1 c2 c3 it)) n t [et Lw (fq23 hs ks (.ref 660) (.ref us) (.ref ea) (.str wd_ wt) (.ref lo) 5), et c1 (cel (some (.ref cl))), et c2 (cel none), et c3 (cel (some (.ref ga))), et ga (lst [.ref g0, .ref g1] (gp 0)), et g0 (lst [.int g00 (gt 0), .int g01 (gt 1)] (gp 1)), et g1 (lst [.int g10 (gt 2), .int g11 (gt 3)] (gp 2)), et it (ri [.int 0 0, .int 2 0, .int 1 0]), et lo (lst [] le)] (cond b2 (q505 (q349 (q228 (q231 (q27 (q231 (q124 (q84 (q350 []))))))))) (q507 (q349 (q230 (q231 (q27 (q231 (q124 (q85 (q350 [])))))))))) [(455126313168696235093866, .gv (fun _ => .bool false) 0), (455126313168696235093866, .gv (fun _ => .bool false) 0), (455126313168696235093866, .gv (fun _ => .bool true) 0), (455126313168696235093866, .gv (fun _ => .bool true) 0)]) [2, 3, 5, 23, 26, 27, 28, 29, 30, 31, 32, 33, 34] (fC p 6 Lw c1 c2 c3 it) (n + 26) (t + 35) [ef (n + 23) (tup [sv n_any (t + 34), sv [97, 98] (t + 27)]), ef (n + 22) (tup [sv n_fail (t + 31)]), et (n + 20) (lst [.ref (n + 22), .ref (n + 23)] 2), et (n + 2) (lst [sv [] (t + 13), sv [97, 98] (t + 27)] 2), et Lw (fq24 hs ks p (.ref 660) (.ref us) (.ref ea) (.str (wd_) wt) (.ref lo) (t + 28) (.ref (n + 2)) 6), et c1 (cel (some (.ref cl))), et c2 (cel (some (.int 0 t))), et c3 (cel (some (.ref ga))), et ga (lst [.ref g0, .ref g1] (gp 0)), et g0 (lst [.int (g00) (gt 0), .int (g01) (gt 1)] (gp 1)), et g1 (lst [.int (g10) (gt 2), .int (g11) (gt 3)] (gp 2)), et it (ri [.int 1 0, .int 1 0, .int 1 0]), et lo (lst [.ref (n + 20)] (le + 1))] [.gv 455126313168696235093866 [.int (g01) (gt 1), .int 1 (t + 14)] (fun _ => .bool true) 0, .gv 455126313168696235093866 [.int (g00) (gt 0), .int 1 (t + 14)] (fun _ => .bool true) 0, .gv 455126313168696235093866 [.int (g01) (gt 1), .int 0 (t + 4)] (fun _ => .bool false) 0, .gv 455126313168696235093866 [.int (g00) (gt 0), .int 0 (t + 4)] (fun _ => .bool false) 0] := by show _ = _; cases b1 <;> cases b2 <;> kernel_rfl
theorem lw_lot1_00 (p : Params) (b1 b2 : Bool) (n t : Nat) (Lw c1 c2 c3 it : Nat) (hs : Nat → Int) (ks : Nat → Nat) (us : Nat) (cl ce ga ea g0 g1 : Nat) (g00 g01 g10 g11 : Int) (gt gp : Nat → Nat) (wd_ : Str) (wt : Nat) (lo le l0 si : Nat) (hv ht : Nat) : FinT (rn p b1 b2 (fC p 6 Lw c1 c2 c3 it) (den (fC p 6 Lw c1 c2 c3 it)) n t [et Lw (fq25 hs ks (.ref 660) (.ref us) (.ref ea) (.str wd_ wt) (.ref lo) (.ref si) 6), et c1 (cel (some (.ref cl))), et c2 (cel (some (.int 0 ht))), et c3 (cel (some (.ref ga))), et ga (lst [.ref g0, .ref g1] (gp 0)), et g0 (lst [.int g00 (gt 0), .int g01 (gt 1)] (gp 1)), et g1 (lst [.int g10 (gt 2), .int g11 (gt 3)] (gp 2)), et it (ri [.int 1 0, .int 1 0, .int 1 0]), et lo (lst [.ref l0] le)] (cond b2 (q120 (q202 (q233 (q27 (q233 (q228 (q127 (q12 (q59 (q351 (q84 (q348 [])))))))))))) (q120 (q203 (q233 (q27 (q233 (q230 (q127 (q12 (q59 (q351 (q85 (q348 []))))))))))))) [(455126313168696235093866, .gv (fun _ => .bool true) 0), (455126313168696235093866, .gv (fun _ => .bool true) 0), (455126313168696235093866, .gv (fun _ => .bool false) 0), (455126313168696235093866, .gv (fun _ => .bool false) 0)]) [2, 3, 5, 23, 26, 27, 28, 29, 30, 31, 32, 33, 34] (fC p 6 Lw c1 c2 c3 it) (n + 26) (t + 35) [ef (n + 23) (tup [sv n_fail (t + 34)]), ef (n + 22) (tup [sv n_any (t + 31), sv [97, 98] (t + 17)]), et (n + 20) (lst [.ref (n + 22), .ref (n + 23)] 2), et (n + 2) (lst [sv [97, 98] (t + 17), sv [] (t + 27)] 2), et Lw (fq25 hs ks (.ref 660) (.ref us) (.ref ea) (.str (wd_) wt) (.ref lo) (.ref (n + 2)) 6), et c1 (cel (some (.ref cl))), et c2 (cel (some (.int 1 t))), et c3 (cel (some (.ref ga))), et ga (lst [.ref g0, .ref g1] (gp 0)), et g0 (lst [.int (g00) (gt 0), .int (g01) (gt 1)] (gp 1)), et g1 (lst [.int (g10) (gt 2), .int (g11) (gt 3)] (gp 2)), et it (ri [.int 2 0, .int 0 0, .int 1 0]), et lo (lst [.ref l0, .ref (n + 20)] (le + 1))] [.gv 455126313168696235093866 [.int (g11) (gt 3), .int 1 (t + 18)] (fun _ => .bool false) 0, .gv 455126313168696235093866 [.int (g10) (gt 2), .int 1 (t + 18)] (fun _ => .bool false) 0, .gv 455126313168696235093866 [.int (g11) (gt 3), .int 0 (t + 4)] (fun _ => .bool true) 0, .gv 455126313168696235093866 [.int (g10) (gt 2), .int 0 (t + 4)] (fun _ => .bool true) 0] := by show _ = _; cases b1 <;> cases b2 <;> kernel_rfl
theorem lw_lot1_01 (p : Params) (b1 b2 : Bool) (n t : Nat) (Lw c1 c2 c3 it : Nat) (hs : Nat → Int) (ks : Nat → Nat) (us : Nat) (cl ce ga ea g0 g1 : Nat) (g00 g01 g10 g11 : Int) (gt gp : Nat → Nat) (wd_ : Str) (wt : Nat) (lo le l0 si : Nat) (hv ht : Nat) : FinT (rn p b1 b2 (fC p 6 Lw c1 c2 c3 it) (den (fC p 6 Lw c1 c2 c3 it)) n t [et Lw (fq25 hs ks (.ref 660) (.ref us) (.ref ea) (.str wd_ wt) (.ref lo) (.ref si) 6), et c1 (cel (some (.ref cl))), et c2 (cel (some (.int 0 ht))), et c3 (cel (some (.ref ga))), et ga (lst [.ref g0, .ref g1] (gp 0)), et g0 (lst [.int g00 (gt 0), .int g01 (gt 1)] (gp 1)), et g1 (lst [.int g10 (gt 2), .int g11 (gt 3)] (gp 2)), et it (ri [.int 1 0, .int 1 0, .int 1 0]), et lo (lst [.ref l0] le)] (cond b2 (q120 (q202 (q233 (q27 (q352 (q228 (q508 (q84 (q232 []))))))))) (q120 (q203 (q233 (q27 (q352 (q230 (q508 (q85 (q232 [])))))))))) [(455126313168696235093866, .gv (fun _ => .bool true) 0), (455126313168696235093866, .gv (fun _ => .bool false) 0), (455126313168696235093866, .gv (fun _ => .bool false) 0), (455126313168696235093866, .gv (fun _ => .bool true) 0)]) [2, 3, 5, 23, 26, 27, 28, 29, 30, 31, 32, 33, 34] (fC p 6 Lw c1 c2 c3 it) (n + 26) (t + 33) [ef (n + 23) (tup [sv n_any (t + 32), sv [98] (t + 25)]), ef (n + 22) (tup [sv n_any (t + 29), sv [97] (t + 12)]), et (n + 20) (lst [.ref (n + 22), .ref (n + 23)] 2), et (n + 2) (lst [sv [97] (t + 12), sv [98] (t + 25)] 2), et Lw (fq25 hs ks (.ref 660) (.ref us) (.ref ea) (.str (wd_) wt) (.ref lo) (.ref (n + 2)) 6), et c1 (cel (some (.ref cl))), et c2 (cel (some (.int 1 t))), et c3 (cel (some (.ref ga))), et ga (lst [.ref g0, .ref g1] (gp 0)), et g0 (lst [.int (g00) (gt 0), .int (g01) (gt 1)] (gp 1)), et g1 (lst [.int (g10) (gt 2), .int (g11) (gt 3)] (gp 2)), et it (ri [.int 2 0, .int 0 0, .int 1 0]), et lo (lst [.ref l0, .ref (n + 20)] (le + 1))] [.gv 455126313168696235093866 [.int (g11) (gt 3), .int 1 (t + 15)] (fun _ => .bool true) 0, .gv 455126313168696235093866 [.int (g10) (gt 2), .int 1 (t + 15)] (fun _ => .bool false) 0, .gv 455126313168696235093866 [.int (g11) (gt 3), .int 0 (t + 4)] (fun _ => .bool false) 0, .gv 455126313168696235093866 [.int (g10) (gt 2), .int 0 (t + 4)] (fun _ => .bool true) 0] := by show _ = _; cases b1 <;> cases b2 <;> kernel_rfl
theorem lw_lot1_10 (p : Params) (b1 b2 : Bool) (n t : Nat) (Lw c1 c2 c3 it : Nat) (hs : Nat → Int) (ks : Nat → Nat) (us : Nat) (cl ce ga ea g0 g1 : Nat) (g00 g01 g10 g11 : Int) (gt gp : Nat → Nat) (wd_ : Str) (wt : Nat) (lo le l0 si : Nat) (hv ht : Nat) : FinT (rn p b1 b2 (fC p 6 Lw c1 c2 c3 it) (den (fC p 6 Lw c1 c2 c3 it)) n t [et Lw (fq25 hs ks (.ref 660) (.ref us) (.ref ea) (.str wd_ wt) (.ref lo) (.ref si) 6), et c1 (cel (some (.ref cl))), et c2 (cel (some (.int 0 ht))), et c3 (cel (some (.ref ga))), et ga (lst [.ref g0, .ref g1] (gp 0)), et g0 (lst [.int g00 (gt 0), .int g01 (gt 1)] (gp 1)), et g1 (lst [.int g10 (gt 2), .int g11 (gt 3)] (gp 2)), et it (ri [.int 1 0, .int 1 0, .int 1 0]), et lo (lst [.ref l0] le)] (cond b2 (q120 (q202 (q234 (q59 (q233 (q228 (q235 (q27 (q351 (q84 (q232 []))))))))))) (q120 (q203 (q234 (q59 (q233 (q230 (q235 (q27 (q351 (q85 (q232 [])))))))))))) [(455126313168696235093866, .gv (fun _ => .bool false) 0), (455126313168696235093866, .gv (fun _ => .bool true) 0), (455126313168696235093866, .gv (fun _ => .bool true) 0), (455126313168696235093866, .gv (fun _ => .bool false) 0)]) [2, 3, 5, 23, 26, 27, 28, 29, 30, 31, 32, 33, 34] (fC p 6 Lw c1 c2 c3 it) (n + 26) (t + 33) [ef (n + 23) (tup [sv n_any (t + 32), sv [97] (t + 23)]), ef (n + 22) (tup [sv n_any (t + 29), sv [98] (t + 14)]), et (n + 20) (lst [.ref (n + 22), .ref (n + 23)] 2), et (n + 2) (lst [sv [98] (t + 14), sv [97] (t + 23)] 2), et Lw (fq25 hs ks (.ref 660) (.ref us) (.ref ea) (.str (wd_) wt) (.ref lo) (.ref (n + 2)) 6), et c1 (cel (some (.ref cl))), et c2 (cel (some (.int 1 t))), et c3 (cel (some (.ref ga))), et ga (lst [.ref g0, .ref g1] (gp 0)), et g0 (lst [.int (g00) (gt 0), .int (g01) (gt 1)] (gp 1)), et g1 (lst [.int (g10) (gt 2), .int (g11) (gt 3)] (gp 2)), et it (ri [.int 2 0, .int 0 0, .int 1 0]), et lo (lst [.ref l0, .ref (n + 20)] (le + 1))] [.gv 455126313168696235093866 [.int (g11) (gt 3), .int 1 (t + 15)] (fun _ => .bool false) 0, .gv 455126313168696235093866 [.int (g10) (gt 2), .int 1 (t + 15)] (fun _ => .bool true) 0, .gv 455126313168696235093866 [.int (g11) (gt 3), .int 0 (t + 4)] (fun _ => .bool true) 0, .gv 455126313168696235093866 [.int (g10) (gt 2), .int 0 (t + 4)] (fun _ => .bool false) 0] := by show _ = _; cases b1 <;> cases b2 <;> kernel_rfl
theorem lw_lot1_11 (p : Params) (b1 b2 : Bool) (n t : Nat) (Lw c1 c2 c3 it : Nat) (hs : Nat → Int) (ks : Nat → Nat) (us : Nat) (cl ce ga ea g0 g1 : Nat) (g00 g01 g10 g11 : Int) (gt gp : Nat → Nat) (wd_ : Str) (wt : Nat) (lo le l0 si : Nat) (hv ht : Nat) : FinT (rn p b1 b2 (fC p 6 Lw c1 c2 c3 it) (den (fC p 6 Lw c1 c2 c3 it)) n t [et Lw (fq25 hs ks (.ref 660) (.ref us) (.ref ea) (.str wd_ wt) (.ref lo) (.ref si) 6), et c1 (cel (some (.ref cl))), et c2 (cel (some (.int 0 ht))), et c3 (cel (some (.ref ga))), et ga (lst [.ref g0, .ref g1] (gp 0)), et g0 (lst [.int g00 (gt 0), .int g01 (gt 1)] (gp 1)), et g1 (lst [.int g10 (gt 2), .int g11 (gt 3)] (gp 2)), et it (ri [.int 1 0, .int 1 0, .int 1 0]), et lo (lst [.ref l0] le)] (cond b2 (q120 (q202 (q234 (q59 (q352 (q228 (q235 (q27 (q235 (q124 (q84 (q350 [])))))))))))) (q120 (q203 (q234 (q59 (q352 (q230 (q235 (q27 (q235 (q124 (q85 (q350 []))))))))))))) [(455126313168696235093866, .gv (fun _ => .bool false) 0), (455126313168696235093866, .gv (fun _ => .bool false) 0), (455126313168696235093866, .gv (fun _ => .bool true) 0), (455126313168696235093866, .gv (fun _ => .bool true) 0)]) [2, 3, 5, 23, 26, 27, 28, 29, 30, 31, 32, 33, 34] (fC p 6 Lw c1 c2 c3 it) (n + 26) (t + 35) [ef (n + 23) (tup [sv n_any (t + 34), sv [97, 98] (t + 27)]), ef (n + 22) (tup [sv n_fail (t + 31)]), et (n + 20) (lst [.ref (n + 22), .ref (n + 23)] 2), et (n + 2) (lst [sv [] (t + 13), sv [97, 98] (t + 27)] 2), et Lw (fq25 hs ks (.ref 660) (.ref us) (.ref ea) (.str (wd_) wt) (.ref lo) (.ref (n + 2)) 6), et c1 (cel (some (.ref cl))), et c2 (cel (some (.int 1 t))), et c3 (cel (some (.ref ga))), et ga (lst [.ref g0, .ref g1] (gp 0)), et g0 (lst [.int (g00) (gt 0), .int (g01) (gt 1)] (gp 1)), et g1 (lst [.int (g10) (gt 2), .int (g11) (gt 3)] (gp 2)), et it (ri [.int 2 0, .int 0 0, .int 1 0]), et lo (lst [.ref l0, .ref (n + 20)] (le + 1))] [.gv 455126313168696235093866 [.int (g11) (gt 3), .int 1 (t + 14)] (fun _ => .bool true) 0, .gv 455126313168696235093866 [.int (g10) (gt 2), .int 1 (t + 14)] (fun _ => .bool true) 0, .gv 455126313168696235093866 [.int (g11) (gt 3), .int 0 (t + 4)] (fun _ => .bool false) 0, .gv 455126313168696235093866 [.int (g10) (gt 2), .int 0 (t + 4)] (fun _ => .bool false) 0] := by show _ = _; cases b1 <;> cases b2 <;> kernel_rfl
theorem lw_lot_end (p : Params) (b1 b2 : Bool) (n t : Nat) (Lw c1 c2 c3 it : Nat) (hs : Nat → Int) (ks : Nat → Nat) (us : Nat) (cl ce ga ea g0 g1 : Nat) (g00 g01 g10 g11 : Int) (gt gp : Nat → Nat) (wd_ : Str) (wt : Nat) (lo le l0 l1 si : Nat) (ht : Nat) : FinI (rn p b1 b2 (fC p 6 Lw c1 c2 c3 it) (den (fC p 6 Lw c1 c2 c3 it)) n t [et Lw (fq25 hs ks (.ref 660) (.ref us) (.ref ea) (.str wd_ wt) (.ref lo) (.ref si) 6), et c1 (cel (some (.ref cl))), et c2 (cel (some (.int 1 ht))), et c3 (cel (some (.ref ga))), et ga (lst [.ref g0, .ref g1] (gp 0)), et g0 (lst [.int g00 (gt 0), .int g01 (gt 1)] (gp 1)), et g1 (lst [.int g10 (gt 2), .int g11 (gt 3)] (gp 2)), et it (ri [.int 2 0, .int 0 0, .int 1 0]), et lo (lst [.ref l0, .ref l1] le)] (q51 (q42 (q2 []))) []) [2, 3, 4, 5, 6, 7, 8, 9, 10] (.ok .next) (n + 2) t [et Lw (fq25 hs ks (.ref 660) (.ref us) (.ref ea) (.str (wd_) wt) (.ref lo) (.ref si) 6), et c1 (cel (some (.ref cl))), et c2 (cel (some (.int 1 ht))), et c3 (cel (some (.ref ga))), et ga (lst [.ref g0, .ref g1] (gp 0)), et g0 (lst [.int (g00) (gt 0), .int (g01) (gt 1)] (gp 1)), et g1 (lst [.int (g10) (gt 2), .int (g11) (gt 3)] (gp 2)), et it (ri [.int 2 0, .int 0 0, .int 1 0]), et lo (lst [.ref l0, .ref l1] le)] [] := by show _ = _; kernel_rfl
theorem lw_nodes (p : Params) (b1 b2 : Bool) (n t : Nat) (Lw c1 c2 c3 : Nat) (hs : Nat → Int) (ks : Nat → Nat) (us : Nat) (cl ga ea lo si l0 l1 a00 a01 a10 a11 e0 e1 ht : Nat) (gp lp : Nat → Nat) (wd_ : Str) (wt : Nat) : FinI (rn p b1 b2 (.func (bodyAt p 659) (envL p Lw c1 c2 c3)) (execsT (lS p 7 4) (envL p Lw c1 c2 c3)) n t [et Lw (fq25 hs ks (.ref 660) (.ref us) (.ref ea) (.str wd_ wt) (.ref lo) (.ref si) 6), et c1 (cel (some (.ref cl))), et c2 (cel (some (.int 1 ht))), et c3 (cel (some (.ref ga))), et lo (lst [.ref l0, .ref l1] (lp 0)), et l0 (lst [.ref a00, .ref a01] (lp 1)), et l1 (lst [.ref a10, .ref a11] (lp 2)), et ea (lst [.ref e0, .ref e1] (lp 3))] (q17 (q44 (q7 (q11 (q1 (q20 (q22 (hy 17156 (q21 (q51 (hy 136 (q33 (q19 (q19 (q15 (q239 (hy 0x901c34012004801224488802200891223c68d1a3468d (q77 (hy 38654969877 (q509 (hy 19091 (q0 (hy 5016559552786 (q0 (hy 306481426 (q64 (q83 (hy 0x200c803200c99325c017005cb972a4ca952040810 (q15 (q239 (q67 (hy 2592284 (q194 (hy 43558371360 (q89 (hy 0x13e00f9f4801200489121f3a70022 (q509 (hy 21026 (q0 (hy 5531987087521 (q0 (hy 564015175061665 (q221 (hy 159 (q2 (hy 164 (q293 (hy 168 (q277 (hy 20992 (q293 (hy 0x80540150054a9528 (q393 (q201 (hy 2807211 (q226 (hy 0x55ab00c003000c1830 (q226 (hy 0x2c58b500d40356ad572e6a01a806ad5aae00c403100c58b1 []))))))))))))))))))))))))))))))))))))))))))))))))))))))))))) []) [0, 1, 2, 3, 4, 5, 10, 11, 12, 16, 17, 18, 19, 20, 25, 26, 27, 28, 29, 31, 32, 33, 34, 35, 40, 41, 42, 43, 44, 47, 48, 49, 50, 51, 52, 53, 54, 55] (.ok .next) (n + 48) (t + 73) [ef (n + 47) (tup [sv n_cat (t + 60), .ref (n + 44), .ref (n + 46)]), ef (n + 46) (tup [sv n_alt (t + 68), .ref e0, .ref (n + 45)]), ef (n + 45) (tup [sv n_cat (t + 70), .ref (n + 36), .ref e1]), ef (n + 44) (tup [sv n_arbno (t + 61), .ref (n + 43)]), ef (n + 43) (tup [sv n_alt (t + 62), .ref a00, .ref (n + 42)]), ef (n + 42) (tup [sv n_cat (t + 65), .ref (n + 36), .ref a10]), et (n + 37) (lst [] 0), ef (n + 36) (tup [sv n_cat (t + 50), .ref a01, .ref (n + 35)]), ef (n + 35) (tup [sv n_arbno (t + 53), .ref a11]), et (n + 31) (inst 166 (n + 30)), et (n + 30) (di [ek p n_node (t + 46) (.ref (n + 29))] 1), ef (n + 29) (tup [sv n_alt (t + 38), .ref (n + 20), .ref (n + 28)]), ef (n + 28) (tup [sv n_alt (t + 39), .ref (n + 27), .ref e1]), ef (n + 27) (tup [sv n_cat (t + 40), .ref a11, .ref (n + 22)]), ef (n + 22) (tup [sv n_delay (t + 33), .ref (n + 21)]), ef (n + 21) (tup [sv n_name (t + 34), sv [81] (t + 35)]), ef (n + 20) (tup [sv n_cat (t + 28), .ref a10, .ref (n + 19)]), ef (n + 19) (tup [sv n_delay (t + 30), .ref (n + 18)]), ef (n + 18) (tup [sv n_name (t + 31), sv [80] (t + 32)]), et (n + 16) (inst 166 (n + 15)), et (n + 15) (di [ek p n_node (t + 23) (.ref (n + 14))] 1), ef (n + 14) (tup [sv n_alt (t + 15), .ref (n + 5), .ref (n + 13)]), ef (n + 13) (tup [sv n_alt (t + 16), .ref (n + 12), .ref e0]), ef (n + 12) (tup [sv n_cat (t + 17), .ref a01, .ref (n + 7)]), ef (n + 7) (tup [sv n_delay (t + 10), .ref (n + 6)]), ef (n + 6) (tup [sv n_name (t + 11), sv [81] (t + 12)]), ef (n + 5) (tup [sv n_cat (t + 5), .ref a00, .ref (n + 4)]), ef (n + 4) (tup [sv n_delay (t + 7), .ref (n + 3)]), ef (n + 3) (tup [sv n_name (t + 8), sv [80] (t + 9)]), et n (fq2 p (t + 25) (.ref (n + 16)) (t + 48) (.ref (n + 31)) 2), et Lw (fo [eh hs ks 0 n_script (.ref 660), eh hs ks 1 n_usual (.ref us), eh hs ks 2 n_ends (.ref ea), eh hs ks 3 n_word (.str (wd_) wt), eh hs ks 4 n_lots (.ref lo), eh hs ks 5 n_signs (.ref si), ek p n_values t (.ref n), ek p n_to_second (t + 13) (.ref (n + 22)), ek p n_to_first (t + 14) (.ref (n + 20)), ek p n_node (t + 19) (.ref (n + 47)), ek p n_state (t + 57) (.int 0 (t + 56)), ek p n_due (t + 58) (.ref (n + 37)), ek p n_over (t + 59) (.ref (n + 36))] 13), et c1 (cel (some (.ref cl))), et c2 (cel (some (.int 1 (t + 27)))), et c3 (cel (some (.ref ga))), et lo (lst [.ref l0, .ref l1] (lp 0)), et l0 (lst [.ref a00, .ref a01] (lp 1)), et l1 (lst [.ref a10, .ref a11] (lp 2)), et ea (lst [.ref e0, .ref e1] (lp 3))] [] := by show _ = _; cases b1 <;> kernel_rfl
noncomputable def lw_due0_o (p : Params) (b1 b2 : Bool) (n t : Nat) (Lw c1 c2 c3 : Nat) (hs : Nat → Int) (ks : Nat → Nat) (us : Nat) (cl ga ea lo si vd ts_ tf_ nd du ov ht wt svt de : Nat) (sv_ : Int) (gp lp : Nat → Nat) (ds : List Value) : Out := run ((pv0 p b1 b2)) 100000 0 none ((.func (bodyAt p 659) (envL p Lw c1 c2 c3))) ((execsT (lS p 11 1) (envL p Lw c1 c2 c3))) .ret ⟨n, t, ([et Lw (fq26 hs ks (.ref 660) (.ref us) (.ref ea) (sv [] wt) (.ref lo) (.ref si) (.ref vd) (.ref ts_) (.ref tf_) (.ref nd) (.int sv_ svt) (.ref du) (.ref ov) 13), et c1 (cel (some (.ref cl))), et c2 (cel (some (.int 1 ht))), et c3 (cel (some (.ref ga)))]), (q5 (hy 129 (q5 (q44 (q20 []))))),
    [], [], []⟩
theorem lw_due0 (p : Params) (b1 b2 : Bool) (n t : Nat) (Lw c1 c2 c3 : Nat) (hs : Nat → Int) (ks : Nat → Nat) (us : Nat) (cl ga ea lo si vd ts_ tf_ nd du ov ht wt svt de : Nat) (sv_ : Int) (gp lp : Nat → Nat) (ds : List Value) : FinS (lw_due0_o p b1 b2 n t Lw c1 c2 c3 hs ks us cl ga ea lo si vd ts_ tf_ nd du ov ht wt svt de sv_ gp lp ds) [0, 2, 3, 4, 5] 1 none (fC p 11 Lw c1 c2 c3 (n + 1)) (n + 2) (t + 6) [et (n + 1) (ri [.int 0 0, .int 1 0, .int 1 0]), et Lw (fq26 hs ks (.ref 660) (.ref us) (.ref ea) (sv [] wt) (.ref lo) (.ref si) (.ref vd) (.ref ts_) (.ref tf_) (.ref nd) (.int (sv_) svt) (.ref du) (.ref ov) 13), et c1 (cel (some (.ref cl))), et c2 (cel (some (.int 1 ht))), et c3 (cel (some (.ref ga)))] [] := by show _ = _; cases b1 <;> kernel_rfl
noncomputable def lw_due1_o (p : Params) (b1 b2 : Bool) (n t : Nat) (Lw c1 c2 c3 : Nat) (hs : Nat → Int) (ks : Nat → Nat) (us : Nat) (cl ga ea lo si vd ts_ tf_ nd du ov ht wt svt de : Nat) (sv_ : Int) (gp lp : Nat → Nat) (ds : List Value) (h0 : Nat) : Out := run ((pv0 p b1 b2)) 100000 0 none ((.func (bodyAt p 659) (envL p Lw c1 c2 c3))) ((execsT (lS p 11 1) (envL p Lw c1 c2 c3))) .ret ⟨n, t, ([et Lw (fq26 hs ks (.ref 660) (.ref us) (.ref ea) (sv [h0] wt) (.ref lo) (.ref si) (.ref vd) (.ref ts_) (.ref tf_) (.ref nd) (.int sv_ svt) (.ref du) (.ref ov) 13), et c1 (cel (some (.ref cl))), et c2 (cel (some (.int 1 ht))), et c3 (cel (some (.ref ga)))]), (q5 (hy 129 (q5 (q44 (q20 []))))),
    [], [], []⟩
theorem lw_due1 (p : Params) (b1 b2 : Bool) (n t : Nat) (Lw c1 c2 c3 : Nat) (hs : Nat → Int) (ks : Nat → Nat) (us : Nat) (cl ga ea lo si vd ts_ tf_ nd du ov ht wt svt de : Nat) (sv_ : Int) (gp lp : Nat → Nat) (ds : List Value) (h0 : Nat) : FinS (lw_due1_o p b1 b2 n t Lw c1 c2 c3 hs ks us cl ga ea lo si vd ts_ tf_ nd du ov ht wt svt de sv_ gp lp ds h0) [0, 2, 3, 4, 5] 1 none (fC p 11 Lw c1 c2 c3 (n + 1)) (n + 2) (t + 6) [et (n + 1) (ri [.int 0 0, .int 2 0, .int 1 0]), et Lw (fq26 hs ks (.ref 660) (.ref us) (.ref ea) (sv [h0] wt) (.ref lo) (.ref si) (.ref vd) (.ref ts_) (.ref tf_) (.ref nd) (.int (sv_) svt) (.ref du) (.ref ov) 13), et c1 (cel (some (.ref cl))), et c2 (cel (some (.int 1 ht))), et c3 (cel (some (.ref ga)))] [] := by show _ = _; cases b1 <;> kernel_rfl
noncomputable def lw_due2_o (p : Params) (b1 b2 : Bool) (n t : Nat) (Lw c1 c2 c3 : Nat) (hs : Nat → Int) (ks : Nat → Nat) (us : Nat) (cl ga ea lo si vd ts_ tf_ nd du ov ht wt svt de : Nat) (sv_ : Int) (gp lp : Nat → Nat) (ds : List Value) (h0 h1 : Nat) : Out := run ((pv0 p b1 b2)) 100000 0 none ((.func (bodyAt p 659) (envL p Lw c1 c2 c3))) ((execsT (lS p 11 1) (envL p Lw c1 c2 c3))) .ret ⟨n, t, ([et Lw (fq26 hs ks (.ref 660) (.ref us) (.ref ea) (sv [h0, h1] wt) (.ref lo) (.ref si) (.ref vd) (.ref ts_) (.ref tf_) (.ref nd) (.int sv_ svt) (.ref du) (.ref ov) 13), et c1 (cel (some (.ref cl))), et c2 (cel (some (.int 1 ht))), et c3 (cel (some (.ref ga)))]), (q5 (hy 129 (q5 (q44 (q20 []))))),
    [], [], []⟩
theorem lw_due2 (p : Params) (b1 b2 : Bool) (n t : Nat) (Lw c1 c2 c3 : Nat) (hs : Nat → Int) (ks : Nat → Nat) (us : Nat) (cl ga ea lo si vd ts_ tf_ nd du ov ht wt svt de : Nat) (sv_ : Int) (gp lp : Nat → Nat) (ds : List Value) (h0 h1 : Nat) : FinS (lw_due2_o p b1 b2 n t Lw c1 c2 c3 hs ks us cl ga ea lo si vd ts_ tf_ nd du ov ht wt svt de sv_ gp lp ds h0 h1) [0, 2, 3, 4, 5] 1 none (fC p 11 Lw c1 c2 c3 (n + 1)) (n + 2) (t + 6) [et (n + 1) (ri [.int 0 0, .int 3 0, .int 1 0]), et Lw (fq26 hs ks (.ref 660) (.ref us) (.ref ea) (sv [h0, h1] wt) (.ref lo) (.ref si) (.ref vd) (.ref ts_) (.ref tf_) (.ref nd) (.int (sv_) svt) (.ref du) (.ref ov) 13), et c1 (cel (some (.ref cl))), et c2 (cel (some (.int 1 ht))), et c3 (cel (some (.ref ga)))] [] := by show _ = _; cases b1 <;> kernel_rfl
noncomputable def lw_due3_o (p : Params) (b1 b2 : Bool) (n t : Nat) (Lw c1 c2 c3 : Nat) (hs : Nat → Int) (ks : Nat → Nat) (us : Nat) (cl ga ea lo si vd ts_ tf_ nd du ov ht wt svt de : Nat) (sv_ : Int) (gp lp : Nat → Nat) (ds : List Value) (h0 h1 h2 : Nat) : Out := run ((pv0 p b1 b2)) 100000 0 none ((.func (bodyAt p 659) (envL p Lw c1 c2 c3))) ((execsT (lS p 11 1) (envL p Lw c1 c2 c3))) .ret ⟨n, t, ([et Lw (fq26 hs ks (.ref 660) (.ref us) (.ref ea) (sv [h0, h1, h2] wt) (.ref lo) (.ref si) (.ref vd) (.ref ts_) (.ref tf_) (.ref nd) (.int sv_ svt) (.ref du) (.ref ov) 13), et c1 (cel (some (.ref cl))), et c2 (cel (some (.int 1 ht))), et c3 (cel (some (.ref ga)))]), (q5 (hy 129 (q5 (q44 (q20 []))))),
    [], [], []⟩
theorem lw_due3 (p : Params) (b1 b2 : Bool) (n t : Nat) (Lw c1 c2 c3 : Nat) (hs : Nat → Int) (ks : Nat → Nat) (us : Nat) (cl ga ea lo si vd ts_ tf_ nd du ov ht wt svt de : Nat) (sv_ : Int) (gp lp : Nat → Nat) (ds : List Value) (h0 h1 h2 : Nat) : FinS (lw_due3_o p b1 b2 n t Lw c1 c2 c3 hs ks us cl ga ea lo si vd ts_ tf_ nd du ov ht wt svt de sv_ gp lp ds h0 h1 h2) [0, 2, 3, 4, 5] 1 none (fC p 11 Lw c1 c2 c3 (n + 1)) (n + 2) (t + 6) [et (n + 1) (ri [.int 0 0, .int 4 0, .int 1 0]), et Lw (fq26 hs ks (.ref 660) (.ref us) (.ref ea) (sv [h0, h1, h2] wt) (.ref lo) (.ref si) (.ref vd) (.ref ts_) (.ref tf_) (.ref nd) (.int (sv_) svt) (.ref du) (.ref ov) 13), et c1 (cel (some (.ref cl))), et c2 (cel (some (.int 1 ht))), et c3 (cel (some (.ref ga)))] [] := by show _ = _; cases b1 <;> kernel_rfl
noncomputable def lw_due4_o (p : Params) (b1 b2 : Bool) (n t : Nat) (Lw c1 c2 c3 : Nat) (hs : Nat → Int) (ks : Nat → Nat) (us : Nat) (cl ga ea lo si vd ts_ tf_ nd du ov ht wt svt de : Nat) (sv_ : Int) (gp lp : Nat → Nat) (ds : List Value) (h0 h1 h2 h3 : Nat) : Out := run ((pv0 p b1 b2)) 100000 0 none ((.func (bodyAt p 659) (envL p Lw c1 c2 c3))) ((execsT (lS p 11 1) (envL p Lw c1 c2 c3))) .ret ⟨n, t, ([et Lw (fq26 hs ks (.ref 660) (.ref us) (.ref ea) (sv [h0, h1, h2, h3] wt) (.ref lo) (.ref si) (.ref vd) (.ref ts_) (.ref tf_) (.ref nd) (.int sv_ svt) (.ref du) (.ref ov) 13), et c1 (cel (some (.ref cl))), et c2 (cel (some (.int 1 ht))), et c3 (cel (some (.ref ga)))]), (q5 (hy 129 (q5 (q44 (q20 []))))),
    [], [], []⟩
theorem lw_due4 (p : Params) (b1 b2 : Bool) (n t : Nat) (Lw c1 c2 c3 : Nat) (hs : Nat → Int) (ks : Nat → Nat) (us : Nat) (cl ga ea lo si vd ts_ tf_ nd du ov ht wt svt de : Nat) (sv_ : Int) (gp lp : Nat → Nat) (ds : List Value) (h0 h1 h2 h3 : Nat) : FinS (lw_due4_o p b1 b2 n t Lw c1 c2 c3 hs ks us cl ga ea lo si vd ts_ tf_ nd du ov ht wt svt de sv_ gp lp ds h0 h1 h2 h3) [0, 2, 3, 4, 5] 1 none (fC p 11 Lw c1 c2 c3 (n + 1)) (n + 2) (t + 6) [et (n + 1) (ri [.int 0 0, .int 5 0, .int 1 0]), et Lw (fq26 hs ks (.ref 660) (.ref us) (.ref ea) (sv [h0, h1, h2, h3] wt) (.ref lo) (.ref si) (.ref vd) (.ref ts_) (.ref tf_) (.ref nd) (.int (sv_) svt) (.ref du) (.ref ov) 13), et c1 (cel (some (.ref cl))), et c2 (cel (some (.int 1 ht))), et c3 (cel (some (.ref ga)))] [] := by show _ = _; cases b1 <;> kernel_rfl
noncomputable def lw_due5_o (p : Params) (b1 b2 : Bool) (n t : Nat) (Lw c1 c2 c3 : Nat) (hs : Nat → Int) (ks : Nat → Nat) (us : Nat) (cl ga ea lo si vd ts_ tf_ nd du ov ht wt svt de : Nat) (sv_ : Int) (gp lp : Nat → Nat) (ds : List Value) (h0 h1 h2 h3 h4 : Nat) : Out := run ((pv0 p b1 b2)) 100000 0 none ((.func (bodyAt p 659) (envL p Lw c1 c2 c3))) ((execsT (lS p 11 1) (envL p Lw c1 c2 c3))) .ret ⟨n, t, ([et Lw (fq26 hs ks (.ref 660) (.ref us) (.ref ea) (sv [h0, h1, h2, h3, h4] wt) (.ref lo) (.ref si) (.ref vd) (.ref ts_) (.ref tf_) (.ref nd) (.int sv_ svt) (.ref du) (.ref ov) 13), et c1 (cel (some (.ref cl))), et c2 (cel (some (.int 1 ht))), et c3 (cel (some (.ref ga)))]), (q5 (hy 129 (q5 (q44 (q20 []))))),
    [], [], []⟩
theorem lw_due5 (p : Params) (b1 b2 : Bool) (n t : Nat) (Lw c1 c2 c3 : Nat) (hs : Nat → Int) (ks : Nat → Nat) (us : Nat) (cl ga ea lo si vd ts_ tf_ nd du ov ht wt svt de : Nat) (sv_ : Int) (gp lp : Nat → Nat) (ds : List Value) (h0 h1 h2 h3 h4 : Nat) : FinS (lw_due5_o p b1 b2 n t Lw c1 c2 c3 hs ks us cl ga ea lo si vd ts_ tf_ nd du ov ht wt svt de sv_ gp lp ds h0 h1 h2 h3 h4) [0, 2, 3, 4, 5] 1 none (fC p 11 Lw c1 c2 c3 (n + 1)) (n + 2) (t + 6) [et (n + 1) (ri [.int 0 0, .int 6 0, .int 1 0]), et Lw (fq26 hs ks (.ref 660) (.ref us) (.ref ea) (sv [h0, h1, h2, h3, h4] wt) (.ref lo) (.ref si) (.ref vd) (.ref ts_) (.ref tf_) (.ref nd) (.int (sv_) svt) (.ref du) (.ref ov) 13), et c1 (cel (some (.ref cl))), et c2 (cel (some (.int 1 ht))), et c3 (cel (some (.ref ga)))] [] := by show _ = _; cases b1 <;> kernel_rfl
theorem lw_da1_0 (p : Params) (b1 b2 : Bool) (n t : Nat) (Lw c1 c2 c3 it : Nat) (hs : Nat → Int) (ks : Nat → Nat) (us : Nat) (cl ga ea lo si vd ts_ tf_ nd du ov ht wt svt de : Nat) (sv_ : Int) (gp lp : Nat → Nat) (ds : List Value) (wd_ : Str) (e0 e1 g0 g1 es gs : Nat) (at_ gv : Int) (ta gvt tK ch : Nat) (K : Str) (rK : List Value) (ix : Int) : FinT (rn p b1 b2 (fC p 11 Lw c1 c2 c3 it) (den (fC p 11 Lw c1 c2 c3 it)) n t [ef es (tup (.str K tK :: rK)), et Lw (fq26 hs ks (.ref 660) (.ref us) (.ref ea) (.str wd_ wt) (.ref lo) (.ref si) (.ref vd) (.ref ts_) (.ref tf_) (.ref nd) (.int sv_ svt) (.ref du) (.ref ov) 13), et c1 (cel (some (.ref cl))), et c2 (cel (some (.int 1 ht))), et c3 (cel (some (.ref ga))), et ea (lst [.ref e0, .ref e1] (lp 3)), et ga (lst [.ref g0, .ref g1] (gp 0)), et du (lst ds de), et it (ri [.int 0 0, .int 1 0, .int 1 0])] (q510 (q98 (q12 (hy 132 [])))) [(128106587276438692081757506308484131437, .rd 5 (fun _ => .ref es) 0), (32795286342768305172929921614907396159093, .rd 0 (fun _ => .str (K) tK) 0), (455126313168696234964340, .gv (fun _ => .bool false) 0), (7300717, .gv (fun t => .int (↑wd_.length) (t + 1)) 2), (455126531311803185852266, .gv (fun _ => .bool false) 0)]) [1, 2, 3, 4, 5, 6, 7, 8] (fC p 11 Lw c1 c2 c3 it) n (t + 6) [et Lw (fq27 hs ks p (.ref 660) (.ref us) (.ref ea) (.str (wd_) wt) (.ref lo) (.ref si) (.ref vd) (.ref ts_) (.ref tf_) (.ref nd) (.int (sv_) svt) (.ref du) (.ref ov) (t + 1) (.int 0 t) 14), et c1 (cel (some (.ref cl))), et c2 (cel (some (.int 1 ht))), et c3 (cel (some (.ref ga))), et ea (lst [.ref e0, .ref e1] (lp 3)), et ga (lst [.ref g0, .ref g1] (gp 0)), et du (lst (ds) de), et it (ri [.int 1 0, .int 0 0, .int 1 0])] [.gv 455126531311803185852266 [.int 0 t, .int (↑wd_.length) (t + 5)] (fun _ => .bool false) 0, .gv 7300717 [.str (wd_) wt] (fun t => .int (↑wd_.length) (t + 1)) 2, .gv 455126313168696234964340 [.str (K) tK, sv n_chars (t + 3)] (fun _ => .bool false) 0, .rd 32795286342768305172929921614907396159093 [.ref es, .int 0 (t + 2)] es (tup (Value.str K tK :: rK)) (fun _ => .str (K) tK) 0, .rd 128106587276438692081757506308484131437 [.ref ea, .int (sv_) svt] ea (lst [.ref e0, .ref e1] (lp 3)) (fun _ => .ref es) 0] := by show _ = _; cases b1 <;> kernel_rfl
theorem lw_da1_1 (p : Params) (b1 b2 : Bool) (n t : Nat) (Lw c1 c2 c3 it : Nat) (hs : Nat → Int) (ks : Nat → Nat) (us : Nat) (cl ga ea lo si vd ts_ tf_ nd du ov ht wt svt de : Nat) (sv_ : Int) (gp lp : Nat → Nat) (ds : List Value) (wd_ : Str) (e0 e1 g0 g1 es gs : Nat) (at_ gv : Int) (ta gvt tK ch : Nat) (K : Str) (rK : List Value) (ix : Int) : FinT (rn p b1 b2 (fC p 11 Lw c1 c2 c3 it) (den (fC p 11 Lw c1 c2 c3 it)) n t [ef es (tup (.str K tK :: rK)), et Lw (fq26 hs ks (.ref 660) (.ref us) (.ref ea) (.str wd_ wt) (.ref lo) (.ref si) (.ref vd) (.ref ts_) (.ref tf_) (.ref nd) (.int sv_ svt) (.ref du) (.ref ov) 13), et c1 (cel (some (.ref cl))), et c2 (cel (some (.int 1 ht))), et c3 (cel (some (.ref ga))), et ea (lst [.ref e0, .ref e1] (lp 3)), et ga (lst [.ref g0, .ref g1] (gp 0)), et du (lst ds de), et it (ri [.int 0 0, .int 1 0, .int 1 0])] (q510 (q511 (q98 (q12 (hy 132 []))))) [(128106587276438692081757506308484131437, .rd 5 (fun _ => .ref es) 0), (32795286342768305172929921614907396159093, .rd 0 (fun _ => .str (K) tK) 0), (455126313168696234964340, .gv (fun _ => .bool true) 0), (122627580202994350266018413, .up 7 (lst (ds ++ [Value.int 0 t]) (de + 1)) .none 0), (7300717, .gv (fun t => .int (↑wd_.length) (t + 1)) 2), (455126531311803185852266, .gv (fun _ => .bool false) 0)]) [1, 2, 3, 4, 5, 6, 7, 8] (fC p 11 Lw c1 c2 c3 it) n (t + 6) [et Lw (fq27 hs ks p (.ref 660) (.ref us) (.ref ea) (.str (wd_) wt) (.ref lo) (.ref si) (.ref vd) (.ref ts_) (.ref tf_) (.ref nd) (.int (sv_) svt) (.ref du) (.ref ov) (t + 1) (.int 0 t) 14), et c1 (cel (some (.ref cl))), et c2 (cel (some (.int 1 ht))), et c3 (cel (some (.ref ga))), et ea (lst [.ref e0, .ref e1] (lp 3)), et ga (lst [.ref g0, .ref g1] (gp 0)), et du (lst (ds ++ [Value.int 0 t]) (de + 1)), et it (ri [.int 1 0, .int 0 0, .int 1 0])] [.gv 455126531311803185852266 [.int 0 t, .int (↑wd_.length) (t + 5)] (fun _ => .bool false) 0, .gv 7300717 [.str (wd_) wt] (fun t => .int (↑wd_.length) (t + 1)) 2, .up 122627580202994350266018413 [.ref du, .int 0 t] du (lst (ds) de) (lst (ds ++ [Value.int 0 t]) (de + 1)) .none 0, .gv 455126313168696234964340 [.str (K) tK, sv n_chars (t + 3)] (fun _ => .bool true) 0, .rd 32795286342768305172929921614907396159093 [.ref es, .int 0 (t + 2)] es (tup (Value.str K tK :: rK)) (fun _ => .str (K) tK) 0, .rd 128106587276438692081757506308484131437 [.ref ea, .int (sv_) svt] ea (lst [.ref e0, .ref e1] (lp 3)) (fun _ => .ref es) 0] := by show _ = _; cases b1 <;> kernel_rfl
theorem lw_da2_0 (p : Params) (b1 b2 : Bool) (n t : Nat) (Lw c1 c2 c3 it : Nat) (hs : Nat → Int) (ks : Nat → Nat) (us : Nat) (cl ga ea lo si vd ts_ tf_ nd du ov ht wt svt de : Nat) (sv_ : Int) (gp lp : Nat → Nat) (ds : List Value) (wd_ : Str) (e0 e1 g0 g1 es gs : Nat) (at_ gv : Int) (ta gvt tK ch : Nat) (K : Str) (rK : List Value) (ix : Int) (g0v g1v : Int) (g0t g1t r : Nat) (lb : Bool) (hr : r = 0 ∨ r = 1 ∨ r = 2 ∨ r = 3 ∨ r = 4) : FinT (rn p b1 b2 (fC p 11 Lw c1 c2 c3 it) (den (fC p 11 Lw c1 c2 c3 it)) n t [ef es (tup (.str K tK :: rK)), et Lw (fq26 hs ks (.ref 660) (.ref us) (.ref ea) (.str wd_ wt) (.ref lo) (.ref si) (.ref vd) (.ref ts_) (.ref tf_) (.ref nd) (.int sv_ svt) (.ref du) (.ref ov) 13), et c1 (cel (some (.ref cl))), et c2 (cel (some (.int 1 ht))), et c3 (cel (some (.ref ga))), et ea (lst [.ref e0, .ref e1] (lp 3)), et ga (lst [.ref g0, .ref g1] (gp 0)), et du (lst ds de), et gs (lst [.int g0v g0t, .int g1v g1t] (gp 1)), et it (ri [.int 0 0, .int ((r + 2 : Nat)) 0, .int 1 0])] (q101 (q353 (q193 (q512 (q8 (hy 16898 [])))))) [(128106587276438692081757506308484131437, .rd 5 (fun _ => .ref es) 0), (32795286342768305172929921614907396159093, .rd 0 (fun _ => .str (K) tK) 0), (455126313168696234964340, .gv (fun _ => .bool false) 0), (7300717, .gv (fun t => .int (↑wd_.length) (t + 1)) 2), (455126531311803185852266, .gv (fun _ => .bool true) 0), (128106587276438692081757506308484131437, .rd 6 (fun _ => .ref gs) 0), (500416356548588640944365259017385332, .gv (fun t => .str ({ cps := #[cond lb 98 97] }) t) 1), (128106587276438692081757506308484131437, .rd 8 (fun _ => .int (gv) gvt) 0)]) [1, 2, 3, 4, 5, 6, 7, 8, 9] (fC p 11 Lw c1 c2 c3 it) n (t + 10) [et Lw (fq27 hs ks p (.ref 660) (.ref us) (.ref ea) (.str (wd_) wt) (.ref lo) (.ref si) (.ref vd) (.ref ts_) (.ref tf_) (.ref nd) (.int (gv) gvt) (.ref du) (.ref ov) (t + 1) (.int 0 t) 14), et c1 (cel (some (.ref cl))), et c2 (cel (some (.int 1 ht))), et c3 (cel (some (.ref ga))), et ea (lst [.ref e0, .ref e1] (lp 3)), et ga (lst [.ref g0, .ref g1] (gp 0)), et du (lst (ds) de), et gs (lst [.int (g0v) g0t, .int (g1v) g1t] (gp 1)), et it (ri [.int 1 0, .int ((r + 1 : Nat)) 0, .int 1 0])] [.rd 128106587276438692081757506308484131437 [.ref gs, .int ((cond lb 1 0 : Nat)) (t + 8)] gs (lst [.int (g0v) g0t, .int (g1v) g1t] (gp 1)) (fun _ => .int (gv) gvt) 0, .gv 500416356548588640944365259017385332 [.str (wd_) wt, .int 0 t] (fun t => .str ({ cps := #[cond lb 98 97] }) t) 1, .rd 128106587276438692081757506308484131437 [.ref ga, .int (sv_) svt] ga (lst [.ref g0, .ref g1] (gp 0)) (fun _ => .ref gs) 0, .gv 455126531311803185852266 [.int 0 t, .int (↑wd_.length) (t + 5)] (fun _ => .bool true) 0, .gv 7300717 [.str (wd_) wt] (fun t => .int (↑wd_.length) (t + 1)) 2, .gv 455126313168696234964340 [.str (K) tK, sv n_chars (t + 3)] (fun _ => .bool false) 0, .rd 32795286342768305172929921614907396159093 [.ref es, .int 0 (t + 2)] es (tup (Value.str K tK :: rK)) (fun _ => .str (K) tK) 0, .rd 128106587276438692081757506308484131437 [.ref ea, .int (sv_) svt] ea (lst [.ref e0, .ref e1] (lp 3)) (fun _ => .ref es) 0] := by show _ = _; rcases hr with rfl | rfl | rfl | rfl | rfl <;> cases lb <;> cases b1 <;> kernel_rfl
theorem lw_da2_1 (p : Params) (b1 b2 : Bool) (n t : Nat) (Lw c1 c2 c3 it : Nat) (hs : Nat → Int) (ks : Nat → Nat) (us : Nat) (cl ga ea lo si vd ts_ tf_ nd du ov ht wt svt de : Nat) (sv_ : Int) (gp lp : Nat → Nat) (ds : List Value) (wd_ : Str) (e0 e1 g0 g1 es gs : Nat) (at_ gv : Int) (ta gvt tK ch : Nat) (K : Str) (rK : List Value) (ix : Int) (g0v g1v : Int) (g0t g1t r : Nat) (lb : Bool) (hr : r = 0 ∨ r = 1 ∨ r = 2 ∨ r = 3 ∨ r = 4) : FinT (rn p b1 b2 (fC p 11 Lw c1 c2 c3 it) (den (fC p 11 Lw c1 c2 c3 it)) n t [ef es (tup (.str K tK :: rK)), et Lw (fq26 hs ks (.ref 660) (.ref us) (.ref ea) (.str wd_ wt) (.ref lo) (.ref si) (.ref vd) (.ref ts_) (.ref tf_) (.ref nd) (.int sv_ svt) (.ref du) (.ref ov) 13), et c1 (cel (some (.ref cl))), et c2 (cel (some (.int 1 ht))), et c3 (cel (some (.ref ga))), et ea (lst [.ref e0, .ref e1] (lp 3)), et ga (lst [.ref g0, .ref g1] (gp 0)), et du (lst ds de), et gs (lst [.int g0v g0t, .int g1v g1t] (gp 1)), et it (ri [.int 0 0, .int ((r + 2 : Nat)) 0, .int 1 0])] (q101 (q353 (q193 (q511 (q512 (q8 (hy 16898 []))))))) [(128106587276438692081757506308484131437, .rd 5 (fun _ => .ref es) 0), (32795286342768305172929921614907396159093, .rd 0 (fun _ => .str (K) tK) 0), (455126313168696234964340, .gv (fun _ => .bool true) 0), (122627580202994350266018413, .up 7 (lst (ds ++ [Value.int 0 t]) (de + 1)) .none 0), (7300717, .gv (fun t => .int (↑wd_.length) (t + 1)) 2), (455126531311803185852266, .gv (fun _ => .bool true) 0), (128106587276438692081757506308484131437, .rd 6 (fun _ => .ref gs) 0), (500416356548588640944365259017385332, .gv (fun t => .str ({ cps := #[cond lb 98 97] }) t) 1), (128106587276438692081757506308484131437, .rd 8 (fun _ => .int (gv) gvt) 0)]) [1, 2, 3, 4, 5, 6, 7, 8, 9] (fC p 11 Lw c1 c2 c3 it) n (t + 10) [et Lw (fq27 hs ks p (.ref 660) (.ref us) (.ref ea) (.str (wd_) wt) (.ref lo) (.ref si) (.ref vd) (.ref ts_) (.ref tf_) (.ref nd) (.int (gv) gvt) (.ref du) (.ref ov) (t + 1) (.int 0 t) 14), et c1 (cel (some (.ref cl))), et c2 (cel (some (.int 1 ht))), et c3 (cel (some (.ref ga))), et ea (lst [.ref e0, .ref e1] (lp 3)), et ga (lst [.ref g0, .ref g1] (gp 0)), et du (lst (ds ++ [Value.int 0 t]) (de + 1)), et gs (lst [.int (g0v) g0t, .int (g1v) g1t] (gp 1)), et it (ri [.int 1 0, .int ((r + 1 : Nat)) 0, .int 1 0])] [.rd 128106587276438692081757506308484131437 [.ref gs, .int ((cond lb 1 0 : Nat)) (t + 8)] gs (lst [.int (g0v) g0t, .int (g1v) g1t] (gp 1)) (fun _ => .int (gv) gvt) 0, .gv 500416356548588640944365259017385332 [.str (wd_) wt, .int 0 t] (fun t => .str ({ cps := #[cond lb 98 97] }) t) 1, .rd 128106587276438692081757506308484131437 [.ref ga, .int (sv_) svt] ga (lst [.ref g0, .ref g1] (gp 0)) (fun _ => .ref gs) 0, .gv 455126531311803185852266 [.int 0 t, .int (↑wd_.length) (t + 5)] (fun _ => .bool true) 0, .gv 7300717 [.str (wd_) wt] (fun t => .int (↑wd_.length) (t + 1)) 2, .up 122627580202994350266018413 [.ref du, .int 0 t] du (lst (ds) de) (lst (ds ++ [Value.int 0 t]) (de + 1)) .none 0, .gv 455126313168696234964340 [.str (K) tK, sv n_chars (t + 3)] (fun _ => .bool true) 0, .rd 32795286342768305172929921614907396159093 [.ref es, .int 0 (t + 2)] es (tup (Value.str K tK :: rK)) (fun _ => .str (K) tK) 0, .rd 128106587276438692081757506308484131437 [.ref ea, .int (sv_) svt] ea (lst [.ref e0, .ref e1] (lp 3)) (fun _ => .ref es) 0] := by show _ = _; rcases hr with rfl | rfl | rfl | rfl | rfl <;> cases lb <;> cases b1 <;> kernel_rfl
theorem lw_db1_0 (p : Params) (b1 b2 : Bool) (n t : Nat) (Lw c1 c2 c3 it : Nat) (hs : Nat → Int) (ks : Nat → Nat) (us : Nat) (cl ga ea lo si vd ts_ tf_ nd du ov ht wt svt de : Nat) (sv_ : Int) (gp lp : Nat → Nat) (ds : List Value) (wd_ : Str) (e0 e1 g0 g1 es gs : Nat) (at_ gv : Int) (ta gvt tK ch : Nat) (K : Str) (rK : List Value) (ix : Int) (ao : Int) (ao_t : Nat) : FinT (rn p b1 b2 (fC p 11 Lw c1 c2 c3 it) (den (fC p 11 Lw c1 c2 c3 it)) n t [ef es (tup (.str K tK :: rK)), et Lw (fq28 hs ks (.ref 660) (.ref us) (.ref ea) (.str wd_ wt) (.ref lo) (.ref si) (.ref vd) (.ref ts_) (.ref tf_) (.ref nd) (.int sv_ svt) (.ref du) (.ref ov) (.int ao ao_t) 14), et c1 (cel (some (.ref cl))), et c2 (cel (some (.int 1 ht))), et c3 (cel (some (.ref ga))), et ea (lst [.ref e0, .ref e1] (lp 3)), et ga (lst [.ref g0, .ref g1] (gp 0)), et du (lst ds de), et it (ri [.int at_ 0, .int 1 0, .int 1 0])] (q510 (q98 (q12 (hy 132 [])))) [(128106587276438692081757506308484131437, .rd 5 (fun _ => .ref es) 0), (32795286342768305172929921614907396159093, .rd 0 (fun _ => .str (K) tK) 0), (455126313168696234964340, .gv (fun _ => .bool false) 0), (7300717, .gv (fun t => .int (↑wd_.length) (t + 1)) 2), (455126531311803185852266, .gv (fun _ => .bool false) 0)]) [1, 2, 3, 4, 5, 6, 7, 8] (fC p 11 Lw c1 c2 c3 it) n (t + 6) [et Lw (fq29 hs ks (.ref 660) (.ref us) (.ref ea) (.str (wd_) wt) (.ref lo) (.ref si) (.ref vd) (.ref ts_) (.ref tf_) (.ref nd) (.int (sv_) svt) (.ref du) (.ref ov) (.int (at_) t) 14), et c1 (cel (some (.ref cl))), et c2 (cel (some (.int 1 ht))), et c3 (cel (some (.ref ga))), et ea (lst [.ref e0, .ref e1] (lp 3)), et ga (lst [.ref g0, .ref g1] (gp 0)), et du (lst (ds) de), et it (ri [.int (at_ + 1) 0, .int 0 0, .int 1 0])] [.gv 455126531311803185852266 [.int (at_) t, .int (↑wd_.length) (t + 5)] (fun _ => .bool false) 0, .gv 7300717 [.str (wd_) wt] (fun t => .int (↑wd_.length) (t + 1)) 2, .gv 455126313168696234964340 [.str (K) tK, sv n_chars (t + 3)] (fun _ => .bool false) 0, .rd 32795286342768305172929921614907396159093 [.ref es, .int 0 (t + 2)] es (tup (Value.str K tK :: rK)) (fun _ => .str (K) tK) 0, .rd 128106587276438692081757506308484131437 [.ref ea, .int (sv_) svt] ea (lst [.ref e0, .ref e1] (lp 3)) (fun _ => .ref es) 0] := by show _ = _; cases b1 <;> kernel_rfl
theorem lw_db1_1 (p : Params) (b1 b2 : Bool) (n t : Nat) (Lw c1 c2 c3 it : Nat) (hs : Nat → Int) (ks : Nat → Nat) (us : Nat) (cl ga ea lo si vd ts_ tf_ nd du ov ht wt svt de : Nat) (sv_ : Int) (gp lp : Nat → Nat) (ds : List Value) (wd_ : Str) (e0 e1 g0 g1 es gs : Nat) (at_ gv : Int) (ta gvt tK ch : Nat) (K : Str) (rK : List Value) (ix : Int) (ao : Int) (ao_t : Nat) : FinT (rn p b1 b2 (fC p 11 Lw c1 c2 c3 it) (den (fC p 11 Lw c1 c2 c3 it)) n t [ef es (tup (.str K tK :: rK)), et Lw (fq28 hs ks (.ref 660) (.ref us) (.ref ea) (.str wd_ wt) (.ref lo) (.ref si) (.ref vd) (.ref ts_) (.ref tf_) (.ref nd) (.int sv_ svt) (.ref du) (.ref ov) (.int ao ao_t) 14), et c1 (cel (some (.ref cl))), et c2 (cel (some (.int 1 ht))), et c3 (cel (some (.ref ga))), et ea (lst [.ref e0, .ref e1] (lp 3)), et ga (lst [.ref g0, .ref g1] (gp 0)), et du (lst ds de), et it (ri [.int at_ 0, .int 1 0, .int 1 0])] (q510 (q511 (q98 (q12 (hy 132 []))))) [(128106587276438692081757506308484131437, .rd 5 (fun _ => .ref es) 0), (32795286342768305172929921614907396159093, .rd 0 (fun _ => .str (K) tK) 0), (455126313168696234964340, .gv (fun _ => .bool true) 0), (122627580202994350266018413, .up 7 (lst (ds ++ [Value.int at_ t]) (de + 1)) .none 0), (7300717, .gv (fun t => .int (↑wd_.length) (t + 1)) 2), (455126531311803185852266, .gv (fun _ => .bool false) 0)]) [1, 2, 3, 4, 5, 6, 7, 8] (fC p 11 Lw c1 c2 c3 it) n (t + 6) [et Lw (fq29 hs ks (.ref 660) (.ref us) (.ref ea) (.str (wd_) wt) (.ref lo) (.ref si) (.ref vd) (.ref ts_) (.ref tf_) (.ref nd) (.int (sv_) svt) (.ref du) (.ref ov) (.int (at_) t) 14), et c1 (cel (some (.ref cl))), et c2 (cel (some (.int 1 ht))), et c3 (cel (some (.ref ga))), et ea (lst [.ref e0, .ref e1] (lp 3)), et ga (lst [.ref g0, .ref g1] (gp 0)), et du (lst (ds ++ [Value.int at_ t]) (de + 1)), et it (ri [.int (at_ + 1) 0, .int 0 0, .int 1 0])] [.gv 455126531311803185852266 [.int (at_) t, .int (↑wd_.length) (t + 5)] (fun _ => .bool false) 0, .gv 7300717 [.str (wd_) wt] (fun t => .int (↑wd_.length) (t + 1)) 2, .up 122627580202994350266018413 [.ref du, .int (at_) t] du (lst (ds) de) (lst (ds ++ [Value.int at_ t]) (de + 1)) .none 0, .gv 455126313168696234964340 [.str (K) tK, sv n_chars (t + 3)] (fun _ => .bool true) 0, .rd 32795286342768305172929921614907396159093 [.ref es, .int 0 (t + 2)] es (tup (Value.str K tK :: rK)) (fun _ => .str (K) tK) 0, .rd 128106587276438692081757506308484131437 [.ref ea, .int (sv_) svt] ea (lst [.ref e0, .ref e1] (lp 3)) (fun _ => .ref es) 0] := by show _ = _; cases b1 <;> kernel_rfl
theorem lw_db2_0 (p : Params) (b1 b2 : Bool) (n t : Nat) (Lw c1 c2 c3 it : Nat) (hs : Nat → Int) (ks : Nat → Nat) (us : Nat) (cl ga ea lo si vd ts_ tf_ nd du ov ht wt svt de : Nat) (sv_ : Int) (gp lp : Nat → Nat) (ds : List Value) (wd_ : Str) (e0 e1 g0 g1 es gs : Nat) (at_ gv : Int) (ta gvt tK ch : Nat) (K : Str) (rK : List Value) (ix : Int) (ao : Int) (ao_t : Nat) (g0v g1v : Int) (g0t g1t r : Nat) (lb : Bool) (hr : r = 0 ∨ r = 1 ∨ r = 2 ∨ r = 3) : FinT (rn p b1 b2 (fC p 11 Lw c1 c2 c3 it) (den (fC p 11 Lw c1 c2 c3 it)) n t [ef es (tup (.str K tK :: rK)), et Lw (fq28 hs ks (.ref 660) (.ref us) (.ref ea) (.str wd_ wt) (.ref lo) (.ref si) (.ref vd) (.ref ts_) (.ref tf_) (.ref nd) (.int sv_ svt) (.ref du) (.ref ov) (.int ao ao_t) 14), et c1 (cel (some (.ref cl))), et c2 (cel (some (.int 1 ht))), et c3 (cel (some (.ref ga))), et ea (lst [.ref e0, .ref e1] (lp 3)), et ga (lst [.ref g0, .ref g1] (gp 0)), et du (lst ds de), et gs (lst [.int g0v g0t, .int g1v g1t] (gp 1)), et it (ri [.int at_ 0, .int ((r + 2 : Nat)) 0, .int 1 0])] (q101 (q353 (q193 (q512 (q8 (hy 16898 [])))))) [(128106587276438692081757506308484131437, .rd 5 (fun _ => .ref es) 0), (32795286342768305172929921614907396159093, .rd 0 (fun _ => .str (K) tK) 0), (455126313168696234964340, .gv (fun _ => .bool false) 0), (7300717, .gv (fun t => .int (↑wd_.length) (t + 1)) 2), (455126531311803185852266, .gv (fun _ => .bool true) 0), (128106587276438692081757506308484131437, .rd 6 (fun _ => .ref gs) 0), (500416356548588640944365259017385332, .gv (fun t => .str ({ cps := #[cond lb 98 97] }) t) 1), (128106587276438692081757506308484131437, .rd 8 (fun _ => .int (gv) gvt) 0)]) [1, 2, 3, 4, 5, 6, 7, 8, 9] (fC p 11 Lw c1 c2 c3 it) n (t + 10) [et Lw (fq29 hs ks (.ref 660) (.ref us) (.ref ea) (.str (wd_) wt) (.ref lo) (.ref si) (.ref vd) (.ref ts_) (.ref tf_) (.ref nd) (.int (gv) gvt) (.ref du) (.ref ov) (.int (at_) t) 14), et c1 (cel (some (.ref cl))), et c2 (cel (some (.int 1 ht))), et c3 (cel (some (.ref ga))), et ea (lst [.ref e0, .ref e1] (lp 3)), et ga (lst [.ref g0, .ref g1] (gp 0)), et du (lst (ds) de), et gs (lst [.int (g0v) g0t, .int (g1v) g1t] (gp 1)), et it (ri [.int (at_ + 1) 0, .int ((r + 1 : Nat)) 0, .int 1 0])] [.rd 128106587276438692081757506308484131437 [.ref gs, .int ((cond lb 1 0 : Nat)) (t + 8)] gs (lst [.int (g0v) g0t, .int (g1v) g1t] (gp 1)) (fun _ => .int (gv) gvt) 0, .gv 500416356548588640944365259017385332 [.str (wd_) wt, .int (at_) t] (fun t => .str ({ cps := #[cond lb 98 97] }) t) 1, .rd 128106587276438692081757506308484131437 [.ref ga, .int (sv_) svt] ga (lst [.ref g0, .ref g1] (gp 0)) (fun _ => .ref gs) 0, .gv 455126531311803185852266 [.int (at_) t, .int (↑wd_.length) (t + 5)] (fun _ => .bool true) 0, .gv 7300717 [.str (wd_) wt] (fun t => .int (↑wd_.length) (t + 1)) 2, .gv 455126313168696234964340 [.str (K) tK, sv n_chars (t + 3)] (fun _ => .bool false) 0, .rd 32795286342768305172929921614907396159093 [.ref es, .int 0 (t + 2)] es (tup (Value.str K tK :: rK)) (fun _ => .str (K) tK) 0, .rd 128106587276438692081757506308484131437 [.ref ea, .int (sv_) svt] ea (lst [.ref e0, .ref e1] (lp 3)) (fun _ => .ref es) 0] := by show _ = _; rcases hr with rfl | rfl | rfl | rfl <;> cases lb <;> cases b1 <;> kernel_rfl
theorem lw_db2_1 (p : Params) (b1 b2 : Bool) (n t : Nat) (Lw c1 c2 c3 it : Nat) (hs : Nat → Int) (ks : Nat → Nat) (us : Nat) (cl ga ea lo si vd ts_ tf_ nd du ov ht wt svt de : Nat) (sv_ : Int) (gp lp : Nat → Nat) (ds : List Value) (wd_ : Str) (e0 e1 g0 g1 es gs : Nat) (at_ gv : Int) (ta gvt tK ch : Nat) (K : Str) (rK : List Value) (ix : Int) (ao : Int) (ao_t : Nat) (g0v g1v : Int) (g0t g1t r : Nat) (lb : Bool) (hr : r = 0 ∨ r = 1 ∨ r = 2 ∨ r = 3) : FinT (rn p b1 b2 (fC p 11 Lw c1 c2 c3 it) (den (fC p 11 Lw c1 c2 c3 it)) n t [ef es (tup (.str K tK :: rK)), et Lw (fq28 hs ks (.ref 660) (.ref us) (.ref ea) (.str wd_ wt) (.ref lo) (.ref si) (.ref vd) (.ref ts_) (.ref tf_) (.ref nd) (.int sv_ svt) (.ref du) (.ref ov) (.int ao ao_t) 14), et c1 (cel (some (.ref cl))), et c2 (cel (some (.int 1 ht))), et c3 (cel (some (.ref ga))), et ea (lst [.ref e0, .ref e1] (lp 3)), et ga (lst [.ref g0, .ref g1] (gp 0)), et du (lst ds de), et gs (lst [.int g0v g0t, .int g1v g1t] (gp 1)), et it (ri [.int at_ 0, .int ((r + 2 : Nat)) 0, .int 1 0])] (q101 (q353 (q193 (q511 (q512 (q8 (hy 16898 []))))))) [(128106587276438692081757506308484131437, .rd 5 (fun _ => .ref es) 0), (32795286342768305172929921614907396159093, .rd 0 (fun _ => .str (K) tK) 0), (455126313168696234964340, .gv (fun _ => .bool true) 0), (122627580202994350266018413, .up 7 (lst (ds ++ [Value.int at_ t]) (de + 1)) .none 0), (7300717, .gv (fun t => .int (↑wd_.length) (t + 1)) 2), (455126531311803185852266, .gv (fun _ => .bool true) 0), (128106587276438692081757506308484131437, .rd 6 (fun _ => .ref gs) 0), (500416356548588640944365259017385332, .gv (fun t => .str ({ cps := #[cond lb 98 97] }) t) 1), (128106587276438692081757506308484131437, .rd 8 (fun _ => .int (gv) gvt) 0)]) [1, 2, 3, 4, 5, 6, 7, 8, 9] (fC p 11 Lw c1 c2 c3 it) n (t + 10) [et Lw (fq29 hs ks (.ref 660) (.ref us) (.ref ea) (.str (wd_) wt) (.ref lo) (.ref si) (.ref vd) (.ref ts_) (.ref tf_) (.ref nd) (.int (gv) gvt) (.ref du) (.ref ov) (.int (at_) t) 14), et c1 (cel (some (.ref cl))), et c2 (cel (some (.int 1 ht))), et c3 (cel (some (.ref ga))), et ea (lst [.ref e0, .ref e1] (lp 3)), et ga (lst [.ref g0, .ref g1] (gp 0)), et du (lst (ds ++ [Value.int at_ t]) (de + 1)), et gs (lst [.int (g0v) g0t, .int (g1v) g1t] (gp 1)), et it (ri [.int (at_ + 1) 0, .int ((r + 1 : Nat)) 0, .int 1 0])] [.rd 128106587276438692081757506308484131437 [.ref gs, .int ((cond lb 1 0 : Nat)) (t + 8)] gs (lst [.int (g0v) g0t, .int (g1v) g1t] (gp 1)) (fun _ => .int (gv) gvt) 0, .gv 500416356548588640944365259017385332 [.str (wd_) wt, .int (at_) t] (fun t => .str ({ cps := #[cond lb 98 97] }) t) 1, .rd 128106587276438692081757506308484131437 [.ref ga, .int (sv_) svt] ga (lst [.ref g0, .ref g1] (gp 0)) (fun _ => .ref gs) 0, .gv 455126531311803185852266 [.int (at_) t, .int (↑wd_.length) (t + 5)] (fun _ => .bool true) 0, .gv 7300717 [.str (wd_) wt] (fun t => .int (↑wd_.length) (t + 1)) 2, .up 122627580202994350266018413 [.ref du, .int (at_) t] du (lst (ds) de) (lst (ds ++ [Value.int at_ t]) (de + 1)) .none 0, .gv 455126313168696234964340 [.str (K) tK, sv n_chars (t + 3)] (fun _ => .bool true) 0, .rd 32795286342768305172929921614907396159093 [.ref es, .int 0 (t + 2)] es (tup (Value.str K tK :: rK)) (fun _ => .str (K) tK) 0, .rd 128106587276438692081757506308484131437 [.ref ea, .int (sv_) svt] ea (lst [.ref e0, .ref e1] (lp 3)) (fun _ => .ref es) 0] := by show _ = _; rcases hr with rfl | rfl | rfl | rfl <;> cases lb <;> cases b1 <;> kernel_rfl
theorem lw_d_end (p : Params) (b1 b2 : Bool) (n t : Nat) (Lw c1 c2 c3 it : Nat) (hs : Nat → Int) (ks : Nat → Nat) (us : Nat) (cl ga ea lo si vd ts_ tf_ nd du ov ht wt svt de : Nat) (sv_ : Int) (gp lp : Nat → Nat) (ds : List Value) (wd_ : Str) (at_ ao : Int) (ao_t : Nat) : FinI (rn p b1 b2 (fC p 11 Lw c1 c2 c3 it) (den (fC p 11 Lw c1 c2 c3 it)) n t [et Lw (fq28 hs ks (.ref 660) (.ref us) (.ref ea) (.str wd_ wt) (.ref lo) (.ref si) (.ref vd) (.ref ts_) (.ref tf_) (.ref nd) (.int sv_ svt) (.ref du) (.ref ov) (.int ao ao_t) 14), et c1 (cel (some (.ref cl))), et c2 (cel (some (.int 1 ht))), et c3 (cel (some (.ref ga))), et du (lst ds de), et it (ri [.int at_ 0, .int 0 0, .int 1 0])] (q413 []) []) [2, 3, 4, 5, 6, 7] (.ok .next) (n + 2) t [et Lw (fq29 hs ks (.ref 660) (.ref us) (.ref ea) (.str (wd_) wt) (.ref lo) (.ref si) (.ref vd) (.ref ts_) (.ref tf_) (.ref nd) (.int (sv_) svt) (.ref du) (.ref ov) (.int (ao) ao_t) 14), et c1 (cel (some (.ref cl))), et c2 (cel (some (.int 1 ht))), et c3 (cel (some (.ref ga))), et du (lst (ds) de), et it (ri [.int (at_) 0, .int 0 0, .int 1 0])] [] := by show _ = _; kernel_rfl
theorem lw_asked (p : Params) (b1 b2 : Bool) (n t : Nat) (Lw c1 c2 c3 : Nat) (hs : Nat → Int) (ks : Nat → Nat) (us : Nat) (cl ga ea lo si vd ts_ tf_ nd du ov ht wt svt de : Nat) (sv_ : Int) (gp lp : Nat → Nat) (ds : List Value) (wd_ : Str) (ao : Int) (ao_t : Nat) : FinI (rn p b1 b2 (.func (bodyAt p 659) (envL p Lw c1 c2 c3)) (execsT (lS p 12 1) (envL p Lw c1 c2 c3)) n t [et Lw (fq28 hs ks (.ref 660) (.ref us) (.ref ea) (.str wd_ wt) (.ref lo) (.ref si) (.ref vd) (.ref ts_) (.ref tf_) (.ref nd) (.int sv_ svt) (.ref du) (.ref ov) (.int ao ao_t) 14), et c1 (cel (some (.ref cl))), et c2 (cel (some (.int 1 ht))), et c3 (cel (some (.ref ga)))] (q6 []) []) [0, 1, 2, 3, 4, 5] (.ok .next) (n + 2) (t + 4) [ef (n + 1) (tup [sv n_delay t, .ref n]), ef n (tup [sv n_name (t + 1), sv [80] (t + 2)]), et Lw (fo [eh hs ks 0 n_script (.ref 660), eh hs ks 1 n_usual (.ref us), eh hs ks 2 n_ends (.ref ea), eh hs ks 3 n_word (.str (wd_) wt), eh hs ks 4 n_lots (.ref lo), eh hs ks 5 n_signs (.ref si), eh hs ks 6 n_values (.ref vd), eh hs ks 7 n_to_second (.ref ts_), eh hs ks 8 n_to_first (.ref tf_), eh hs ks 9 n_node (.ref nd), eh hs ks 10 n_state (.int (sv_) svt), eh hs ks 11 n_due (.ref du), eh hs ks 12 n_over (.ref ov), eh hs ks 13 [97, 116] (.int (ao) ao_t), ek p n_asked (t + 3) (.ref (n + 1))] 15), et c1 (cel (some (.ref cl))), et c2 (cel (some (.int 1 ht))), et c3 (cel (some (.ref ga)))] [] := by show _ = _; kernel_rfl
noncomputable def lw_long2_o (p : Params) (b1 b2 : Bool) (n t : Nat) (Lw c1 c2 c3 : Nat) (hs : Nat → Int) (ks : Nat → Nat) (x0 x1 x2 : Int) (w0 w1 w2 : Nat) (vs : List Value) (n2 t2 sl : Nat) (T0 T1 T2 : Nat → Nat) (k0 k1 k2 : Nat) : Out := outK (lw_long1_o p b1 b2 n t Lw c1 c2 c3 hs ks x0 x1 x2 w0 w1 w2 vs) ((.ok (.ret (.ref sl)))) ⟨(n2), (t2), ([et sl (lst [.int x0 w0, .int x1 w1, .int x2 w2] 0), et n (lst [.int 25 t, .int 3 (t + 1), .int 2 (t + 2)] 0), et Lw (fq18 hs ks p (.ref 660) (t + 3) (.ref n) 2), et c1 (cel none), et c2 (cel none), et c3 (cel none), ⟨660, { cls := .type "list", data := .seq ⟨(.int x0 w0 :: .int x1 w1 :: .int x2 w2 :: vs)⟩ }, false⟩]), (cond b2 (q7 (q2 (q84 (q513 [])))) (q7 (q2 (q85 (q513 []))))),
    [(116512372849064760722157418, .gv (fun t => .int (↑x0.natAbs) (T0 t)) k0), (116512372849064760722157418, .gv (fun t => .int (↑x1.natAbs) (T1 t)) k1), (116512372849064760722157418, .gv (fun t => .int (↑x2.natAbs) (T2 t)) k2)], [], []⟩
theorem lw_long2 (p : Params) (b1 b2 : Bool) (n t : Nat) (Lw c1 c2 c3 : Nat) (hs : Nat → Int) (ks : Nat → Nat) (x0 x1 x2 : Int) (w0 w1 w2 : Nat) (vs : List Value) (n2 t2 sl : Nat) (T0 T1 T2 : Nat → Nat) (k0 k1 k2 : Nat) : FinS (lw_long2_o p b1 b2 n t Lw c1 c2 c3 hs ks x0 x1 x2 w0 w1 w2 vs n2 t2 sl T0 T1 T2 k0 k1 k2) [0, 4, 6, 7, 8, 9, 10, 11, 12] 1 none (.call (.builtin "list.__getitem__") ⟨[.ref 660, .ref (n2 + 5)], []⟩) (n2 + 6) ((fun z => Nat.add z k2) ((t2.succ.add k0).succ.add k1).succ + 1) [⟨(n2 + 5), { cls := .type "slice", data := .fields ⟨[.none, .int 3 ((fun z => Nat.add z k2) ((t2.succ.add k0).succ.add k1).succ), .none]⟩ }, true⟩, et (n2 + 1) (lst [.int (↑x0.natAbs) (T0 t2.succ), .int (↑x1.natAbs) (T1 (t2.succ.add k0).succ), .int (↑x2.natAbs) (T2 ((t2.succ.add k0).succ.add k1).succ)] 3), et sl (lst [.int (x0) w0, .int (x1) w1, .int (x2) w2] 0), et n (lst [.int 25 t, .int 3 (t + 1), .int 2 (t + 2)] 0), et Lw (fq18 hs ks p (.ref 660) (t + 3) (.ref n) 2), et c1 (cel none), et c2 (cel none), et c3 (cel none), ef 660 (lst (Value.int x0 w0 :: Value.int x1 w1 :: Value.int x2 w2 :: vs) 0)] [.gv 116512372849064760722157418 [.int (x2) w2] (fun t => .int (↑x2.natAbs) (T2 t)) k2, .gv 116512372849064760722157418 [.int (x1) w1] (fun t => .int (↑x1.natAbs) (T1 t)) k1, .gv 116512372849064760722157418 [.int (x0) w0] (fun t => .int (↑x0.natAbs) (T0 t)) k0] := by show _ = _; cases b1 <;> cases b2 <;> kernel_rfl
theorem lw_long3 (p : Params) (b1 b2 : Bool) (n t : Nat) (Lw c1 c2 c3 : Nat) (hs : Nat → Int) (ks : Nat → Nat) (x0 x1 x2 : Int) (w0 w1 w2 : Nat) (vs : List Value) (n2 t2 sl : Nat) (T0 T1 T2 : Nat → Nat) (k0 k1 k2 : Nat) (n3 t3 sl2 y0 y1 y2 : Nat) : FinI (outK (lw_long2_o p b1 b2 n t Lw c1 c2 c3 hs ks x0 x1 x2 w0 w1 w2 vs n2 t2 sl T0 T1 T2 k0 k1 k2) ((.ok (.ret (.ref sl2)))) ⟨(n3), (t3), ([et sl2 (lst [.int x0 w0, .int x1 w1, .int x2 w2] 0), ⟨n2 + 1, lst [.int (x0.natAbs : Int) y0, .int (x1.natAbs : Int) y1, .int (x2.natAbs : Int) y2] 3, true⟩, et n (lst [.int 25 t, .int 3 (t + 1), .int 2 (t + 2)] 0), et Lw (fq18 hs ks p (.ref 660) (t + 3) (.ref n) 2), et c1 (cel none), et c2 (cel none), et c3 (cel none), ⟨660, { cls := .type "list", data := .seq ⟨(.int x0 w0 :: .int x1 w1 :: .int x2 w2 :: vs)⟩ }, false⟩]), (cond b2 (q0 (q2 (q2 (hy 129 (q25 (q26 (q1 (q20 (q10 (hy 16897 (q26 (hy 2114049 (q21 []))))))))))))) (q0 (q2 (q2 (hy 129 (q25 (q26 (q1 (q20 (q10 (hy 16897 (q26 (hy 2114049 (q21 [])))))))))))))),
    [], [], []⟩) [0, 3, 4, 5, 6, 7, 8, 9, 10] (.ok .next) (n3 + 3) (t3 + 2) [et (n3 + 2) (lst [.int (↑x0.natAbs) y0, .int (↑x1.natAbs) y1, .int (↑x2.natAbs) y2] 0), et sl2 (lst [.int (x0) w0, .int (x1) w1, .int (x2) w2] 0), et (n2 + 1) (lst [.int (↑x0.natAbs) y0, .int (↑x1.natAbs) y1, .int (↑x2.natAbs) y2] 3), et n (lst [.int 25 t, .int 3 (t + 1), .int 2 (t + 2)] 0), et Lw (fq18 hs ks p (.ref 660) (t + 3) (.ref n) 2), et c1 (cel (some (.ref (n3 + 2)))), et c2 (cel none), et c3 (cel none), ef 660 (lst (Value.int x0 w0 :: Value.int x1 w1 :: Value.int x2 w2 :: vs) 0)] [] := by show _ = _; cases b1 <;> cases b2 <;> kernel_rfl
noncomputable def lw_l1_o (p : Params) (b1 b2 : Bool) (n t : Nat) (Lw c1 c2 c3 : Nat) (hs : Nat → Int) (ks : Nat → Nat) (us : Nat) (cl ga ea lo si vd ts_ tf_ nd du ov ht wt svt de : Nat) (sv_ : Int) (gp lp : Nat → Nat) (ds : List Value) (wd_ : Str) (ao : Int) (ao_t ak : Nat) : Out := run ((pv0 p b1 b2)) 100000 0 none ((.func (bodyAt p 659) (envL p Lw c1 c2 c3))) ((evalT (ifL (lIf p)) (envL p Lw c1 c2 c3))) .ret ⟨n, t, ([et Lw (fq30 hs ks (.ref 660) (.ref us) (.ref ea) (.str wd_ wt) (.ref lo) (.ref si) (.ref vd) (.ref ts_) (.ref tf_) (.ref nd) (.int sv_ svt) (.ref du) (.ref ov) (.int ao ao_t) (.ref ak) 15)]), (hy 128 (q1 (q2 (hy 129 [])))),
    [], [], []⟩
theorem lw_l1 (p : Params) (b1 b2 : Bool) (n t : Nat) (Lw c1 c2 c3 : Nat) (hs : Nat → Int) (ks : Nat → Nat) (us : Nat) (cl ga ea lo si vd ts_ tf_ nd du ov ht wt svt de : Nat) (sv_ : Int) (gp lp : Nat → Nat) (ds : List Value) (wd_ : Str) (ao : Int) (ao_t ak : Nat) : FinS (lw_l1_o p b1 b2 n t Lw c1 c2 c3 hs ks us cl ga ea lo si vd ts_ tf_ nd du ov ht wt svt de sv_ gp lp ds wd_ ao ao_t ak) [0] 1 none (.call (.ref 654) ⟨[.ref ak, .str wd_ wt, .ref vd, .bool true], []⟩) n t [et Lw (fq31 hs ks (.ref 660) (.ref us) (.ref ea) (.str (wd_) wt) (.ref lo) (.ref si) (.ref vd) (.ref ts_) (.ref tf_) (.ref nd) (.int (sv_) svt) (.ref du) (.ref ov) (.int (ao) ao_t) (.ref ak) 15)] [] := by show _ = _; kernel_rfl
theorem lw_l1r (p : Params) (b1 b2 : Bool) (n t : Nat) (Lw c1 c2 c3 : Nat) (hs : Nat → Int) (ks : Nat → Nat) (us : Nat) (cl ga ea lo si vd ts_ tf_ nd du ov ht wt svt de : Nat) (sv_ : Int) (gp lp : Nat → Nat) (ds : List Value) (wd_ : Str) (ao : Int) (ao_t ak : Nat) (n2 t2 rl : Nat) : FinI (outK (lw_l1_o p b1 b2 n t Lw c1 c2 c3 hs ks us cl ga ea lo si vd ts_ tf_ nd du ov ht wt svt de sv_ gp lp ds wd_ ao ao_t ak) ((.ok (.ret (.ref rl)))) ⟨(n2), (t2), ([]), (hy 128 []),
    [], [], []⟩) [] (.ok (.ret (.ref rl))) n2 t2 [] [] := by show _ = _; kernel_rfl
theorem lw_r1 (p : Params) (b1 b2 : Bool) (n t : Nat) (Lw c1 c2 c3 : Nat) (hs : Nat → Int) (ks : Nat → Nat) (us : Nat) (cl ga ea lo si vd ts_ tf_ nd du ov ht wt svt de : Nat) (sv_ : Int) (gp lp : Nat → Nat) (ds : List Value) (wd_ : Str) (ao : Int) (ao_t ak : Nat) : FinI (rn p b1 b2 (.func (bodyAt p 659) (envL p Lw c1 c2 c3)) (evalT (ifR (lIf p)) (envL p Lw c1 c2 c3)) n t [et Lw (fq30 hs ks (.ref 660) (.ref us) (.ref ea) (.str wd_ wt) (.ref lo) (.ref si) (.ref vd) (.ref ts_) (.ref tf_) (.ref nd) (.int sv_ svt) (.ref du) (.ref ov) (.int ao ao_t) (.ref ak) 15)] (hy 129 []) []) [0] (.ok (.ret (.ref du))) n t [et Lw (fq31 hs ks (.ref 660) (.ref us) (.ref ea) (.str (wd_) wt) (.ref lo) (.ref si) (.ref vd) (.ref ts_) (.ref tf_) (.ref nd) (.int (sv_) svt) (.ref du) (.ref ov) (.int (ao) ao_t) (.ref ak) 15)] [] := by show _ = _; kernel_rfl
theorem lw_r2 (p : Params) (b1 b2 : Bool) (n t : Nat) (Lw c1 c2 c3 : Nat) (hs : Nat → Int) (ks : Nat → Nat) (us : Nat) (cl ga ea lo si vd ts_ tf_ nd du ov ht wt svt de : Nat) (sv_ : Int) (gp lp : Nat → Nat) (ds : List Value) (wd_ : Str) (ao : Int) (ao_t ak : Nat) : FinI (rn p b1 b2 (.func (bodyAt p 659) (envL p Lw c1 c2 c3)) (evalT (rR (lRet p)) (envL p Lw c1 c2 c3)) n t [et Lw (fq30 hs ks (.ref 660) (.ref us) (.ref ea) (.str wd_ wt) (.ref lo) (.ref si) (.ref vd) (.ref ts_) (.ref tf_) (.ref nd) (.int sv_ svt) (.ref du) (.ref ov) (.int ao ao_t) (.ref ak) 15)] (hy 129 []) []) [0] (.ok (.ret (.ref du))) n t [et Lw (fq31 hs ks (.ref 660) (.ref us) (.ref ea) (.str (wd_) wt) (.ref lo) (.ref si) (.ref vd) (.ref ts_) (.ref tf_) (.ref nd) (.int (sv_) svt) (.ref du) (.ref ov) (.int (ao) ao_t) (.ref ak) 15)] [] := by show _ = _; kernel_rfl
noncomputable def lw_l2_o (p : Params) (b1 b2 : Bool) (n t : Nat) (Lw c1 c2 c3 : Nat) (hs : Nat → Int) (ks : Nat → Nat) (us : Nat) (cl ga ea lo si vd ts_ tf_ nd du ov ht wt svt de : Nat) (sv_ : Int) (gp lp : Nat → Nat) (ds : List Value) (wd_ : Str) (ao : Int) (ao_t ak : Nat) : Out := run ((pv0 p b1 b2)) 100000 0 none ((.func (bodyAt p 659) (envL p Lw c1 c2 c3))) ((evalT (rL (lRet p)) (envL p Lw c1 c2 c3))) .ret ⟨n, t, ([et Lw (fq30 hs ks (.ref 660) (.ref us) (.ref ea) (.str wd_ wt) (.ref lo) (.ref si) (.ref vd) (.ref ts_) (.ref tf_) (.ref nd) (.int sv_ svt) (.ref du) (.ref ov) (.int ao ao_t) (.ref ak) 15)]), (hy 128 (q16 [])),
    [], [], []⟩
theorem lw_l2 (p : Params) (b1 b2 : Bool) (n t : Nat) (Lw c1 c2 c3 : Nat) (hs : Nat → Int) (ks : Nat → Nat) (us : Nat) (cl ga ea lo si vd ts_ tf_ nd du ov ht wt svt de : Nat) (sv_ : Int) (gp lp : Nat → Nat) (ds : List Value) (wd_ : Str) (ao : Int) (ao_t ak : Nat) : FinS (lw_l2_o p b1 b2 n t Lw c1 c2 c3 hs ks us cl ga ea lo si vd ts_ tf_ nd du ov ht wt svt de sv_ gp lp ds wd_ ao ao_t ak) [0, 1] 1 none (.call (.ref 654) ⟨[.ref nd, .str wd_ wt, .ref n, .bool false], []⟩) (n + 1) t [et n (di [] 0), et Lw (fq31 hs ks (.ref 660) (.ref us) (.ref ea) (.str (wd_) wt) (.ref lo) (.ref si) (.ref vd) (.ref ts_) (.ref tf_) (.ref nd) (.int (sv_) svt) (.ref du) (.ref ov) (.int (ao) ao_t) (.ref ak) 15)] [] := by show _ = _; kernel_rfl
theorem lw_l2r (p : Params) (b1 b2 : Bool) (n t : Nat) (Lw c1 c2 c3 : Nat) (hs : Nat → Int) (ks : Nat → Nat) (us : Nat) (cl ga ea lo si vd ts_ tf_ nd du ov ht wt svt de : Nat) (sv_ : Int) (gp lp : Nat → Nat) (ds : List Value) (wd_ : Str) (ao : Int) (ao_t ak : Nat) (n2 t2 rl : Nat) : FinI (outK (lw_l2_o p b1 b2 n t Lw c1 c2 c3 hs ks us cl ga ea lo si vd ts_ tf_ nd du ov ht wt svt de sv_ gp lp ds wd_ ao ao_t ak) ((.ok (.ret (.ref rl)))) ⟨(n2), (t2), ([]), (hy 128 []),
    [], [], []⟩) [] (.ok (.ret (.ref rl))) n2 t2 [] [] := by show _ = _; kernel_rfl
end
section
open PySem PySem.W PySem.W.X PySem.Calls PySem.Spec PyProof.Rows
section
variable {X : Cx} {s s' : Shared} {L : List En}
noncomputable def pk (idx : List Nat) (L : List En) : List En := idx.filterMap fun i => L[i]?
theorem Inv.pick (idx : List Nat) (h : idx.Nodup) (I : Inv X s L) : Inv X s (pk idx L) := by
  have mem : ∀ e ∈ pk idx L, e ∈ L := fun e he => by
    obtain ⟨i, _, hi⟩ := List.mem_filterMap.mp he
    exact List.mem_of_getElem? hi
  refine ⟨I.good, fun e he => I.get e (mem e he), ?_, fun e he => I.low e (mem e he), fun e he => I.nt e (mem e he)⟩
  unfold pk
  rw [List.pairwise_filterMap]
  refine h.imp fun {i j} hij => fun x hx y hy => ?_
  have hx : L[i]? = some x := hx
  have hy : L[j]? = some y := hy
  obtain ⟨hi, rfl⟩ := List.getElem?_eq_some_iff.mp hx
  obtain ⟨hj, rfl⟩ := List.getElem?_eq_some_iff.mp hy
  have P := List.pairwise_iff_getElem.mp I.ap
  rcases Nat.lt_or_gt_of_ne hij with h | h
  · exact P i j hi hj h
  · exact (P j i hj hi h).symm
noncomputable def frz : List Bool → List En → List En
  | true :: m, e :: l => ⟨e.a, e.o, false⟩ :: frz m l
  | false :: m, e :: l => e :: frz m l
  | _, l => l
inductive Wk : List En → List En → Prop
  | nil : Wk [] []
  | cons {e e' : En} {l l' : List En} (h : e'.a = e.a ∧ e'.o = e.o ∧ (e'.m = true → e.m = true)) (t : Wk l l') : Wk (e :: l) (e' :: l')
theorem frz_sub : ∀ (m : List Bool) (L : List En), Wk L (frz m L)
  | [], L => by
    unfold frz
    induction L with
    | nil => exact .nil
    | cons e L ih => exact .cons ⟨rfl, rfl, id⟩ ih
  | _ :: _, [] => by rename_i b _; cases b <;> exact .nil
  | true :: m, e :: l => .cons ⟨rfl, rfl, fun h => nomatch h⟩ (frz_sub m l)
  | false :: m, e :: l => .cons ⟨rfl, rfl, id⟩ (frz_sub m l)
theorem Wk.mem {l l' : List En} (h : Wk l l') : ∀ y ∈ l', ∃ x ∈ l, y.a = x.a ∧ y.o = x.o ∧ (y.m = true → x.m = true) := by
  induction h with
  | nil => intro y hy; cases hy
  | cons h _ ih =>
    intro y hy
    rcases List.mem_cons.mp hy with rfl | hy
    · exact ⟨_, List.mem_cons_self .., h⟩
    · obtain ⟨x, hx, h⟩ := ih y hy
      exact ⟨x, List.mem_cons_of_mem _ hx, h⟩
theorem Wk.pw {l l' : List En} (h : Wk l l') (p : l.Pairwise Apart) : l'.Pairwise Apart := by
  induction h with
  | nil => exact .nil
  | cons h t ih =>
    have p := List.pairwise_cons.mp p
    refine List.pairwise_cons.mpr ⟨fun y hy hm => ?_, ih p.2⟩
    obtain ⟨x, hx, ha, _, hxm⟩ := t.mem y hy
    rw [h.1, ha]
    refine p.1 x hx ?_
    rw [Bool.or_eq_true] at hm ⊢
    exact hm.imp h.2.2 hxm
theorem Inv.froze (m : List Bool) (I : Inv X s L) : Inv X s (frz m L) := by
  have W := frz_sub m L
  refine ⟨I.good, fun y hy => ?_, W.pw I.ap, fun y hy hm => ?_, fun y hy hm => ?_⟩
  · obtain ⟨x, hx, h1, h2, h3⟩ := W.mem y hy
    rw [h1, h2]; exact I.get x hx
  · obtain ⟨x, hx, h1, h2, h3⟩ := W.mem y hy
    rw [h1]; exact I.low x hx (h3 hm)
  · obtain ⟨x, hx, h1, h2, h3⟩ := W.mem y hy
    rw [h2]; exact I.nt x hx (h3 hm)
theorem Inv.moved {L' : List En} (I : Inv X s L) (g : Good X s') (hm : L'.map (fun e => (e.a, e.m)) = L.map (fun e => (e.a, e.m))) (get : ∀ e ∈ L', s'.heap.get? e.a = some e.o) (nt : ∀ e ∈ L', e.m = true → notTup e.o = true) : Inv X s' L' := by
  have hlow : ∀ e ∈ L', e.m = true → X.pv.n₁ ≤ e.a := fun e he h => by
    have : (e.a, e.m) ∈ L'.map (fun e => (e.a, e.m)) := List.mem_map_of_mem he
    rw [hm] at this
    obtain ⟨x, hx, q⟩ := List.mem_map.mp this
    simp only [Prod.mk.injEq] at q
    rw [← q.1]
    exact I.low x hx (q.2.trans h)
  refine ⟨g, get, ?_, hlow, nt⟩
  have h1 : (L.map (fun e => (e.a, e.m))).Pairwise (fun x y => (x.2 || y.2) = true → x.1 ≠ y.1) := by
    rw [List.pairwise_map]
    exact I.ap
  rw [← hm, List.pairwise_map] at h1
  exact h1
end
noncomputable def Mu (L : List En) (s : Shared) (L' : List En) : Prop := ∀ e ∈ L', e.m = true → (∃ x ∈ L, x.m = true ∧ x.a = e.a) ∨ s.heap.objs.size ≤ e.a
theorem Sat.mu' {X : Cx} {s s' : Shared} {L : List En} {A d u st} (S : Sat (X.V s L A d u) st s') (is : List Nat) : Mu L s (picks is st.L) := by
  intro e he hm
  obtain ⟨L1, h1, h2⟩ := picks_sub is st.L
  rw [h2] at he
  obtain ⟨x, hx, rfl⟩ := List.mem_map.mp he
  have hxm : x.m = true := by
    unfold weak at hm
    simp at hm
    exact hm.1
  rcases S.may x (h1.subset hx) hxm with h | h
  · obtain ⟨y, hy, ha⟩ := List.mem_map.mp h
    obtain ⟨hy, hym⟩ := List.mem_filter.mp hy
    exact .inl ⟨y, hy, hym, ha⟩
  · exact .inr h
theorem Mu.mono {L L2 : List En} {s : Shared} {L' : List En} (h : Mu L s L') (m : ∀ e ∈ L, e.m = true → e ∈ L2) : Mu L2 s L' := fun e he hm => by
  rcases h e he hm with ⟨x, hx, hxm, ha⟩ | h
  · exact .inl ⟨x, m x hx hxm, hxm, ha⟩
  · exact .inr h
section
variable {X : Cx} {s : Shared} {L H : List En} {A : Around} {d u : Nat} {R : Result → Shared → Prop} {o : Out} {is : List Nat} {n t : Nat} {L' : List En} {oc : List Oc}
theorem holds_ret2 {r : Result} (I : Inv X s (L ++ H)) (e : o.fin is = some (r, n, t, L', oc, o.snds)) (hoc : OcOk X.pv.prog X.w oc)
    (K : ∀ s', Inv X s' (L' ++ H) → Tr L s s' → Mu L s L' → s'.heap.objs.size = n → s'.toks = t → R r s') : Holds (X.V s L A d u) R o := by
  cases o with
  | ret r' st =>
    simp only [Out.fin, Out.snds, Option.some.injEq, Prod.mk.injEq] at e
    obtain ⟨rfl, hn, ht, rfl, rfl, e6⟩ := e
    exact ⟨⟨e6, hoc⟩, fun s' S => K s' (S.inv I is).1 (S.inv I is).2 (S.mu' is) (by rw [S.size, hn]) (by rw [S.toks, ht])⟩
  | bad i => cases e
  | tail c st => cases e
  | stop m hd c st k => cases e
theorem holds_tail2 {c : Code} (I : Inv X s (L ++ H)) (e : o.ftail is = some (c, n, t, L', oc, o.snds)) (hoc : OcOk X.pv.prog X.w oc)
    (K : ∀ s', Inv X s' (L' ++ H) → Tr L s s' → Mu L s L' → s'.heap.objs.size = n → s'.toks = t → codeAny X.M A c R s') : Holds (X.V s L A d u) R o := by
  cases o with
  | tail c' st =>
    simp only [Out.ftail, Out.snds, Option.some.injEq, Prod.mk.injEq] at e
    obtain ⟨rfl, hn, ht, rfl, rfl, e6⟩ := e
    exact ⟨⟨e6, hoc⟩, fun s' S => K s' (S.inv I is).1 (S.inv I is).2 (S.mu' is) (by rw [S.size, hn]) (by rw [S.toks, ht])⟩
  | bad i => cases e
  | ret c st => cases e
  | stop m hd c st k => cases e
theorem holds_stop2 {m : Nat} {hd : Option Value} {c : Code} (I : Inv X s (L ++ H)) (e : o.fstop is = some (m, hd, c, n, t, L', oc, o.snds)) (hoc : OcOk X.pv.prog X.w oc)
    (K : ∀ A' s', AOk (X.V s L A d u) m hd A' → Inv X s' (L' ++ H) → Tr L s s' → Mu L s L' → s'.heap.objs.size = n → s'.toks = t →
      codeAny X.M A' c (fun r s'' => ∃ h mu im st'', Sat ((X.V s L A d u).re h mu im) st'' s'' ∧ Holds ((X.V s L A d u).re h mu im) R (outK o r st'')) s') : Holds (X.V s L A d u) R o := by
  cases o with
  | stop m' hd' c' st k =>
    simp only [Out.fstop, Out.snds, Option.some.injEq, Prod.mk.injEq] at e
    obtain ⟨rfl, rfl, rfl, hn, ht, rfl, rfl, e6⟩ := e
    exact ⟨⟨e6, hoc⟩, fun A' s' hA S => K A' s' hA (S.inv I is).1 (S.inv I is).2 (S.mu' is) (by rw [S.size, hn]) (by rw [S.toks, ht])⟩
  | bad i => cases e
  | ret c st => cases e
  | tail c st => cases e
theorem Inv.ix {X : Cx} {s : Shared} {L : List En} (I : Inv X s L) (i : Nat) {e : En} (h : L[i]? = some e) : s.heap.get? e.a = some e.o := I.get e (List.mem_of_getElem? h)
theorem sel_sub : ∀ (m : List Bool) (L : List En), (sel m L).Sublist L
  | [], L => by simp [sel]
  | _ :: _, [] => by rename_i b _; cases b <;> simp [sel]
  | true :: m, e :: l => (sel_sub m l).cons_cons e
  | false :: m, e :: l => (sel_sub m l).cons e
structure CK (h0 : Heap) (M : List Addr) (s : Shared) (L : List En) : Prop where
  kp : ∀ b o, h0.get? b = some o → b ∉ M → s.heap.get? b = some o
  ts : ∀ a l, h0.get? a = some (tup l) → s.heap.get? a = some (tup l)
  grow : h0.objs.size ≤ s.heap.objs.size
  mu : ∀ e ∈ L, e.m = true → e.a ∈ M ∨ h0.objs.size ≤ e.a
theorem CK.next {h0 M s s'} {L L' : List En} (C : CK h0 M s L) (I : Inv X s (L ++ H)) (T : Tr L s s') (mu : Mu L s L') : CK h0 M s' L' := by
  refine ⟨fun b o hb hn => T.keep b o (C.kp b o hb hn) fun e he hm ea => ?_, fun a l h => (I.sub (List.sublist_append_left _ _)).tup T (C.ts a l h), Nat.le_trans C.grow T.size, fun e he hm => ?_⟩
  · rcases C.mu e he hm with h | h
    · exact hn (ea ▸ h)
    · exact absurd (Heap.lt_size hb) (Nat.not_lt.mpr (ea ▸ h))
  · rcases mu e he hm with ⟨x, hx, hxm, ha⟩ | h
    · rw [← ha]; exact C.mu x hx hxm
    · exact .inr (Nat.le_trans C.grow h)
theorem CK.sub {h0 M s} {L L' : List En} (C : CK h0 M s L) (h : L'.Sublist L) : CK h0 M s L' := ⟨C.kp, C.ts, C.grow, fun e he => C.mu e (h.subset he)⟩
end
section
variable {Y : Cy} {s : Shared} {A : Around} {d u : Nat} {R : Result → Shared → Prop} {L H : List En}
theorem tl_mono (tl : List (Addr × List Value)) : ∀ e ∈ tl.map tupE ++ L, e.m = true → e ∈ L := by
  intro e he hm
  rcases List.mem_append.mp he with he | he
  · obtain ⟨q, _, rfl⟩ := List.mem_map.mp he
    cases hm
  · exact he
theorem tl_inv (I : Inv Y.x s (L ++ H)) (tl : List (Addr × List Value)) (htl : ∀ q ∈ tl, s.heap.get? q.1 = some (tup q.2)) : Inv Y.x s ((tl.map tupE ++ L) ++ H) := by
  rw [List.append_assoc]
  exact I.addTs tl htl
variable {N : Nat} {c c' : Code} {t : Sem Fin} {hs : List Nat} {ws : List (Nat × Wt)} {is : List Nat} {r : Result} {n' t' : Nat} {L' : List En} {oc : List Oc}
theorem go_ret (O : Y.x.Ok) (hd : d ≤ 500) (hA : AB d u A) (I : Inv Y.x s (L ++ H)) (tl : List (Addr × List Value)) (htl : ∀ q ∈ tl, s.heap.get? q.1 = some (tup q.2))
    (e : FinI (run (pv0 Y.p Y.b1 Y.b2) N 0 none c t .ret ⟨s.heap.objs.size, s.toks, tl.map tupE ++ L, hs, ws, [], []⟩) is r n' t' L' oc)
    (hoc : OcOk pgm Y.w oc) (K : ∀ s', Inv Y.x s' (L' ++ H) → Tr L s s' → Mu L s L' → s'.heap.objs.size = n' → s'.toks = t' → R r s') : wpOwn Y.x.M A c t (postM Y.x A R) (postE R) s := by
  have I2 := tl_inv I tl htl
  exact run_tree O hd hA (I2.sub (List.sublist_append_left _ _)) (holds_ret2 I2 e hoc fun s' I' T mu hn ht => K s' I' (T.mono (tl_mono tl)) (mu.mono (tl_mono tl)) hn ht)
theorem go_code (O : Y.x.Ok) (hd : d ≤ 500) (hA : AB d u A) (I : Inv Y.x s (L ++ H)) (tl : List (Addr × List Value)) (htl : ∀ q ∈ tl, s.heap.get? q.1 = some (tup q.2))
    (e : FinI (run (pv0 Y.p Y.b1 Y.b2) N 0 none c (den c) .ret ⟨s.heap.objs.size, s.toks, tl.map tupE ++ L, hs, ws, [], []⟩) is r n' t' L' oc)
    (hoc : OcOk pgm Y.w oc) (K : ∀ s', Inv Y.x s' (L' ++ H) → Tr L s s' → Mu L s L' → s'.heap.objs.size = n' → s'.toks = t' → R r s') : codeAny Y.x.M A c R s := by
  have I2 := tl_inv I tl htl
  exact run_code O hd hA (I2.sub (List.sublist_append_left _ _)) (holds_ret2 I2 e hoc fun s' I' T mu hn ht => K s' I' (T.mono (tl_mono tl)) (mu.mono (tl_mono tl)) hn ht)
theorem go_tail (O : Y.x.Ok) (hd : d ≤ 500) (hA : AB d u A) (I : Inv Y.x s (L ++ H)) (tl : List (Addr × List Value)) (htl : ∀ q ∈ tl, s.heap.get? q.1 = some (tup q.2))
    (e : FinT (run (pv0 Y.p Y.b1 Y.b2) N 0 none c (den c) .ret ⟨s.heap.objs.size, s.toks, tl.map tupE ++ L, hs, ws, [], []⟩) is c' n' t' L' oc)
    (hoc : OcOk pgm Y.w oc) (K : ∀ s', Inv Y.x s' (L' ++ H) → Tr L s s' → Mu L s L' → s'.heap.objs.size = n' → s'.toks = t' → codeAny Y.x.M A c' R s') : codeAny Y.x.M A c R s := by
  have I2 := tl_inv I tl htl
  exact run_code O hd hA (I2.sub (List.sublist_append_left _ _)) (holds_tail2 I2 e hoc fun s' I' T mu hn ht => K s' I' (T.mono (tl_mono tl)) (mu.mono (tl_mono tl)) hn ht)
theorem go_call (O : Y.x.Ok) (hd : d ≤ 500) (hA : AB d u A) (I : Inv Y.x s (L ++ H)) {a : Addr} {o : Obj} {fd : FuncData} {body : List Stmt} {args : Args} (hk : (kt0 Y.p).get a = some o) (ho : o.data = .func fd) (hb : fd.body = .stmts body) (hok : defOkQ 661 (kt0 Y.p) fd = true) (ha : Nat.blt a 661 = true)
    (e : FinT (run (pv0 Y.p Y.b1 Y.b2) N 0 none (.call (.ref a) args) (callNo a fd args body) .ret ⟨s.heap.objs.size, s.toks, L, hs, ws, [], []⟩) is c' n' t' L' oc)
    (hoc : OcOk pgm Y.w oc) (K : ∀ s', Inv Y.x s' (L' ++ H) → Tr L s s' → Mu L s L' → s'.heap.objs.size = n' → s'.toks = t' → codeAny Y.x.M A c' R s') : codeAny Y.x.M A (.call (.ref a) args) R s := by
  have I1 := I.sub (List.sublist_append_left L H)
  refine call_user (V := Y.x.V s L A d u) (O.view hd) (I1.sat [] [] [] []) (Sat.ofTop (V := Y.x.V s L A d u) (O.view hd) (I1.sat [] [] [] []) ha hk) ho hb hok (by have := hA.depth; show A.depth < 1000; omega) ?_
  exact run_tree O hd hA I1 (holds_tail2 I e hoc fun s' I' T mu hn ht => K s' I' T mu hn ht)
noncomputable def Back (Y : Cy) (A : Around) (d u : Nat) (R : Result → Shared → Prop) (out : Out) (r : Result) (s : Shared) : Prop :=
  ∃ L H hs ws, Inv Y.x s (L ++ H) ∧ Holds (Y.x.V s L A d u) R (outK out r ⟨s.heap.objs.size, s.toks, L, hs, ws, [], []⟩)
theorem Back.re {s0 s : Shared} {L0 : List En} {r : Result} {out : Out} (h : Back Y A d u R out r s) : ∃ h mu im st, Sat ((Y.x.V s0 L0 A d u).re h mu im) st s ∧ Holds ((Y.x.V s0 L0 A d u).re h mu im) R (outK out r st) := by
  obtain ⟨L, H, hs, ws, I, h⟩ := h
  have q : (Y.x.V s0 L0 A d u).re s.heap ((L.filter (·.m)).map (·.a)) ((L.filter (!·.m)).map (·.a)) = Y.x.V s L A d u := rfl
  refine ⟨s.heap, (L.filter (·.m)).map (·.a), (L.filter (!·.m)).map (·.a), _, ?_, q ▸ h⟩
  rw [q]
  exact (I.sub (List.sublist_append_left _ _)).sat (A := A) (d := d) (u := u) hs ws [] []
theorem go_stop (O : Y.x.Ok) (hd : d ≤ 500) (hA : AB d u A) (I : Inv Y.x s (L ++ H)) (tl : List (Addr × List Value)) (htl : ∀ q ∈ tl, s.heap.get? q.1 = some (tup q.2)) {m : Nat}
    (e : FinS (run (pv0 Y.p Y.b1 Y.b2) N 0 none c t .ret ⟨s.heap.objs.size, s.toks, tl.map tupE ++ L, hs, ws, [], []⟩) is m none c' n' t' L' oc)
    (hoc : OcOk pgm Y.w oc) (K : ∀ A' s', AB (d + 5 * m) (u + 10 * m) A' → Inv Y.x s' (L' ++ H) → Tr L s s' → Mu L s L' → s'.heap.objs.size = n' → s'.toks = t' →
      codeAny Y.x.M A' c' (Back Y A d u R (run (pv0 Y.p Y.b1 Y.b2) N 0 none c t .ret ⟨s.heap.objs.size, s.toks, tl.map tupE ++ L, hs, ws, [], []⟩)) s') :
    wpOwn Y.x.M A c t (postM Y.x A R) (postE R) s := by
  have I2 := tl_inv I tl htl
  have I1 := I2.sub (List.sublist_append_left _ _)
  refine run_tree O hd hA I1 (holds_stop2 I2 e hoc fun A' s' hA' I' T mu hn ht => ?_)
  exact codeAny_mono (K A' s' (AB.of hA') I' (T.mono (tl_mono tl)) (mu.mono (tl_mono tl)) hn ht) fun r s'' h => h.re
theorem go_back {out : Out} {r0 : Result} (I : Inv Y.x s (L ++ H)) (tl : List (Addr × List Value)) (htl : ∀ q ∈ tl, s.heap.get? q.1 = some (tup q.2))
    (e : FinI (outK out r0 ⟨s.heap.objs.size, s.toks, tl.map tupE ++ L, hs, ws, [], []⟩) is r n' t' L' oc)
    (hoc : OcOk pgm Y.w oc) (K : ∀ s', Inv Y.x s' (L' ++ H) → Tr L s s' → Mu L s L' → s'.heap.objs.size = n' → s'.toks = t' → R r s') : Back Y A d u R out r0 s :=
  ⟨_, H, hs, ws, tl_inv I tl htl, holds_ret2 (tl_inv I tl htl) e hoc fun s' I' T mu hn ht => K s' I' (T.mono (tl_mono tl)) (mu.mono (tl_mono tl)) hn ht⟩
theorem go_back_stop {out : Out} {r0 : Result} {m : Nat} (I : Inv Y.x s (L ++ H)) (tl : List (Addr × List Value)) (htl : ∀ q ∈ tl, s.heap.get? q.1 = some (tup q.2))
    (e : FinS (outK out r0 ⟨s.heap.objs.size, s.toks, tl.map tupE ++ L, hs, ws, [], []⟩) is m none c' n' t' L' oc)
    (hoc : OcOk pgm Y.w oc) (K : ∀ A' s', AB (d + 5 * m) (u + 10 * m) A' → Inv Y.x s' (L' ++ H) → Tr L s s' → Mu L s L' → s'.heap.objs.size = n' → s'.toks = t' →
      codeAny Y.x.M A' c' (Back Y A d u R (outK out r0 ⟨s.heap.objs.size, s.toks, tl.map tupE ++ L, hs, ws, [], []⟩)) s') : Back Y A d u R out r0 s :=
  ⟨_, H, hs, ws, tl_inv I tl htl, holds_stop2 (tl_inv I tl htl) e hoc fun A' s' hA' I' T mu hn ht => codeAny_mono (K A' s' (AB.of hA') I' (T.mono (tl_mono tl)) (mu.mono (tl_mono tl)) hn ht) fun r s'' h => h.re⟩
theorem go_func {body : List Stmt} {env : Env} (h : wpOwn Y.x.M A (.func body env) (execs body env) (fun f s' => R (.ok (.ret (match f with | .ret v => v | _ => .none))) s') (fun _ _ => False) s) : codeAny Y.x.M A (.func body env) R s := by
  refine codeAny_of_own ?_
  intro Γ p hc hΓ
  have k := h Γ p hc hΓ
  show Sem.wp _ Γ (do point; match ← (execs body env).onRaise (leaving env) with | .ret v => ret v | _ => ret .none) _ _ p s
  rw [Sem.wp_bind']
  show Sem.wp _ Γ (_ >>= _) _ _ p s
  rw [Sem.wp_bind', Sem.wp_onRaise]
  refine Sem.wp_mono _ _ _ (fun f p' s' h' => ?_) (fun _ _ _ h' => h'.elim) p s k
  cases f <;> exact h'
end
end
section
open PySem PySem.W PySem.W.X PySem.Calls PySem.Spec PyProof.Rows
noncomputable def isFn (P : Params) (a : Nat) : Bool := match (kt0 P).get a with
  | some ⟨_, _, .func fd, _⟩ => (match fd.body with | .stmts _ => defOkQ 661 (kt0 P) fd | _ => false)
  | _ => false
theorem fn112 (P : Params) : isFn P 112 = true := by kernel_rfl
theorem fn654 (P : Params) : isFn P 654 = true := by kernel_rfl
theorem fn659 (P : Params) : isFn P 659 = true := by kernel_rfl
theorem isFn_at {P : Params} {a : Nat} (h : isFn P a = true) : ∃ o, (kt0 P).get a = some o ∧ o.data = .func (fdAt P a) ∧ (fdAt P a).body = .stmts (bodyAt P a) ∧ defOkQ 661 (kt0 P) (fdAt P a) = true := by
  unfold isFn at h
  unfold bodyAt fdAt
  split at h
  · rename_i e
    rw [e]
    try dsimp only
    split at h
    · rename_i e2
      exact ⟨_, rfl, rfl, by rw [e2], h⟩
    · cases h
  · cases h
section
variable {X : Cx} {s : Shared} {L H : List En}
theorem Inv.pickH (idx : List Nat) (h : idx.Nodup) (I : Inv X s (L ++ H)) : Inv X s (pk idx L ++ H) := by
  have mem : ∀ e ∈ pk idx L ++ H, e ∈ L ++ H := fun e he => by
    rcases List.mem_append.mp he with he | he
    · obtain ⟨i, _, hi⟩ := List.mem_filterMap.mp he
      exact List.mem_append_left _ (List.mem_of_getElem? hi)
    · exact List.mem_append_right _ he
  refine ⟨I.good, fun e he => I.get e (mem e he), ?_, fun e he => I.low e (mem e he), fun e he => I.nt e (mem e he)⟩
  have P := List.pairwise_append.mp I.ap
  refine List.pairwise_append.mpr ⟨((I.sub (List.sublist_append_left L H)).pick idx h).ap, P.2.1, fun a ha b hb => P.2.2 a ?_ b hb⟩
  obtain ⟨i, _, hi⟩ := List.mem_filterMap.mp ha
  exact List.mem_of_getElem? hi
theorem ts_of' (I : Inv X s (L ++ H)) {s' : Shared} (T : Tr L s s') : ∀ a l, s.heap.get? a = some (tup l) → s'.heap.get? a = some (tup l) := fun _ _ h => (I.sub (List.sublist_append_left _ _)).tup T h
theorem Tr.trans {L L2 : List En} {s s' s'' : Shared} (T : Tr L s s') (T2 : Tr L2 s' s'') (h : ∀ e ∈ L2, e.m = true → (∃ x ∈ L, x.m = true ∧ x.a = e.a) ∨ s.heap.objs.size ≤ e.a) : Tr L s s'' := by
  refine ⟨fun b o hb hn => T2.keep b o (T.keep b o hb hn) fun e he hm ea => ?_, Nat.le_trans T.size T2.size⟩
  rcases h e he hm with ⟨x, hx, h1, h2⟩ | h
  · exact hn x hx h1 (h2.trans ea)
  · exact absurd (Heap.lt_size hb) (Nat.not_lt.mpr (ea ▸ h))
theorem CK.next' {h0 M s s'} {L L' : List En} (C : CK h0 M s L) (I : Inv X s (L ++ H)) (T : Tr L s s') (_ : Inv X s' (L' ++ H)) (mu : Mu L s L') : CK h0 M s' L' := C.next I T mu
theorem CK.start (s : Shared) (L : List En) (h : ∀ e ∈ L, e.m = false) : CK s.heap [] s L := ⟨fun _ _ h _ => h, fun _ _ h => h, Nat.le_refl _, fun e he hm => absurd hm (by rw [h e he]; decide)⟩
theorem CK.tr {h0 : Heap} {s : Shared} {L : List En} {s0 : Shared} (e : h0 = s0.heap) {M : List Addr} (C : CK h0 M s L) {L0 : List En} (hM : ∀ a ∈ M, ∃ x ∈ L0, x.m = true ∧ x.a = a) : Tr L0 s0 s := by
  subst e
  refine ⟨fun b o hb hn => C.kp b o hb fun hm => ?_, C.grow⟩
  obtain ⟨x, hx, h1, h2⟩ := hM b hm
  exact hn x hx h1 h2
end
section
variable {Y : Cy} {s : Shared} {A : Around} {d u : Nat} {R : Result → Shared → Prop} {L H : List En}
variable {N : Nat} {c c' : Code} {hs : List Nat} {ws : List (Nat × Wt)} {is : List Nat} {n' t' : Nat} {L' : List En} {oc : List Oc}
theorem go_def (O : Y.x.Ok) (hd : d ≤ 500) (hA : AB d u A) (I : Inv Y.x s (L ++ H)) {a : Addr} {args : Args} (hf : isFn Y.p a = true) (ha : Nat.blt a 661 = true)
    (e : FinT (run (pv0 Y.p Y.b1 Y.b2) N 0 none (.call (.ref a) args) (callNo a (fdAt Y.p a) args (bodyAt Y.p a)) .ret ⟨s.heap.objs.size, s.toks, L, hs, ws, [], []⟩) is c' n' t' L' oc)
    (hoc : OcOk pgm Y.w oc) (K : ∀ s', Inv Y.x s' (L' ++ H) → Tr L s s' → Mu L s L' → s'.heap.objs.size = n' → s'.toks = t' → codeAny Y.x.M A c' R s') : codeAny Y.x.M A (.call (.ref a) args) R s := by
  obtain ⟨o, h1, h2, h3, h4⟩ := isFn_at hf
  exact go_call O hd hA I h1 h2 h3 h4 ha e hoc K
noncomputable def Nx (M : Model) (A : Around) (c : Code) (b : List Stmt) (env : Env) (Q : Flow → Shared → Prop) (r : Result) (s' : Shared) : Prop := match r with
  | .ok .next => wpOwn M A c (execs b env) Q (fun _ _ => False) s'
  | .ok f => Q f s'
  | .error _ => False
theorem own_step {b₁ b₂ : List Stmt} {env : Env} {Q : Flow → Shared → Prop} {c : Code} (h : wpOwn Y.x.M A c (execsT b₁ env) (postM Y.x A (Nx Y.x.M A c b₂ env Q)) (postE (Nx Y.x.M A c b₂ env Q)) s) :
    wpOwn Y.x.M A c (execs (b₁ ++ b₂) env) Q (fun _ _ => False) s :=
  own_execs_append (wpOwn_mono (own_execsT h) (fun f s' k => by cases f <;> exact k) (fun e s' k => k))
noncomputable def Lx (Q : Flow → Shared → Prop) (r : Result) (s' : Shared) : Prop := match r with
  | .ok f => Q f s'
  | .error _ => False
theorem own_last {b : List Stmt} {env : Env} {Q : Flow → Shared → Prop} {c : Code} (h : wpOwn Y.x.M A c (execsT b env) (postM Y.x A (Lx Q)) (postE (Lx Q)) s) :
    wpOwn Y.x.M A c (execs b env) Q (fun _ _ => False) s :=
  wpOwn_mono (own_execsT h) (fun f s' k => k) (fun e s' k => k)
end
end
section
open PySem PySem.W PySem.W.X PySem.Calls PySem.Spec PyProof.Rows
section
variable {prog : Program} {w : World} {A : Around} {s : Shared} {R : Result → Shared → Prop}
theorem code_call_entry {id : String} {b : Builtin} {args : List Value} (hk : builtinKind id = none) (hp : plainId id = true) (hb : entryFor table id = some b) (ha : argsOk id ⟨args, []⟩)
    (hc : wpAny (model prog w) A.in1 (b ⟨args, []⟩) (fun fin s' => ∃ v, fin = .done (.ret v) ∧ R (.ok (.ret v)) s') (fun e s' => R (.error e) s') s) : codeAny (model prog w) A (.call (.builtin id) ⟨args, []⟩) R s := by
  refine codeAny_call_builtin hp hb ?_
  have hfin : wpAny (model prog w) A.in1 (b ⟨args, []⟩) (fun fin s' => match fin with | .done f => R (.ok f) s' | .again c' => c'.quiet = true ∧ codeAny (model prog w) A c' R s') (fun e s' => R (.error e) s') s :=
    wpAny_mono hc (fun fin s' h' => by obtain ⟨v, rfl, hv⟩ := h'; exact hv) fun _ _ h' => h'
  simp only [checkBuiltinCall, hk]
  cases hsig : Manifest.signature? id with
  | none => exact wpAny_pure hfin
  | some sig =>
    simp only [argsOk, hsig] at ha
    have h2 : Bind.checkArgs id sig ⟨args, []⟩ = pure () := ha
    show wpAny _ A.in1 (Bind.checkArgs id sig ⟨args, []⟩) _ _ s
    rw [h2]
    exact wpAny_pure hfin
theorem code_sorted {l : Addr} {vs : List Value} {ns : List Int} (hl : s.heap.IsList l vs.toArray) (hI : IntsAre vs ns) (h64 : vs.length < 64)
    (h : ∀ (out : Array Value) (ns' : List Int), IntsAre out.toList ns' → ns'.Perm ns → ns'.Pairwise (· ≤ ·) → R (.ok (.ret (.ref (s.heap.objs.size + 1)))) { s with heap := sortedAll s.heap vs out }) :
    codeAny (model prog w) A (.call (.builtin "sorted") ⟨[.ref l], []⟩) R s := by
  refine code_call_entry kind_sorted plain_sorted entry_sorted (args_sorted1 _) ?_
  unfold Builtin.«sorted»
  refine wpAny_bind (m := checkCount "sorted" 1 1 _) (wpAny_pure ?_)
  refine wpAny_bind (collect_list hl ?_)
  refine wpAny_bind (wpAny_newList ?_)
  have hsz : ((s.heap.push (seqObj "list" #[] 0)).update s.heap.objs.size (Obj.mapSeq (· ++ vs.toArray))).objs.size = s.heap.objs.size + 1 := by
    rw [Heap.size_update, size_push']
  have hoL : (((s.heap.push (seqObj "list" #[] 0)).update s.heap.objs.size (Obj.mapSeq (· ++ vs.toArray))).push (seqObj "list" vs.toArray 0)).get? (s.heap.objs.size + 1) = some (seqObj "list" vs.toArray 0) := by
    rw [← hsz]; exact Heap.get?_push_size _ rfl
  show wpAny _ _ _ _ _ { s with heap := ((s.heap.push (seqObj "list" #[] 0)).update s.heap.objs.size (Obj.mapSeq (· ++ vs.toArray))).push (seqObj "list" vs.toArray 0) }
  rw [hsz]
  refine wpAny_bind (wpAny_holding (wpAny_call_entry slot_list_sort ⟨_, hoL, rfl⟩ entry_list_sort (list_sort_tree hoL hI h64 fun out ns' a1 a2 a3 => ⟨_, rfl, ?_⟩) (args_list_sort _)))
  exact wpAny_pure ⟨_, rfl, h out ns' a1 a2 a3⟩
end
theorem size_sortedAll (h : Heap) (vs : List Value) (out : Array Value) : (sortedAll h vs out).objs.size = h.objs.size + 4 := by
  unfold sortedAll sortedHeap
  simp only [Heap.size_update, size_push']
theorem sortedAll_lt {h : Heap} {vs : List Value} {out : Array Value} {b : Addr} (hlt : b < h.objs.size) : (sortedAll h vs out).get? b = h.get? b := by
  unfold sortedAll sortedHeap
  have n1 : b ≠ h.objs.size := Nat.ne_of_lt hlt
  have n2 : b ≠ h.objs.size + 1 := Nat.ne_of_lt (Nat.lt_succ_of_lt hlt)
  have n3 : b ≠ h.objs.size + 1 + 1 := Nat.ne_of_lt (Nat.lt_succ_of_lt (Nat.lt_succ_of_lt hlt))
  have n4 : b ≠ h.objs.size + 1 + 1 + 1 := Nat.ne_of_lt (Nat.lt_succ_of_lt (Nat.lt_succ_of_lt (Nat.lt_succ_of_lt hlt)))
  rw [Heap.get?_update_ne _ _ _ _ n2, Heap.get?_push_ne _ _ _ (by simp only [Heap.size_update, size_push']; exact n4), Heap.get?_push_ne _ _ _ (by simp only [Heap.size_update, size_push']; exact n3),
    Heap.get?_update_ne _ _ _ _ n2, Heap.get?_push_ne _ _ _ (by simp only [Heap.size_update, size_push']; exact n2), Heap.get?_update_ne _ _ _ _ n1, Heap.get?_push_ne _ _ _ n1]
section
variable {Y : Cy} {s : Shared} {A : Around} {L H : List En} {R : Result → Shared → Prop}
theorem go_sorted {l : Addr} {vs : List Value} {ns : List Int} {k : Nat} (I : Inv Y.x s L) (hl : s.heap.get? l = some (lst vs k)) (hI : IntsAre vs ns) (h64 : vs.length < 64)
    (K : ∀ s' rl out re ns', Inv Y.x s' (et rl (lst out re) :: L) → Tr [] s s' → s.heap.objs.size ≤ rl → IntsAre out ns' → ns'.Perm ns → ns'.Pairwise (· ≤ ·) → R (.ok (.ret (.ref rl))) s') :
    codeAny Y.x.M A (.call (.builtin "sorted") ⟨[.ref l], []⟩) R s := by
  refine code_sorted ⟨_, hl, rfl, k, by simp⟩ hI h64 fun out ns' a1 a2 a3 => ?_
  obtain ⟨e, he⟩ := sortedAll_at s.heap vs out
  have old : ∀ b o, s.heap.get? b = some o → (sortedAll s.heap vs out).get? b = some o := fun b o h => sortedAll_old h
  have hsz := size_sortedAll s.heap vs out
  have hin : ∀ e ∈ L, e.a < s.heap.objs.size := fun e he => Heap.lt_size (I.get e he)
  refine K _ (s.heap.objs.size + 1) out.toList e ns' ⟨⟨?_, fun b hb => ?_, I.good.gens, I.good.drawn, I.good.os⟩, ?_, ?_, ?_, ?_⟩ ⟨fun b o h _ => old b o h, by show _ ≤ (sortedAll s.heap vs out).objs.size; rw [hsz]; exact Nat.le_add_right _ _⟩ (Nat.le_succ _) a1 a2 a3
  · show _ ≤ (sortedAll s.heap vs out).objs.size
    rw [hsz]; exact Nat.le_trans I.good.size (Nat.le_add_right _ _)
  · have h1 := I.good.top b hb
    exact (sortedAll_lt (Nat.lt_of_lt_of_le hb I.good.size)).trans h1
  · intro x hx
    rcases List.mem_cons.mp hx with rfl | hx
    · show (sortedAll s.heap vs out).get? _ = _
      rw [he]
    · exact old _ _ (I.get x hx)
  · refine List.pairwise_cons.mpr ⟨fun x hx _ => ?_, I.ap⟩
    exact fun q => absurd (hin x hx) (by rw [← show s.heap.objs.size + 1 = x.a from q]; exact Nat.not_lt.mpr (Nat.le_succ _))
  · intro x hx hm
    rcases List.mem_cons.mp hx with rfl | hx
    · exact Nat.le_trans I.good.size (Nat.le_succ _)
    · exact I.low x hx hm
  · intro x hx hm
    rcases List.mem_cons.mp hx with rfl | hx
    · rfl
    · exact I.nt x hx hm
end
end
section
open PySem PySem.W PySem.W.X PySem.Calls PySem.Spec PyProof.Rows
theorem isTup_nt {o : Obj} (h : isTupQ o.cls = true) (h2 : notTup o = true) : False := by
  unfold notTup at h2
  rw [h] at h2
  cases h2
theorem Inv.join {X : Cx} {s s' : Shared} {L L' H : List En} (I : Inv X s (L ++ H)) (T : Tr L s s') (I' : Inv X s' L')
    (ha : ∀ e ∈ L', (∃ x ∈ L, x.m = e.m ∧ x.a = e.a) ∨ s.heap.objs.size ≤ e.a) : Inv X s' (L' ++ H) := by
  have hL := List.pairwise_append.mp I.ap
  have gH : ∀ y ∈ H, s'.heap.get? y.a = some y.o := fun y hy => T.keep _ _ (I.get y (List.mem_append_right _ hy)) fun e he hem => hL.2.2 e he y hy (by rw [hem, Bool.true_or])
  refine ⟨I'.good, fun e he => ?_, List.pairwise_append.mpr ⟨I'.ap, hL.2.1, fun x hx y hy hm => ?_⟩, fun e he hm => ?_, fun e he hm => ?_⟩
  · rcases List.mem_append.mp he with he | he
    · exact I'.get e he
    · exact gH e he
  · rcases ha x hx with ⟨z, hz, h1, h2⟩ | h
    · rw [← h2]
      exact hL.2.2 z hz y hy (by rw [h1]; exact hm)
    · have hlt : y.a < s.heap.objs.size := Heap.lt_size (I.get y (List.mem_append_right _ hy))
      exact fun e => absurd (Nat.lt_of_lt_of_le hlt h) (by rw [e]; exact Nat.lt_irrefl _)
  · rcases List.mem_append.mp he with he | he
    · exact I'.low e he hm
    · exact I.low e (List.mem_append_right _ he) hm
  · rcases List.mem_append.mp he with he | he
    · exact I'.nt e he hm
    · exact I.nt e (List.mem_append_right _ he) hm
theorem permB_perm : ∀ {l m : List Nat}, permB l m = true → l.Perm m
  | [], m, h => by
    unfold permB at h
    rw [List.isEmpty_iff.mp h]
  | x :: l, m, h => by
    unfold permB at h
    obtain ⟨h1, h2⟩ := Bool.and_eq_true_iff.mp h
    exact ((permB_perm h2).cons x).trans (List.perm_cons_erase (List.contains_iff_mem.mp h1)).symm
theorem due_ge (c : Cf) : ∀ (w : List Nat) (a : Nat) (s : Bool), ∀ x ∈ c.due w a s, a ≤ x
  | [], a, s, x, hx => by
    unfold Cf.due at hx
    split at hx
    · simp at hx; omega
    · simp at hx
  | ch :: w, a, s, x, hx => by
    unfold Cf.due at hx
    rcases List.mem_append.mp hx with hx | hx
    · split at hx
      · simp at hx; omega
      · simp at hx
    · exact Nat.le_of_succ_le (due_ge c w (a + 1) _ x hx)
theorem due_sorted (c : Cf) : ∀ (w : List Nat) (a : Nat) (s : Bool), (c.due w a s).Pairwise (· ≤ ·)
  | [], a, s => by
    unfold Cf.due
    split <;> simp
  | ch :: w, a, s => by
    unfold Cf.due
    refine List.pairwise_append.mpr ⟨by split <;> simp, due_sorted c w (a + 1) _, fun x hx y hy => ?_⟩
    have h2 := due_ge c w (a + 1) _ y hy
    split at hx
    · simp at hx; omega
    · simp at hx
theorem due_len (c : Cf) : ∀ (w : List Nat) (a : Nat) (s : Bool), (c.due w a s).length ≤ w.length + 1
  | [], a, s => by
    unfold Cf.due
    split <;> simp
  | ch :: w, a, s => by
    unfold Cf.due
    have := due_len c w (a + 1) (c.goal s ch)
    rw [List.length_append]
    split <;> simp <;> omega
theorem okT_use {c : Cf} {w : List Nat} (h : okT c w = true) : ∃ res, tback c.body w 500 [([.cat (.delay false) (.cat .cursor .fail)], 0)] 0 [] = some res ∧ res.2.Perm (c.due w 0 false) := by
  unfold okT at h
  split at h
  · rename_i r e; exact ⟨r, e, permB_perm h⟩
  · cases h
theorem okM_use {c : Cf} {w : List Nat} (h : okM c w = true) : ∃ res, mrun c.ords w 900 ⟨0, 0, []⟩ [] 0 [] = some res ∧ res.2.Perm (c.due w 0 false) := by
  unfold okM at h
  split at h
  · rename_i r e; exact ⟨r, e, permB_perm h⟩
  · cases h
end
section
open PySem PySem.W PySem.W.X PySem.Calls PySem.Spec PyProof.Rows
noncomputable def LfAt (h : Heap) : Ord → Addr → Prop
  | .any cs, a => ∃ t1 t2, h.get? a = some (tup [sv n_any t1, sv cs t2])
  | .chars, a => ∃ t1 t2, h.get? a = some (tup [sv n_chars t1, sv [] t2])
  | .fail, a => ∃ t1, h.get? a = some (tup [sv n_fail t1])
  | _, _ => False
noncomputable def Ord.isLot : Ord → Prop
  | .any _ => True
  | .fail => True
  | _ => False
noncomputable def Ord.isFin : Ord → Prop
  | .chars => True
  | .fail => True
  | _ => False
theorem LfAt.lot {h : Heap} {a : Addr} : ∀ {o : Ord}, LfAt h o a → o.isLot → (∃ cs t1 t2, o = .any cs ∧ h.get? a = some (tup [sv n_any t1, sv cs t2])) ∨ (∃ t1, o = .fail ∧ h.get? a = some (tup [sv n_fail t1]))
  | .any cs, ⟨t1, t2, e⟩, _ => .inl ⟨cs, t1, t2, rfl, e⟩
  | .fail, ⟨t1, e⟩, _ => .inr ⟨t1, rfl, e⟩
theorem LfAt.fin {h : Heap} {a : Addr} : ∀ {o : Ord}, LfAt h o a → o.isFin → (∃ t1 t2, o = .chars ∧ h.get? a = some (tup [sv n_chars t1, sv [] t2])) ∨ (∃ t1, o = .fail ∧ h.get? a = some (tup [sv n_fail t1]))
  | .chars, ⟨t1, t2, e⟩, _ => .inl ⟨t1, t2, rfl, e⟩
  | .fail, ⟨t1, e⟩, _ => .inr ⟨t1, rfl, e⟩
theorem LfAt.lotH {h : Heap} {a : Addr} {o : Ord} (e : LfAt h o a) (k : o.isLot) : ∃ K t r, h.get? a = some (tup (.str K t :: r)) ∧ r.length ≤ 1 ∧ (K.cps.toList = n_any ∨ K.cps.toList = n_fail) := by
  rcases e.lot k with ⟨cs, t1, t2, _, e⟩ | ⟨t1, _, e⟩
  · exact ⟨_, _, _, e, Nat.le_refl _, .inl rfl⟩
  · exact ⟨_, _, _, e, Nat.zero_le _, .inr rfl⟩
theorem LfAt.finH {h : Heap} {a : Addr} {o : Ord} (e : LfAt h o a) (k : o.isFin) : ∃ K t r, h.get? a = some (tup (.str K t :: r)) ∧ r.length ≤ 1 ∧ (K.cps.toList = n_chars ∨ K.cps.toList = n_fail) := by
  rcases e.fin k with ⟨t1, t2, _, e⟩ | ⟨t1, _, e⟩
  · exact ⟨_, _, _, e, Nat.le_refl _, .inl rfl⟩
  · exact ⟨_, _, _, e, Nat.zero_le _, .inr rfl⟩
structure CLf (h : Heap) (o00 o01 o10 o11 oE0 oE1 : Ord) (L00 L01 L10 L11 E0 E1 : Nat) : Prop where
  l00 : LfAt h o00 L00
  l01 : LfAt h o01 L01
  l10 : LfAt h o10 L10
  l11 : LfAt h o11 L11
  lE0 : LfAt h oE0 E0
  lE1 : LfAt h oE1 E1
  k00 : o00.isLot
  k01 : o01.isLot
  k10 : o10.isLot
  k11 : o11.isLot
  kE0 : oE0.isFin
  kE1 : oE1.isFin
noncomputable def rawO (o00 o01 o10 o11 oE0 oE1 : Ord) : List Ord := [.split 2, .jump 16, .mark, .split 6, o00, .jump 14, o01, .split 9, .jump 13, .mark, o11, .gain, .jump 7, o10, .gain, .jump 0, .split 19, oE0, .jump (match oE1 with | .chars => 26 | _ => 27), o01, .split 22, .jump 26, .mark, o11, .gain, .jump 20] ++ (match oE1 with | .chars => [] | _ => [.fail]) ++ [.place, .fail]
section
variable {Y : Cy} {A : Around} {d u : Nat} {R : Result → Shared → Prop} {H : List En} {h0 : Heap} {M : List Addr} {o00 o01 o10 o11 oE0 oE1 : Ord} {f tk N T : Nat → Nat} {s : Shared}
noncomputable def CEnd (Y : Cy) (h0 : Heap) (M : List Addr) (H : List En) (R : Result → Shared → Prop) (ords : List Ord) (rj ci cd ol q3 : Nat) : Prop :=
  ∀ s' os oe, Inv Y.x s' (et ci (inst 94 cd) :: et cd (fq13 Y.p q3 (.ref ol) 1) :: et ol (lst os oe) :: H) →
    OrdsAt rj s'.heap ords os → (∀ b o, h0.get? b = some o → b ∉ M → s'.heap.get? b = some o) → h0.objs.size ≤ s'.heap.objs.size → R (.ok .next) s'
theorem ts_of {s s'} {L : List En} {X : Cx} (I : Inv X s (L ++ H)) (T : Tr L s s') : Ts s.heap s'.heap := fun a l h => (I.sub (List.sublist_append_left _ _)).tup T h
noncomputable abbrev Z0 (_ : Nat) : Nat := 0
noncomputable abbrev Cl (h : Heap) (f : Nat → Nat) (o00 o01 o10 o11 oE0 oE1 : Ord) : Prop := CLf h o00 o01 o10 o11 oE0 oE1 (f 16) (f 20) (f 19) (f 22) (f 23) (f 25)
noncomputable abbrev Ce (Y : Cy) (h0 : Heap) (M : List Addr) (H : List En) (R : Result → Shared → Prop) (o : List Ord) (f : Nat → Nat) : Prop := CEnd Y h0 M H R o (f 28) (f 4) (f 8) (f 10) (f 9)
theorem ch_P8f (O : Y.x.Ok) (hd : d ≤ 500) (hA : AB d u A) (F : Cl h0 f o00 o01 o10 o11 oE0 .fail) (I : Inv Y.x s (ld_P8f Y.p f tk N T ++ H)) (C : CK h0 M s (ld_P8f Y.p f tk N T)) (ga00 : OrdAt (f 28) s.heap o00 (N 30 + 4)) (ga01 : OrdAt (f 28) s.heap o01 (N 31 + 4)) (ga11 : OrdAt (f 28) s.heap o11 (N 32 + 4)) (ga10 : OrdAt (f 28) s.heap o10 (N 33 + 4)) (gaE0 : OrdAt (f 28) s.heap oE0 (N 34 + 4)) (gb01f : OrdAt (f 28) s.heap o01 (N 37 + 4)) (gb11f : OrdAt (f 28) s.heap o11 (N 38 + 4)) (gbE1 : OrdAt (f 28) s.heap .fail (N 39 + 4)) (KE : Ce Y h0 M H R (rawO o00 o01 o10 o11 oE0 .fail) f) : codeAny Y.x.M A (pC Y.p (f 2)) R s := by
  refine go_code O hd hA I [] (by simp) (cp_P8f Y.p Y.b1 Y.b2 s.heap.objs.size s.toks f tk N T) trivial fun s' I' W mu _ _ => ?_
  have ts := ts_of I W
  have C2 := C.next I W mu
  exact KE s' _ _ (Inv.pickH (H := H) [33, 34, 35] (by decide) I') ⟨_, _, rfl, ⟨_, _, I'.ix 30 rfl⟩, _, _, rfl, ⟨_, _, I'.ix 13 rfl⟩, _, _, rfl, ⟨_, I'.ix 29 rfl⟩, _, _, rfl, ⟨_, _, I'.ix 22 rfl⟩, _, _, rfl, ga00.mono ts, _, _, rfl, ⟨_, _, I'.ix 14 rfl⟩, _, _, rfl, ga01.mono ts, _, _, rfl, ⟨_, _, I'.ix 21 rfl⟩, _, _, rfl, ⟨_, _, I'.ix 15 rfl⟩, _, _, rfl, ⟨_, I'.ix 20 rfl⟩, _, _, rfl, ga11.mono ts, _, _, rfl, ⟨_, I'.ix 19 rfl⟩, _, _, rfl, ⟨_, _, I'.ix 18 rfl⟩, _, _, rfl, ga10.mono ts, _, _, rfl, ⟨_, I'.ix 28 rfl⟩, _, _, rfl, ⟨_, _, I'.ix 27 rfl⟩, _, _, rfl, ⟨_, _, I'.ix 10 rfl⟩, _, _, rfl, gaE0.mono ts, _, _, rfl, ⟨_, _, I'.ix 2 rfl⟩, _, _, rfl, gb01f.mono ts, _, _, rfl, ⟨_, _, I'.ix 9 rfl⟩, _, _, rfl, ⟨_, _, I'.ix 3 rfl⟩, _, _, rfl, ⟨_, I'.ix 8 rfl⟩, _, _, rfl, gb11f.mono ts, _, _, rfl, ⟨_, I'.ix 7 rfl⟩, _, _, rfl, ⟨_, _, I'.ix 6 rfl⟩, _, _, rfl, gbE1.mono ts, _, _, rfl, ⟨_, I'.ix 1 rfl⟩, _, _, rfl, ⟨_, I'.ix 0 rfl⟩, rfl⟩ C2.kp C2.grow
theorem ch_Zf (O : Y.x.Ok) (hd : d ≤ 500) (hA : AB d u A) (F : Cl h0 f o00 o01 o10 o11 oE0 .fail) (I : Inv Y.x s (ld_Zf Y.p f tk N T ++ H)) (C : CK h0 M s (ld_Zf Y.p f tk N T)) (ga00 : OrdAt (f 28) s.heap o00 (N 30 + 4)) (ga01 : OrdAt (f 28) s.heap o01 (N 31 + 4)) (ga11 : OrdAt (f 28) s.heap o11 (N 32 + 4)) (ga10 : OrdAt (f 28) s.heap o10 (N 33 + 4)) (gaE0 : OrdAt (f 28) s.heap oE0 (N 34 + 4)) (gb01f : OrdAt (f 28) s.heap o01 (N 37 + 4)) (gb11f : OrdAt (f 28) s.heap o11 (N 38 + 4)) (KE : Ce Y h0 M H R (rawO o00 o01 o10 o11 oE0 .fail) f) : codeAny Y.x.M A (pC Y.p (f 2)) R s := by
  obtain ⟨xE1, eE1⟩ := F.lE1
  refine go_tail O hd hA I [((f 25), [sv n_fail xE1])] (by simp [C.ts _ _ eE1]) (cp_bE1_fail Y.p Y.b1 Y.b2 s.heap.objs.size s.toks f tk N T xE1) trivial fun s' I' W mu _ _ => ?_
  have ts := ts_of I W
  exact ch_P8f O hd hA F (N := (up N 39 s.heap.objs.size)) (I'.sub (List.sublist_cons_self _ _)) ((C.next I W mu).sub (List.sublist_cons_self _ _)) (ga00.mono ts) (ga01.mono ts) (ga11.mono ts) (ga10.mono ts) (gaE0.mono ts) (gb01f.mono ts) (gb11f.mono ts) ⟨_, I'.ix 0 rfl⟩ KE
theorem ch_P7f (O : Y.x.Ok) (hd : d ≤ 500) (hA : AB d u A) (F : Cl h0 f o00 o01 o10 o11 oE0 .fail) (I : Inv Y.x s (ld_P7f Y.p f tk N T ++ H)) (C : CK h0 M s (ld_P7f Y.p f tk N T)) (ga00 : OrdAt (f 28) s.heap o00 (N 30 + 4)) (ga01 : OrdAt (f 28) s.heap o01 (N 31 + 4)) (ga11 : OrdAt (f 28) s.heap o11 (N 32 + 4)) (ga10 : OrdAt (f 28) s.heap o10 (N 33 + 4)) (gaE0 : OrdAt (f 28) s.heap oE0 (N 34 + 4)) (gb01f : OrdAt (f 28) s.heap o01 (N 37 + 4)) (gb11f : OrdAt (f 28) s.heap o11 (N 38 + 4)) (KE : Ce Y h0 M H R (rawO o00 o01 o10 o11 oE0 .fail) f) : codeAny Y.x.M A (pC Y.p (f 2)) R s := by
  refine go_tail O hd hA I [] (by simp) (cp_P7f Y.p Y.b1 Y.b2 s.heap.objs.size s.toks f tk N T) trivial fun s' I' W mu _ _ => ?_
  have ts := ts_of I W
  exact ch_Zf O hd hA F (N := (up N 20 s.heap.objs.size)) (T := (up T 20 s.toks)) I' (C.next I W mu) (ga00.mono ts) (ga01.mono ts) (ga11.mono ts) (ga10.mono ts) (gaE0.mono ts) (gb01f.mono ts) (gb11f.mono ts) KE
theorem ch_b11f (O : Y.x.Ok) (hd : d ≤ 500) (hA : AB d u A) (F : Cl h0 f o00 o01 o10 o11 oE0 .fail) (I : Inv Y.x s (ld_b11f Y.p f tk N T ++ H)) (C : CK h0 M s (ld_b11f Y.p f tk N T)) (ga00 : OrdAt (f 28) s.heap o00 (N 30 + 4)) (ga01 : OrdAt (f 28) s.heap o01 (N 31 + 4)) (ga11 : OrdAt (f 28) s.heap o11 (N 32 + 4)) (ga10 : OrdAt (f 28) s.heap o10 (N 33 + 4)) (gaE0 : OrdAt (f 28) s.heap oE0 (N 34 + 4)) (gb01f : OrdAt (f 28) s.heap o01 (N 37 + 4)) (KE : Ce Y h0 M H R (rawO o00 o01 o10 o11 oE0 .fail) f) : codeAny Y.x.M A (pC Y.p (f 2)) R s := by
  rcases F.l11.lot F.k11 with ⟨cs, xL11, yL11, rfl, eL11⟩ | ⟨xL11, rfl, eL11⟩
  · refine go_tail O hd hA I [((f 22), [sv n_any xL11, sv cs yL11])] (by simp [C.ts _ _ eL11]) (cp_b11f_any Y.p Y.b1 Y.b2 s.heap.objs.size s.toks f tk N T xL11 yL11 ⟨⟨cs⟩⟩) trivial fun s' I' W mu _ _ => ?_
    have ts := ts_of I W
    exact ch_P7f O hd hA F (N := (up N 38 s.heap.objs.size)) (I'.sub (List.sublist_cons_self _ _)) ((C.next I W mu).sub (List.sublist_cons_self _ _)) (ga00.mono ts) (ga01.mono ts) (ga11.mono ts) (ga10.mono ts) (gaE0.mono ts) (gb01f.mono ts) ⟨_, _, _, I'.ix 0 rfl⟩ KE
  · refine go_tail O hd hA I [((f 22), [sv n_fail xL11])] (by simp [C.ts _ _ eL11]) (cp_b11f_fail Y.p Y.b1 Y.b2 s.heap.objs.size s.toks f tk N T xL11) trivial fun s' I' W mu _ _ => ?_
    have ts := ts_of I W
    exact ch_P7f O hd hA F (N := (up N 38 s.heap.objs.size)) (I'.sub (List.sublist_cons_self _ _)) ((C.next I W mu).sub (List.sublist_cons_self _ _)) (ga00.mono ts) (ga01.mono ts) (ga11.mono ts) (ga10.mono ts) (gaE0.mono ts) (gb01f.mono ts) ⟨_, I'.ix 0 rfl⟩ KE
theorem ch_P6f (O : Y.x.Ok) (hd : d ≤ 500) (hA : AB d u A) (F : Cl h0 f o00 o01 o10 o11 oE0 .fail) (I : Inv Y.x s (ld_P6f Y.p f tk N T ++ H)) (C : CK h0 M s (ld_P6f Y.p f tk N T)) (ga00 : OrdAt (f 28) s.heap o00 (N 30 + 4)) (ga01 : OrdAt (f 28) s.heap o01 (N 31 + 4)) (ga11 : OrdAt (f 28) s.heap o11 (N 32 + 4)) (ga10 : OrdAt (f 28) s.heap o10 (N 33 + 4)) (gaE0 : OrdAt (f 28) s.heap oE0 (N 34 + 4)) (gb01f : OrdAt (f 28) s.heap o01 (N 37 + 4)) (KE : Ce Y h0 M H R (rawO o00 o01 o10 o11 oE0 .fail) f) : codeAny Y.x.M A (pC Y.p (f 2)) R s := by
  refine go_tail O hd hA I [] (by simp) (cp_P6f Y.p Y.b1 Y.b2 s.heap.objs.size s.toks f tk N T) trivial fun s' I' W mu _ _ => ?_
  have ts := ts_of I W
  exact ch_b11f O hd hA F (N := (up N 18 s.heap.objs.size)) (T := (up T 18 s.toks)) I' (C.next I W mu) (ga00.mono ts) (ga01.mono ts) (ga11.mono ts) (ga10.mono ts) (gaE0.mono ts) (gb01f.mono ts) KE
theorem ch_b01f (O : Y.x.Ok) (hd : d ≤ 500) (hA : AB d u A) (F : Cl h0 f o00 o01 o10 o11 oE0 .fail) (I : Inv Y.x s (ld_b01f Y.p f tk N T ++ H)) (C : CK h0 M s (ld_b01f Y.p f tk N T)) (ga00 : OrdAt (f 28) s.heap o00 (N 30 + 4)) (ga01 : OrdAt (f 28) s.heap o01 (N 31 + 4)) (ga11 : OrdAt (f 28) s.heap o11 (N 32 + 4)) (ga10 : OrdAt (f 28) s.heap o10 (N 33 + 4)) (gaE0 : OrdAt (f 28) s.heap oE0 (N 34 + 4)) (KE : Ce Y h0 M H R (rawO o00 o01 o10 o11 oE0 .fail) f) : codeAny Y.x.M A (pC Y.p (f 2)) R s := by
  rcases F.l01.lot F.k01 with ⟨cs, xL01, yL01, rfl, eL01⟩ | ⟨xL01, rfl, eL01⟩
  · refine go_tail O hd hA I [((f 20), [sv n_any xL01, sv cs yL01])] (by simp [C.ts _ _ eL01]) (cp_b01f_any Y.p Y.b1 Y.b2 s.heap.objs.size s.toks f tk N T xL01 yL01 ⟨⟨cs⟩⟩) trivial fun s' I' W mu _ _ => ?_
    have ts := ts_of I W
    exact ch_P6f O hd hA F (N := (up N 37 s.heap.objs.size)) (I'.sub (List.sublist_cons_self _ _)) ((C.next I W mu).sub (List.sublist_cons_self _ _)) (ga00.mono ts) (ga01.mono ts) (ga11.mono ts) (ga10.mono ts) (gaE0.mono ts) ⟨_, _, _, I'.ix 0 rfl⟩ KE
  · refine go_tail O hd hA I [((f 20), [sv n_fail xL01])] (by simp [C.ts _ _ eL01]) (cp_b01f_fail Y.p Y.b1 Y.b2 s.heap.objs.size s.toks f tk N T xL01) trivial fun s' I' W mu _ _ => ?_
    have ts := ts_of I W
    exact ch_P6f O hd hA F (N := (up N 37 s.heap.objs.size)) (I'.sub (List.sublist_cons_self _ _)) ((C.next I W mu).sub (List.sublist_cons_self _ _)) (ga00.mono ts) (ga01.mono ts) (ga11.mono ts) (ga10.mono ts) (gaE0.mono ts) ⟨_, I'.ix 0 rfl⟩ KE
theorem ch_P8c (O : Y.x.Ok) (hd : d ≤ 500) (hA : AB d u A) (F : Cl h0 f o00 o01 o10 o11 oE0 .chars) (I : Inv Y.x s (ld_P8c Y.p f tk N T ++ H)) (C : CK h0 M s (ld_P8c Y.p f tk N T)) (ga00 : OrdAt (f 28) s.heap o00 (N 30 + 4)) (ga01 : OrdAt (f 28) s.heap o01 (N 31 + 4)) (ga11 : OrdAt (f 28) s.heap o11 (N 32 + 4)) (ga10 : OrdAt (f 28) s.heap o10 (N 33 + 4)) (gaE0 : OrdAt (f 28) s.heap oE0 (N 34 + 4)) (gb01c : OrdAt (f 28) s.heap o01 (N 35 + 4)) (gb11c : OrdAt (f 28) s.heap o11 (N 36 + 4)) (KE : Ce Y h0 M H R (rawO o00 o01 o10 o11 oE0 .chars) f) : codeAny Y.x.M A (pC Y.p (f 2)) R s := by
  refine go_code O hd hA I [] (by simp) (cp_P8c Y.p Y.b1 Y.b2 s.heap.objs.size s.toks f tk N T) trivial fun s' I' W mu _ _ => ?_
  have ts := ts_of I W
  have C2 := C.next I W mu
  exact KE s' _ _ (Inv.pickH (H := H) [33, 34, 35] (by decide) I') ⟨_, _, rfl, ⟨_, _, I'.ix 30 rfl⟩, _, _, rfl, ⟨_, _, I'.ix 13 rfl⟩, _, _, rfl, ⟨_, I'.ix 29 rfl⟩, _, _, rfl, ⟨_, _, I'.ix 22 rfl⟩, _, _, rfl, ga00.mono ts, _, _, rfl, ⟨_, _, I'.ix 14 rfl⟩, _, _, rfl, ga01.mono ts, _, _, rfl, ⟨_, _, I'.ix 21 rfl⟩, _, _, rfl, ⟨_, _, I'.ix 15 rfl⟩, _, _, rfl, ⟨_, I'.ix 20 rfl⟩, _, _, rfl, ga11.mono ts, _, _, rfl, ⟨_, I'.ix 19 rfl⟩, _, _, rfl, ⟨_, _, I'.ix 18 rfl⟩, _, _, rfl, ga10.mono ts, _, _, rfl, ⟨_, I'.ix 28 rfl⟩, _, _, rfl, ⟨_, _, I'.ix 27 rfl⟩, _, _, rfl, ⟨_, _, I'.ix 10 rfl⟩, _, _, rfl, gaE0.mono ts, _, _, rfl, ⟨_, _, I'.ix 2 rfl⟩, _, _, rfl, gb01c.mono ts, _, _, rfl, ⟨_, _, I'.ix 9 rfl⟩, _, _, rfl, ⟨_, _, I'.ix 3 rfl⟩, _, _, rfl, ⟨_, I'.ix 8 rfl⟩, _, _, rfl, gb11c.mono ts, _, _, rfl, ⟨_, I'.ix 7 rfl⟩, _, _, rfl, ⟨_, _, I'.ix 6 rfl⟩, _, _, rfl, ⟨_, I'.ix 1 rfl⟩, _, _, rfl, ⟨_, I'.ix 0 rfl⟩, rfl⟩ C2.kp C2.grow
theorem ch_P7c (O : Y.x.Ok) (hd : d ≤ 500) (hA : AB d u A) (F : Cl h0 f o00 o01 o10 o11 oE0 .chars) (I : Inv Y.x s (ld_P7c Y.p f tk N T ++ H)) (C : CK h0 M s (ld_P7c Y.p f tk N T)) (ga00 : OrdAt (f 28) s.heap o00 (N 30 + 4)) (ga01 : OrdAt (f 28) s.heap o01 (N 31 + 4)) (ga11 : OrdAt (f 28) s.heap o11 (N 32 + 4)) (ga10 : OrdAt (f 28) s.heap o10 (N 33 + 4)) (gaE0 : OrdAt (f 28) s.heap oE0 (N 34 + 4)) (gb01c : OrdAt (f 28) s.heap o01 (N 35 + 4)) (gb11c : OrdAt (f 28) s.heap o11 (N 36 + 4)) (KE : Ce Y h0 M H R (rawO o00 o01 o10 o11 oE0 .chars) f) : codeAny Y.x.M A (pC Y.p (f 2)) R s := by
  refine go_tail O hd hA I [] (by simp) (cp_P7c Y.p Y.b1 Y.b2 s.heap.objs.size s.toks f tk N T) trivial fun s' I' W mu _ _ => ?_
  have ts := ts_of I W
  exact ch_P8c O hd hA F (N := (up N 16 s.heap.objs.size)) (T := (up T 16 s.toks)) I' (C.next I W mu) (ga00.mono ts) (ga01.mono ts) (ga11.mono ts) (ga10.mono ts) (gaE0.mono ts) (gb01c.mono ts) (gb11c.mono ts) KE
theorem ch_b11c (O : Y.x.Ok) (hd : d ≤ 500) (hA : AB d u A) (F : Cl h0 f o00 o01 o10 o11 oE0 .chars) (I : Inv Y.x s (ld_b11c Y.p f tk N T ++ H)) (C : CK h0 M s (ld_b11c Y.p f tk N T)) (ga00 : OrdAt (f 28) s.heap o00 (N 30 + 4)) (ga01 : OrdAt (f 28) s.heap o01 (N 31 + 4)) (ga11 : OrdAt (f 28) s.heap o11 (N 32 + 4)) (ga10 : OrdAt (f 28) s.heap o10 (N 33 + 4)) (gaE0 : OrdAt (f 28) s.heap oE0 (N 34 + 4)) (gb01c : OrdAt (f 28) s.heap o01 (N 35 + 4)) (KE : Ce Y h0 M H R (rawO o00 o01 o10 o11 oE0 .chars) f) : codeAny Y.x.M A (pC Y.p (f 2)) R s := by
  rcases F.l11.lot F.k11 with ⟨cs, xL11, yL11, rfl, eL11⟩ | ⟨xL11, rfl, eL11⟩
  · refine go_tail O hd hA I [((f 22), [sv n_any xL11, sv cs yL11])] (by simp [C.ts _ _ eL11]) (cp_b11c_any Y.p Y.b1 Y.b2 s.heap.objs.size s.toks f tk N T xL11 yL11 ⟨⟨cs⟩⟩) trivial fun s' I' W mu _ _ => ?_
    have ts := ts_of I W
    exact ch_P7c O hd hA F (N := (up N 36 s.heap.objs.size)) (I'.sub (List.sublist_cons_self _ _)) ((C.next I W mu).sub (List.sublist_cons_self _ _)) (ga00.mono ts) (ga01.mono ts) (ga11.mono ts) (ga10.mono ts) (gaE0.mono ts) (gb01c.mono ts) ⟨_, _, _, I'.ix 0 rfl⟩ KE
  · refine go_tail O hd hA I [((f 22), [sv n_fail xL11])] (by simp [C.ts _ _ eL11]) (cp_b11c_fail Y.p Y.b1 Y.b2 s.heap.objs.size s.toks f tk N T xL11) trivial fun s' I' W mu _ _ => ?_
    have ts := ts_of I W
    exact ch_P7c O hd hA F (N := (up N 36 s.heap.objs.size)) (I'.sub (List.sublist_cons_self _ _)) ((C.next I W mu).sub (List.sublist_cons_self _ _)) (ga00.mono ts) (ga01.mono ts) (ga11.mono ts) (ga10.mono ts) (gaE0.mono ts) (gb01c.mono ts) ⟨_, I'.ix 0 rfl⟩ KE
theorem ch_P6c (O : Y.x.Ok) (hd : d ≤ 500) (hA : AB d u A) (F : Cl h0 f o00 o01 o10 o11 oE0 .chars) (I : Inv Y.x s (ld_P6c Y.p f tk N T ++ H)) (C : CK h0 M s (ld_P6c Y.p f tk N T)) (ga00 : OrdAt (f 28) s.heap o00 (N 30 + 4)) (ga01 : OrdAt (f 28) s.heap o01 (N 31 + 4)) (ga11 : OrdAt (f 28) s.heap o11 (N 32 + 4)) (ga10 : OrdAt (f 28) s.heap o10 (N 33 + 4)) (gaE0 : OrdAt (f 28) s.heap oE0 (N 34 + 4)) (gb01c : OrdAt (f 28) s.heap o01 (N 35 + 4)) (KE : Ce Y h0 M H R (rawO o00 o01 o10 o11 oE0 .chars) f) : codeAny Y.x.M A (pC Y.p (f 2)) R s := by
  refine go_tail O hd hA I [] (by simp) (cp_P6c Y.p Y.b1 Y.b2 s.heap.objs.size s.toks f tk N T) trivial fun s' I' W mu _ _ => ?_
  have ts := ts_of I W
  exact ch_b11c O hd hA F (N := (up N 14 s.heap.objs.size)) (T := (up T 14 s.toks)) I' (C.next I W mu) (ga00.mono ts) (ga01.mono ts) (ga11.mono ts) (ga10.mono ts) (gaE0.mono ts) (gb01c.mono ts) KE
theorem ch_b01c (O : Y.x.Ok) (hd : d ≤ 500) (hA : AB d u A) (F : Cl h0 f o00 o01 o10 o11 oE0 .chars) (I : Inv Y.x s (ld_b01c Y.p f tk N T ++ H)) (C : CK h0 M s (ld_b01c Y.p f tk N T)) (ga00 : OrdAt (f 28) s.heap o00 (N 30 + 4)) (ga01 : OrdAt (f 28) s.heap o01 (N 31 + 4)) (ga11 : OrdAt (f 28) s.heap o11 (N 32 + 4)) (ga10 : OrdAt (f 28) s.heap o10 (N 33 + 4)) (gaE0 : OrdAt (f 28) s.heap oE0 (N 34 + 4)) (KE : Ce Y h0 M H R (rawO o00 o01 o10 o11 oE0 .chars) f) : codeAny Y.x.M A (pC Y.p (f 2)) R s := by
  rcases F.l01.lot F.k01 with ⟨cs, xL01, yL01, rfl, eL01⟩ | ⟨xL01, rfl, eL01⟩
  · refine go_tail O hd hA I [((f 20), [sv n_any xL01, sv cs yL01])] (by simp [C.ts _ _ eL01]) (cp_b01c_any Y.p Y.b1 Y.b2 s.heap.objs.size s.toks f tk N T xL01 yL01 ⟨⟨cs⟩⟩) trivial fun s' I' W mu _ _ => ?_
    have ts := ts_of I W
    exact ch_P6c O hd hA F (N := (up N 35 s.heap.objs.size)) (I'.sub (List.sublist_cons_self _ _)) ((C.next I W mu).sub (List.sublist_cons_self _ _)) (ga00.mono ts) (ga01.mono ts) (ga11.mono ts) (ga10.mono ts) (gaE0.mono ts) ⟨_, _, _, I'.ix 0 rfl⟩ KE
  · refine go_tail O hd hA I [((f 20), [sv n_fail xL01])] (by simp [C.ts _ _ eL01]) (cp_b01c_fail Y.p Y.b1 Y.b2 s.heap.objs.size s.toks f tk N T xL01) trivial fun s' I' W mu _ _ => ?_
    have ts := ts_of I W
    exact ch_P6c O hd hA F (N := (up N 35 s.heap.objs.size)) (I'.sub (List.sublist_cons_self _ _)) ((C.next I W mu).sub (List.sublist_cons_self _ _)) (ga00.mono ts) (ga01.mono ts) (ga11.mono ts) (ga10.mono ts) (gaE0.mono ts) ⟨_, I'.ix 0 rfl⟩ KE
theorem ch_P5 (O : Y.x.Ok) (hd : d ≤ 500) (hA : AB d u A) (F : Cl h0 f o00 o01 o10 o11 oE0 oE1) (I : Inv Y.x s (ld_P5 Y.p f tk N T ++ H)) (C : CK h0 M s (ld_P5 Y.p f tk N T)) (ga00 : OrdAt (f 28) s.heap o00 (N 30 + 4)) (ga01 : OrdAt (f 28) s.heap o01 (N 31 + 4)) (ga11 : OrdAt (f 28) s.heap o11 (N 32 + 4)) (ga10 : OrdAt (f 28) s.heap o10 (N 33 + 4)) (gaE0 : OrdAt (f 28) s.heap oE0 (N 34 + 4)) (KE : Ce Y h0 M H R (rawO o00 o01 o10 o11 oE0 oE1) f) : codeAny Y.x.M A (pC Y.p (f 2)) R s := by
  rcases F.lE1.fin F.kE1 with ⟨xE1, yE1, rfl, eE1⟩ | ⟨xE1, rfl, eE1⟩
  · obtain ⟨KL01, tL01, rL01, eL01, zL01, kL01⟩ := F.l01.lotH F.k01
    refine go_tail O hd hA I [((f 20), .str KL01 tL01 :: rL01), ((f 25), [sv n_chars xE1, sv [] yE1])] (by simp [C.ts _ _ eL01, C.ts _ _ eE1]) (cp_P5c Y.p Y.b1 Y.b2 s.heap.objs.size s.toks f tk N T tL01 xE1 yE1 KL01 rL01) ⟨oc_seq (by rcases kL01 with h | h <;> (show (KL01.cps.toList == _) = false; rw [h]; rfl)), oc_tget (Nat.le_trans zL01 (by decide)), oc_seq (by rcases kL01 with h | h <;> (show (KL01.cps.toList == _) = false; rw [h]; rfl)), oc_tget (Nat.le_trans zL01 (by decide)), trivial⟩ fun s' I' W mu _ _ => ?_
    have ts := ts_of I W
    exact ch_b01c O hd hA F (N := (up N 11 s.heap.objs.size)) (T := (up T 11 s.toks)) I' (C.next I W mu) (ga00.mono ts) (ga01.mono ts) (ga11.mono ts) (ga10.mono ts) (gaE0.mono ts) KE
  · obtain ⟨KL01, tL01, rL01, eL01, zL01, kL01⟩ := F.l01.lotH F.k01
    refine go_tail O hd hA I [((f 20), .str KL01 tL01 :: rL01), ((f 25), [sv n_fail xE1])] (by simp [C.ts _ _ eL01, C.ts _ _ eE1]) (cp_P5f Y.p Y.b1 Y.b2 s.heap.objs.size s.toks f tk N T tL01 xE1 KL01 rL01) ⟨oc_seq (by rcases kL01 with h | h <;> (show (KL01.cps.toList == _) = false; rw [h]; rfl)), oc_tget (Nat.le_trans zL01 (by decide)), oc_seq (by rcases kL01 with h | h <;> (show (KL01.cps.toList == _) = false; rw [h]; rfl)), oc_tget (Nat.le_trans zL01 (by decide)), trivial⟩ fun s' I' W mu _ _ => ?_
    have ts := ts_of I W
    exact ch_b01f O hd hA F (N := (up N 12 s.heap.objs.size)) (T := (up T 12 s.toks)) I' (C.next I W mu) (ga00.mono ts) (ga01.mono ts) (ga11.mono ts) (ga10.mono ts) (gaE0.mono ts) KE
theorem ch_aE0 (O : Y.x.Ok) (hd : d ≤ 500) (hA : AB d u A) (F : Cl h0 f o00 o01 o10 o11 oE0 oE1) (I : Inv Y.x s (ld_aE0 Y.p f tk N T ++ H)) (C : CK h0 M s (ld_aE0 Y.p f tk N T)) (ga00 : OrdAt (f 28) s.heap o00 (N 30 + 4)) (ga01 : OrdAt (f 28) s.heap o01 (N 31 + 4)) (ga11 : OrdAt (f 28) s.heap o11 (N 32 + 4)) (ga10 : OrdAt (f 28) s.heap o10 (N 33 + 4)) (KE : Ce Y h0 M H R (rawO o00 o01 o10 o11 oE0 oE1) f) : codeAny Y.x.M A (pC Y.p (f 2)) R s := by
  rcases F.lE0.fin F.kE0 with ⟨xE0, yE0, rfl, eE0⟩ | ⟨xE0, rfl, eE0⟩
  · refine go_tail O hd hA I [((f 23), [sv n_chars xE0, sv [] yE0])] (by simp [C.ts _ _ eE0]) (cp_aE0_chars Y.p Y.b1 Y.b2 s.heap.objs.size s.toks f tk N T xE0 yE0) trivial fun s' I' W mu _ _ => ?_
    have ts := ts_of I W
    exact ch_P5 O hd hA F (N := (up N 34 s.heap.objs.size)) (I'.sub (List.sublist_cons_self _ _)) ((C.next I W mu).sub (List.sublist_cons_self _ _)) (ga00.mono ts) (ga01.mono ts) (ga11.mono ts) (ga10.mono ts) ⟨_, _, _, I'.ix 0 rfl⟩ KE
  · refine go_tail O hd hA I [((f 23), [sv n_fail xE0])] (by simp [C.ts _ _ eE0]) (cp_aE0_fail Y.p Y.b1 Y.b2 s.heap.objs.size s.toks f tk N T xE0) trivial fun s' I' W mu _ _ => ?_
    have ts := ts_of I W
    exact ch_P5 O hd hA F (N := (up N 34 s.heap.objs.size)) (I'.sub (List.sublist_cons_self _ _)) ((C.next I W mu).sub (List.sublist_cons_self _ _)) (ga00.mono ts) (ga01.mono ts) (ga11.mono ts) (ga10.mono ts) ⟨_, I'.ix 0 rfl⟩ KE
theorem ch_P4 (O : Y.x.Ok) (hd : d ≤ 500) (hA : AB d u A) (F : Cl h0 f o00 o01 o10 o11 oE0 oE1) (I : Inv Y.x s (ld_P4 Y.p f tk N T ++ H)) (C : CK h0 M s (ld_P4 Y.p f tk N T)) (ga00 : OrdAt (f 28) s.heap o00 (N 30 + 4)) (ga01 : OrdAt (f 28) s.heap o01 (N 31 + 4)) (ga11 : OrdAt (f 28) s.heap o11 (N 32 + 4)) (ga10 : OrdAt (f 28) s.heap o10 (N 33 + 4)) (KE : Ce Y h0 M H R (rawO o00 o01 o10 o11 oE0 oE1) f) : codeAny Y.x.M A (pC Y.p (f 2)) R s := by
  obtain ⟨KE0, tE0, rE0, eE0, zE0, kE0⟩ := F.lE0.finH F.kE0
  refine go_tail O hd hA I [((f 23), .str KE0 tE0 :: rE0)] (by simp [C.ts _ _ eE0]) (cp_P4 Y.p Y.b1 Y.b2 s.heap.objs.size s.toks f tk N T tE0 KE0 rE0) ⟨oc_seq (by rcases kE0 with h | h <;> (show (KE0.cps.toList == _) = false; rw [h]; rfl)), oc_tget (Nat.le_trans zE0 (by decide)), trivial⟩ fun s' I' W mu _ _ => ?_
  have ts := ts_of I W
  exact ch_aE0 O hd hA F (N := (up N 9 s.heap.objs.size)) (T := (up T 9 s.toks)) I' (C.next I W mu) (ga00.mono ts) (ga01.mono ts) (ga11.mono ts) (ga10.mono ts) KE
theorem ch_a10 (O : Y.x.Ok) (hd : d ≤ 500) (hA : AB d u A) (F : Cl h0 f o00 o01 o10 o11 oE0 oE1) (I : Inv Y.x s (ld_a10 Y.p f tk N T ++ H)) (C : CK h0 M s (ld_a10 Y.p f tk N T)) (ga00 : OrdAt (f 28) s.heap o00 (N 30 + 4)) (ga01 : OrdAt (f 28) s.heap o01 (N 31 + 4)) (ga11 : OrdAt (f 28) s.heap o11 (N 32 + 4)) (KE : Ce Y h0 M H R (rawO o00 o01 o10 o11 oE0 oE1) f) : codeAny Y.x.M A (pC Y.p (f 2)) R s := by
  rcases F.l10.lot F.k10 with ⟨cs, xL10, yL10, rfl, eL10⟩ | ⟨xL10, rfl, eL10⟩
  · refine go_tail O hd hA I [((f 19), [sv n_any xL10, sv cs yL10])] (by simp [C.ts _ _ eL10]) (cp_a10_any Y.p Y.b1 Y.b2 s.heap.objs.size s.toks f tk N T xL10 yL10 ⟨⟨cs⟩⟩) trivial fun s' I' W mu _ _ => ?_
    have ts := ts_of I W
    exact ch_P4 O hd hA F (N := (up N 33 s.heap.objs.size)) (I'.sub (List.sublist_cons_self _ _)) ((C.next I W mu).sub (List.sublist_cons_self _ _)) (ga00.mono ts) (ga01.mono ts) (ga11.mono ts) ⟨_, _, _, I'.ix 0 rfl⟩ KE
  · refine go_tail O hd hA I [((f 19), [sv n_fail xL10])] (by simp [C.ts _ _ eL10]) (cp_a10_fail Y.p Y.b1 Y.b2 s.heap.objs.size s.toks f tk N T xL10) trivial fun s' I' W mu _ _ => ?_
    have ts := ts_of I W
    exact ch_P4 O hd hA F (N := (up N 33 s.heap.objs.size)) (I'.sub (List.sublist_cons_self _ _)) ((C.next I W mu).sub (List.sublist_cons_self _ _)) (ga00.mono ts) (ga01.mono ts) (ga11.mono ts) ⟨_, I'.ix 0 rfl⟩ KE
theorem ch_P3 (O : Y.x.Ok) (hd : d ≤ 500) (hA : AB d u A) (F : Cl h0 f o00 o01 o10 o11 oE0 oE1) (I : Inv Y.x s (ld_P3 Y.p f tk N T ++ H)) (C : CK h0 M s (ld_P3 Y.p f tk N T)) (ga00 : OrdAt (f 28) s.heap o00 (N 30 + 4)) (ga01 : OrdAt (f 28) s.heap o01 (N 31 + 4)) (ga11 : OrdAt (f 28) s.heap o11 (N 32 + 4)) (KE : Ce Y h0 M H R (rawO o00 o01 o10 o11 oE0 oE1) f) : codeAny Y.x.M A (pC Y.p (f 2)) R s := by
  refine go_tail O hd hA I [] (by simp) (cp_P3 Y.p Y.b1 Y.b2 s.heap.objs.size s.toks f tk N T) trivial fun s' I' W mu _ _ => ?_
  have ts := ts_of I W
  exact ch_a10 O hd hA F (N := (up N 7 s.heap.objs.size)) (T := (up T 7 s.toks)) I' (C.next I W mu) (ga00.mono ts) (ga01.mono ts) (ga11.mono ts) KE
theorem ch_a11 (O : Y.x.Ok) (hd : d ≤ 500) (hA : AB d u A) (F : Cl h0 f o00 o01 o10 o11 oE0 oE1) (I : Inv Y.x s (ld_a11 Y.p f tk N T ++ H)) (C : CK h0 M s (ld_a11 Y.p f tk N T)) (ga00 : OrdAt (f 28) s.heap o00 (N 30 + 4)) (ga01 : OrdAt (f 28) s.heap o01 (N 31 + 4)) (KE : Ce Y h0 M H R (rawO o00 o01 o10 o11 oE0 oE1) f) : codeAny Y.x.M A (pC Y.p (f 2)) R s := by
  rcases F.l11.lot F.k11 with ⟨cs, xL11, yL11, rfl, eL11⟩ | ⟨xL11, rfl, eL11⟩
  · refine go_tail O hd hA I [((f 22), [sv n_any xL11, sv cs yL11])] (by simp [C.ts _ _ eL11]) (cp_a11_any Y.p Y.b1 Y.b2 s.heap.objs.size s.toks f tk N T xL11 yL11 ⟨⟨cs⟩⟩) trivial fun s' I' W mu _ _ => ?_
    have ts := ts_of I W
    exact ch_P3 O hd hA F (N := (up N 32 s.heap.objs.size)) (I'.sub (List.sublist_cons_self _ _)) ((C.next I W mu).sub (List.sublist_cons_self _ _)) (ga00.mono ts) (ga01.mono ts) ⟨_, _, _, I'.ix 0 rfl⟩ KE
  · refine go_tail O hd hA I [((f 22), [sv n_fail xL11])] (by simp [C.ts _ _ eL11]) (cp_a11_fail Y.p Y.b1 Y.b2 s.heap.objs.size s.toks f tk N T xL11) trivial fun s' I' W mu _ _ => ?_
    have ts := ts_of I W
    exact ch_P3 O hd hA F (N := (up N 32 s.heap.objs.size)) (I'.sub (List.sublist_cons_self _ _)) ((C.next I W mu).sub (List.sublist_cons_self _ _)) (ga00.mono ts) (ga01.mono ts) ⟨_, I'.ix 0 rfl⟩ KE
theorem ch_P2 (O : Y.x.Ok) (hd : d ≤ 500) (hA : AB d u A) (F : Cl h0 f o00 o01 o10 o11 oE0 oE1) (I : Inv Y.x s (ld_P2 Y.p f tk N T ++ H)) (C : CK h0 M s (ld_P2 Y.p f tk N T)) (ga00 : OrdAt (f 28) s.heap o00 (N 30 + 4)) (ga01 : OrdAt (f 28) s.heap o01 (N 31 + 4)) (KE : Ce Y h0 M H R (rawO o00 o01 o10 o11 oE0 oE1) f) : codeAny Y.x.M A (pC Y.p (f 2)) R s := by
  refine go_tail O hd hA I [] (by simp) (cp_P2 Y.p Y.b1 Y.b2 s.heap.objs.size s.toks f tk N T) trivial fun s' I' W mu _ _ => ?_
  have ts := ts_of I W
  exact ch_a11 O hd hA F (N := (up N 5 s.heap.objs.size)) (T := (up T 5 s.toks)) I' (C.next I W mu) (ga00.mono ts) (ga01.mono ts) KE
theorem ch_a01 (O : Y.x.Ok) (hd : d ≤ 500) (hA : AB d u A) (F : Cl h0 f o00 o01 o10 o11 oE0 oE1) (I : Inv Y.x s (ld_a01 Y.p f tk N T ++ H)) (C : CK h0 M s (ld_a01 Y.p f tk N T)) (ga00 : OrdAt (f 28) s.heap o00 (N 30 + 4)) (KE : Ce Y h0 M H R (rawO o00 o01 o10 o11 oE0 oE1) f) : codeAny Y.x.M A (pC Y.p (f 2)) R s := by
  rcases F.l01.lot F.k01 with ⟨cs, xL01, yL01, rfl, eL01⟩ | ⟨xL01, rfl, eL01⟩
  · refine go_tail O hd hA I [((f 20), [sv n_any xL01, sv cs yL01])] (by simp [C.ts _ _ eL01]) (cp_a01_any Y.p Y.b1 Y.b2 s.heap.objs.size s.toks f tk N T xL01 yL01 ⟨⟨cs⟩⟩) trivial fun s' I' W mu _ _ => ?_
    have ts := ts_of I W
    exact ch_P2 O hd hA F (N := (up N 31 s.heap.objs.size)) (I'.sub (List.sublist_cons_self _ _)) ((C.next I W mu).sub (List.sublist_cons_self _ _)) (ga00.mono ts) ⟨_, _, _, I'.ix 0 rfl⟩ KE
  · refine go_tail O hd hA I [((f 20), [sv n_fail xL01])] (by simp [C.ts _ _ eL01]) (cp_a01_fail Y.p Y.b1 Y.b2 s.heap.objs.size s.toks f tk N T xL01) trivial fun s' I' W mu _ _ => ?_
    have ts := ts_of I W
    exact ch_P2 O hd hA F (N := (up N 31 s.heap.objs.size)) (I'.sub (List.sublist_cons_self _ _)) ((C.next I W mu).sub (List.sublist_cons_self _ _)) (ga00.mono ts) ⟨_, I'.ix 0 rfl⟩ KE
theorem ch_P1 (O : Y.x.Ok) (hd : d ≤ 500) (hA : AB d u A) (F : Cl h0 f o00 o01 o10 o11 oE0 oE1) (I : Inv Y.x s (ld_P1 Y.p f tk N T ++ H)) (C : CK h0 M s (ld_P1 Y.p f tk N T)) (ga00 : OrdAt (f 28) s.heap o00 (N 30 + 4)) (KE : Ce Y h0 M H R (rawO o00 o01 o10 o11 oE0 oE1) f) : codeAny Y.x.M A (pC Y.p (f 2)) R s := by
  obtain ⟨KL01, tL01, rL01, eL01, zL01, kL01⟩ := F.l01.lotH F.k01
  obtain ⟨KL10, tL10, rL10, eL10, zL10, kL10⟩ := F.l10.lotH F.k10
  refine go_tail O hd hA I [((f 20), .str KL01 tL01 :: rL01), ((f 19), .str KL10 tL10 :: rL10)] (by simp [C.ts _ _ eL01, C.ts _ _ eL10]) (cp_P1 Y.p Y.b1 Y.b2 s.heap.objs.size s.toks f tk N T tL01 tL10 KL01 rL01 KL10 rL10) ⟨oc_seq (by rcases kL10 with h | h <;> (show (KL10.cps.toList == _) = false; rw [h]; rfl)), oc_tget (Nat.le_trans zL10 (by decide)), oc_seq (by rcases kL01 with h | h <;> (show (KL01.cps.toList == _) = false; rw [h]; rfl)), oc_tget (Nat.le_trans zL01 (by decide)), oc_seq (by rcases kL10 with h | h <;> (show (KL10.cps.toList == _) = false; rw [h]; rfl)), oc_tget (Nat.le_trans zL10 (by decide)), oc_seq (by rcases kL01 with h | h <;> (show (KL01.cps.toList == _) = false; rw [h]; rfl)), oc_tget (Nat.le_trans zL01 (by decide)), trivial⟩ fun s' I' W mu _ _ => ?_
  have ts := ts_of I W
  exact ch_a01 O hd hA F (N := (up N 3 s.heap.objs.size)) (T := (up T 3 s.toks)) I' (C.next I W mu) (ga00.mono ts) KE
theorem ch_a00 (O : Y.x.Ok) (hd : d ≤ 500) (hA : AB d u A) (F : Cl h0 f o00 o01 o10 o11 oE0 oE1) (I : Inv Y.x s (ld_a00 Y.p f tk N T ++ H)) (C : CK h0 M s (ld_a00 Y.p f tk N T)) (KE : Ce Y h0 M H R (rawO o00 o01 o10 o11 oE0 oE1) f) : codeAny Y.x.M A (pC Y.p (f 2)) R s := by
  rcases F.l00.lot F.k00 with ⟨cs, xL00, yL00, rfl, eL00⟩ | ⟨xL00, rfl, eL00⟩
  · refine go_tail O hd hA I [((f 16), [sv n_any xL00, sv cs yL00])] (by simp [C.ts _ _ eL00]) (cp_a00_any Y.p Y.b1 Y.b2 s.heap.objs.size s.toks f tk N T xL00 yL00 ⟨⟨cs⟩⟩) trivial fun s' I' W mu _ _ => ?_
    have ts := ts_of I W
    exact ch_P1 O hd hA F (N := (up N 30 s.heap.objs.size)) (I'.sub (List.sublist_cons_self _ _)) ((C.next I W mu).sub (List.sublist_cons_self _ _)) ⟨_, _, _, I'.ix 0 rfl⟩ KE
  · refine go_tail O hd hA I [((f 16), [sv n_fail xL00])] (by simp [C.ts _ _ eL00]) (cp_a00_fail Y.p Y.b1 Y.b2 s.heap.objs.size s.toks f tk N T xL00) trivial fun s' I' W mu _ _ => ?_
    have ts := ts_of I W
    exact ch_P1 O hd hA F (N := (up N 30 s.heap.objs.size)) (I'.sub (List.sublist_cons_self _ _)) ((C.next I W mu).sub (List.sublist_cons_self _ _)) ⟨_, I'.ix 0 rfl⟩ KE
theorem ch_P0 (O : Y.x.Ok) (hd : d ≤ 500) (hA : AB d u A) (F : Cl h0 f o00 o01 o10 o11 oE0 oE1) (I : Inv Y.x s (ld_P0 Y.p f tk ++ H)) (C : CK h0 M s (ld_P0 Y.p f tk)) (KE : Ce Y h0 M H R (rawO o00 o01 o10 o11 oE0 oE1) f) : codeAny Y.x.M A (pC Y.p (f 2)) R s := by
  obtain ⟨KL00, tL00, rL00, eL00, zL00, kL00⟩ := F.l00.lotH F.k00
  refine go_tail O hd hA I [((f 16), .str KL00 tL00 :: rL00)] (by simp [C.ts _ _ eL00]) (cp_P0 Y.p Y.b1 Y.b2 s.heap.objs.size s.toks f tk Z0 Z0 tL00 KL00 rL00) ⟨oc_seq (by rcases kL00 with h | h <;> (show (KL00.cps.toList == _) = false; rw [h]; rfl)), oc_tget (Nat.le_trans zL00 (by decide)), trivial⟩ fun s' I' W mu _ _ => ?_
  have ts := ts_of I W
  exact ch_a00 O hd hA F (N := (up Z0 1 s.heap.objs.size)) (T := (up Z0 1 s.toks)) I' (C.next I W mu)  KE
end
end
section
open PySem PySem.W PySem.W.X PySem.Calls PySem.Spec PyProof.Rows
noncomputable abbrev treeL (aT aN ab1 al1 ac1 ao ab2 al2 ac2 aCF acu afl L00 L01 L10 L11 E0 E1 rj : Nat) (tk : Nat → Nat) : List (Addr × List Value) := [(aT, [sv n_cat (tk 0), .ref aN, .ref aCF]), (aN, [sv n_cat (tk 1), .ref ab1, .ref al2]), (ab1, [sv n_arbno (tk 2), .ref al1]), (al1, [sv n_alt (tk 3), .ref L00, .ref ac1]), (ac1, [sv n_cat (tk 4), .ref ao, .ref L10]), (ao, [sv n_cat (tk 5), .ref L01, .ref ab2]), (ab2, [sv n_arbno (tk 6), .ref L11]), (al2, [sv n_alt (tk 7), .ref E0, .ref ac2]), (ac2, [sv n_cat (tk 8), .ref ao, .ref E1]), (aCF, [sv n_cat (tk 9), .ref acu, .ref afl]), (acu, [sv n_cursor (tk 10), .ref rj]), (afl, [sv n_fail (tk 11)])]
theorem LfAt.mono {h h' : Heap} (T : Ts h h') {a : Addr} : ∀ {o : Ord}, LfAt h o a → LfAt h' o a
  | .any _, ⟨t1, t2, e⟩ => ⟨t1, t2, T _ _ e⟩
  | .chars, ⟨t1, t2, e⟩ => ⟨t1, t2, T _ _ e⟩
  | .fail, ⟨t1, e⟩ => ⟨t1, T _ _ e⟩
theorem CLf.mono {h h' : Heap} {o00 o01 o10 o11 oE0 oE1 : Ord} {L00 L01 L10 L11 E0 E1 : Nat} (F : CLf h o00 o01 o10 o11 oE0 oE1 L00 L01 L10 L11 E0 E1) (T : Ts h h') : CLf h' o00 o01 o10 o11 oE0 oE1 L00 L01 L10 L11 E0 E1 :=
  ⟨F.l00.mono T, F.l01.mono T, F.l10.mono T, F.l11.mono T, F.lE0.mono T, F.lE1.mono T, F.k00, F.k01, F.k10, F.k11, F.kE0, F.kE1⟩
theorem OrdsAt.cons {rj : Nat} {h : Heap} {o : Ord} {l : List Ord} {vs : List Value} (G : OrdsAt rj h (o :: l) vs) : ∃ a vs', vs = .ref a :: vs' ∧ OrdAt rj h o a ∧ OrdsAt rj h l vs' := G
theorem OrdAt.head {rj : Nat} {h : Heap} {a : Addr} : ∀ {o : Ord}, OrdAt rj h o a → o.isLot ∨ o.isFin → ∃ W t r, h.get? a = some (tup (.str W t :: r)) ∧ r.length ≤ 2 ∧ (W.cps.toList = n_one ∨ W.cps.toList = n_fail)
  | .any cs, ⟨t1, t2, t3, e⟩, _ => ⟨_, _, _, e, Nat.le_refl _, .inl rfl⟩
  | .chars, ⟨t1, t2, t3, e⟩, _ => ⟨_, _, _, e, Nat.le_refl _, .inl rfl⟩
  | .fail, ⟨t1, e⟩, _ => ⟨_, _, _, e, Nat.zero_le _, .inr rfl⟩
  | .split _, _, h => h.elim False.elim False.elim
  | .jump _, _, h => h.elim False.elim False.elim
  | .mark, _, h => h.elim False.elim False.elim
  | .gain, _, h => h.elim False.elim False.elim
  | .place, _, h => h.elim False.elim False.elim
  | .done, _, h => h.elim False.elim False.elim
section
variable {Y : Cy} {A : Around} {d u : Nat} {R : Result → Shared → Prop} {H : List En} {o00 o01 o10 o11 oE0 oE1 : Ord} {aT aN ab1 al1 ac1 ao ab2 al2 ac2 aCF acu afl L00 L01 L10 L11 E0 E1 rj : Nat} {tk : Nat → Nat} {s s0 : Shared}
noncomputable def CDone (Y : Cy) (s0 : Shared) (H : List En) (R : Result → Shared → Prop) (ords : List Ord) (rj : Nat) : Prop :=
  ∀ s' rl os re, Inv Y.x s' (et rl (lst os re) :: H) → OrdsAt rj s'.heap ords os → Tr [] s0 s' → s0.heap.objs.size ≤ rl → R (.ok (.ret (.ref rl))) s'
theorem cp_end_c (O : Y.x.Ok) (hd : d ≤ 490) (hA : AB d u A) {h0 : Heap} (F : CLf h0 o00 o01 o10 o11 oE0 .chars L00 L01 L10 L11 E0 E1) {Lc ci cd ol oe : Nat} {hs hc : Nat → Int} {ks kc : Nat → Nat} {os : List Value} {c : Code}
    (I : Inv Y.x s ([et Lc (fq15 hs ks (.ref aT) (.ref ci) 2), et ci (inst 94 cd), et cd (fq16 hc kc (.ref ol) 1), et ol (lst os oe)] ++ H))
    (C : CK s0.heap [] s [et Lc (fq15 hs ks (.ref aT) (.ref ci) 2), et ci (inst 94 cd), et cd (fq16 hc kc (.ref ol) 1), et ol (lst os oe)])
    (G : OrdsAt rj s.heap (rawO o00 o01 o10 o11 oE0 .chars) os) (K : CDone Y s0 H R (rawO o00 o01 o10 o11 oE0 .chars ++ [.done]) rj) (hcode : c = .func (bodyAt Y.p 112) (envAt Y.p 112 Lc)) :
    wpOwn Y.x.M A c (execs ((bodyAt Y.p 112).drop 2) (envAt Y.p 112 Lc)) (fun f s' => R (.ok (.ret (match f with | .ret v => v | _ => .none))) s') (fun _ _ => False) s := by
  subst hcode
  have G : OrdsAt rj s.heap [.split 2, .jump 16, .mark, .split 6, o00, .jump 14, o01, .split 9, .jump 13, .mark, o11, .gain, .jump 7, o10, .gain, .jump 0, .split 19, oE0, .jump 26, o01, .split 22, .jump 26, .mark, o11, .gain, .jump 20, .place, .fail] os := G
  obtain ⟨o0, v0, q0, f0, G⟩ := G.cons
  obtain ⟨o1, v1, q1, f1, G⟩ := G.cons
  obtain ⟨o2, v2, q2, f2, G⟩ := G.cons
  obtain ⟨o3, v3, q3, f3, G⟩ := G.cons
  obtain ⟨o4, v4, q4, f4, G⟩ := G.cons
  obtain ⟨o5, v5, q5, f5, G⟩ := G.cons
  obtain ⟨o6, v6, q6, f6, G⟩ := G.cons
  obtain ⟨o7, v7, q7, f7, G⟩ := G.cons
  obtain ⟨o8, v8, q8, f8, G⟩ := G.cons
  obtain ⟨o9, v9, q9, f9, G⟩ := G.cons
  obtain ⟨o10, v10, q10, f10, G⟩ := G.cons
  obtain ⟨o11, v11, q11, f11, G⟩ := G.cons
  obtain ⟨o12, v12, q12, f12, G⟩ := G.cons
  obtain ⟨o13, v13, q13, f13, G⟩ := G.cons
  obtain ⟨o14, v14, q14, f14, G⟩ := G.cons
  obtain ⟨o15, v15, q15, f15, G⟩ := G.cons
  obtain ⟨o16, v16, q16, f16, G⟩ := G.cons
  obtain ⟨o17, v17, q17, f17, G⟩ := G.cons
  obtain ⟨o18, v18, q18, f18, G⟩ := G.cons
  obtain ⟨o19, v19, q19, f19, G⟩ := G.cons
  obtain ⟨o20, v20, q20, f20, G⟩ := G.cons
  obtain ⟨o21, v21, q21, f21, G⟩ := G.cons
  obtain ⟨o22, v22, q22, f22, G⟩ := G.cons
  obtain ⟨o23, v23, q23, f23, G⟩ := G.cons
  obtain ⟨o24, v24, q24, f24, G⟩ := G.cons
  obtain ⟨o25, v25, q25, f25, G⟩ := G.cons
  obtain ⟨o26, v26, q26, f26, G⟩ := G.cons
  obtain ⟨o27, v27, q27, f27, G⟩ := G.cons
  have qe : v27 = [] := G
  subst qe q27 q26 q25 q24 q23 q22 q21 q20 q19 q18 q17 q16 q15 q14 q13 q12 q11 q10 q9 q8 q7 q6 q5 q4 q3 q2 q1 q0
  obtain ⟨t0, g0, e0⟩ := id f0
  obtain ⟨t1, g1, e1⟩ := id f1
  obtain ⟨t2, e2⟩ := id f2
  obtain ⟨t3, g3, e3⟩ := id f3
  obtain ⟨W4, t4, r4, e4, z4, h4⟩ := f4.head (.inl F.k00)
  obtain ⟨t5, g5, e5⟩ := id f5
  obtain ⟨W6, t6, r6, e6, z6, h6⟩ := f6.head (.inl F.k01)
  obtain ⟨t7, g7, e7⟩ := id f7
  obtain ⟨t8, g8, e8⟩ := id f8
  obtain ⟨t9, e9⟩ := id f9
  obtain ⟨W10, t10, r10, e10, z10, h10⟩ := f10.head (.inl F.k11)
  obtain ⟨t11, e11⟩ := id f11
  obtain ⟨t12, g12, e12⟩ := id f12
  obtain ⟨W13, t13, r13, e13, z13, h13⟩ := f13.head (.inl F.k10)
  obtain ⟨t14, e14⟩ := id f14
  obtain ⟨t15, g15, e15⟩ := id f15
  obtain ⟨t16, g16, e16⟩ := id f16
  obtain ⟨W17, t17, r17, e17, z17, h17⟩ := f17.head (.inr F.kE0)
  obtain ⟨t18, g18, e18⟩ := id f18
  obtain ⟨W19, t19, r19, e19, z19, h19⟩ := f19.head (.inl F.k01)
  obtain ⟨t20, g20, e20⟩ := id f20
  obtain ⟨t21, g21, e21⟩ := id f21
  obtain ⟨t22, e22⟩ := id f22
  obtain ⟨W23, t23, r23, e23, z23, h23⟩ := f23.head (.inl F.k11)
  obtain ⟨t24, e24⟩ := id f24
  obtain ⟨t25, g25, e25⟩ := id f25
  obtain ⟨t26, e26⟩ := id f26
  obtain ⟨t27, e27⟩ := id f27
  refine own_last (go_ret O (by omega) hA I [(o0, [sv n_split t0, .int 2 g0]), (o1, [sv n_jump t1, .int 16 g1]), (o2, [sv n_mark t2]), (o3, [sv n_split t3, .int 6 g3]), (o4, .str W4 t4 :: r4), (o5, [sv n_jump t5, .int 14 g5]), (o6, .str W6 t6 :: r6), (o7, [sv n_split t7, .int 9 g7]), (o8, [sv n_jump t8, .int 13 g8]), (o9, [sv n_mark t9]), (o10, .str W10 t10 :: r10), (o11, [sv n_gain t11]), (o12, [sv n_jump t12, .int 7 g12]), (o13, .str W13 t13 :: r13), (o14, [sv n_gain t14]), (o15, [sv n_jump t15, .int 0 g15]), (o16, [sv n_split t16, .int 19 g16]), (o17, .str W17 t17 :: r17), (o18, [sv n_jump t18, .int 26 g18]), (o19, .str W19 t19 :: r19), (o20, [sv n_split t20, .int 22 g20]), (o21, [sv n_jump t21, .int 26 g21]), (o22, [sv n_mark t22]), (o23, .str W23 t23 :: r23), (o24, [sv n_gain t24]), (o25, [sv n_jump t25, .int 20 g25]), (o26, [sv n_place t26, .ref rj]), (o27, [sv n_fail t27])] (by simp only [List.forall_mem_cons, List.not_mem_nil, false_imp_iff, implies_true, and_true]; exact ⟨e0, e1, e2, e3, e4, e5, e6, e7, e8, e9, e10, e11, e12, e13, e14, e15, e16, e17, e18, e19, e20, e21, e22, e23, e24, e25, e26, e27⟩)
    (cp_rest_c Y.p Y.b1 Y.b2 s.heap.objs.size s.toks Lc aT ci cd ol oe rj hs hc ks kc o0 o1 o2 o3 o4 o5 o6 o7 o8 o9 o10 o11 o12 o13 o14 o15 o16 o17 o18 o19 o20 o21 o22 o23 o24 o25 o26 o27 t0 t1 t2 t3 t4 t5 t6 t7 t8 t9 t10 t11 t12 t13 t14 t15 t16 t17 t18 t19 t20 t21 t22 t23 t24 t25 t26 t27 g0 g1 g3 g5 g7 g8 g12 g15 g16 g18 g20 g21 g25 W4 W6 W10 W13 W17 W19 W23 r4 r6 r10 r13 r17 r19 r23)
    ⟨oc_tin (by rcases h23 with h | h <;> rw [h] <;> decide) (by rcases h23 with h | h <;> rw [h] <;> decide), oc_tget (Nat.le_trans z23 (by decide)), oc_tin (by rcases h19 with h | h <;> rw [h] <;> decide) (by rcases h19 with h | h <;> rw [h] <;> decide), oc_tget (Nat.le_trans z19 (by decide)), oc_tin (by rcases h17 with h | h <;> rw [h] <;> decide) (by rcases h17 with h | h <;> rw [h] <;> decide), oc_tget (Nat.le_trans z17 (by decide)), oc_seq (by rcases h19 with h | h <;> (show (W19.cps.toList == _) = false; rw [h]; rfl)), oc_tget (Nat.le_trans z19 (by decide)), oc_tin (by rcases h13 with h | h <;> rw [h] <;> decide) (by rcases h13 with h | h <;> rw [h] <;> decide), oc_tget (Nat.le_trans z13 (by decide)), oc_tin (by rcases h10 with h | h <;> rw [h] <;> decide) (by rcases h10 with h | h <;> rw [h] <;> decide), oc_tget (Nat.le_trans z10 (by decide)), oc_seq (by rcases h13 with h | h <;> (show (W13.cps.toList == _) = false; rw [h]; rfl)), oc_tget (Nat.le_trans z13 (by decide)), oc_tin (by rcases h6 with h | h <;> rw [h] <;> decide) (by rcases h6 with h | h <;> rw [h] <;> decide), oc_tget (Nat.le_trans z6 (by decide)), oc_tin (by rcases h4 with h | h <;> rw [h] <;> decide) (by rcases h4 with h | h <;> rw [h] <;> decide), oc_tget (Nat.le_trans z4 (by decide)), oc_seq (by rcases h6 with h | h <;> (show (W6.cps.toList == _) = false; rw [h]; rfl)), oc_tget (Nat.le_trans z6 (by decide)), trivial⟩ fun s' I' T mu hn _ => ?_)
  have ts := ts_of' I T
  have C2 := C.next I T mu
  exact K s' _ _ _ (I'.pickH [13] (by decide)) ⟨_, _, rfl, ⟨_, _, I'.ix 12 rfl⟩, ⟨_, _, rfl, ⟨_, _, I'.ix 11 rfl⟩, ⟨_, _, rfl, (f2.mono ts), ⟨_, _, rfl, ⟨_, _, I'.ix 10 rfl⟩, ⟨_, _, rfl, (f4.mono ts), ⟨_, _, rfl, ⟨_, _, I'.ix 9 rfl⟩, ⟨_, _, rfl, (f6.mono ts), ⟨_, _, rfl, ⟨_, _, I'.ix 8 rfl⟩, ⟨_, _, rfl, ⟨_, _, I'.ix 7 rfl⟩, ⟨_, _, rfl, (f9.mono ts), ⟨_, _, rfl, (f10.mono ts), ⟨_, _, rfl, (f11.mono ts), ⟨_, _, rfl, ⟨_, _, I'.ix 6 rfl⟩, ⟨_, _, rfl, (f13.mono ts), ⟨_, _, rfl, (f14.mono ts), ⟨_, _, rfl, ⟨_, _, I'.ix 5 rfl⟩, ⟨_, _, rfl, ⟨_, _, I'.ix 4 rfl⟩, ⟨_, _, rfl, (f17.mono ts), ⟨_, _, rfl, ⟨_, _, I'.ix 3 rfl⟩, ⟨_, _, rfl, (f19.mono ts), ⟨_, _, rfl, ⟨_, _, I'.ix 2 rfl⟩, ⟨_, _, rfl, ⟨_, _, I'.ix 1 rfl⟩, ⟨_, _, rfl, (f22.mono ts), ⟨_, _, rfl, (f23.mono ts), ⟨_, _, rfl, (f24.mono ts), ⟨_, _, rfl, ⟨_, _, I'.ix 0 rfl⟩, ⟨_, _, rfl, (f26.mono ts), ⟨_, _, rfl, (f27.mono ts), ⟨_, _, rfl, ⟨_, I'.ix 14 rfl⟩, rfl⟩⟩⟩⟩⟩⟩⟩⟩⟩⟩⟩⟩⟩⟩⟩⟩⟩⟩⟩⟩⟩⟩⟩⟩⟩⟩⟩⟩⟩ (C2.tr rfl (by simp)) (Nat.le_trans C.grow (Nat.le_add_right _ _))
theorem cp_end_f (O : Y.x.Ok) (hd : d ≤ 490) (hA : AB d u A) {h0 : Heap} (F : CLf h0 o00 o01 o10 o11 oE0 .fail L00 L01 L10 L11 E0 E1) {Lc ci cd ol oe : Nat} {hs hc : Nat → Int} {ks kc : Nat → Nat} {os : List Value} {c : Code}
    (I : Inv Y.x s ([et Lc (fq15 hs ks (.ref aT) (.ref ci) 2), et ci (inst 94 cd), et cd (fq16 hc kc (.ref ol) 1), et ol (lst os oe)] ++ H))
    (C : CK s0.heap [] s [et Lc (fq15 hs ks (.ref aT) (.ref ci) 2), et ci (inst 94 cd), et cd (fq16 hc kc (.ref ol) 1), et ol (lst os oe)])
    (G : OrdsAt rj s.heap (rawO o00 o01 o10 o11 oE0 .fail) os) (K : CDone Y s0 H R (rawO o00 o01 o10 o11 oE0 .fail ++ [.done]) rj) (hcode : c = .func (bodyAt Y.p 112) (envAt Y.p 112 Lc)) :
    wpOwn Y.x.M A c (execs ((bodyAt Y.p 112).drop 2) (envAt Y.p 112 Lc)) (fun f s' => R (.ok (.ret (match f with | .ret v => v | _ => .none))) s') (fun _ _ => False) s := by
  subst hcode
  have G : OrdsAt rj s.heap [.split 2, .jump 16, .mark, .split 6, o00, .jump 14, o01, .split 9, .jump 13, .mark, o11, .gain, .jump 7, o10, .gain, .jump 0, .split 19, oE0, .jump 27, o01, .split 22, .jump 26, .mark, o11, .gain, .jump 20, .fail, .place, .fail] os := G
  obtain ⟨o0, v0, q0, f0, G⟩ := G.cons
  obtain ⟨o1, v1, q1, f1, G⟩ := G.cons
  obtain ⟨o2, v2, q2, f2, G⟩ := G.cons
  obtain ⟨o3, v3, q3, f3, G⟩ := G.cons
  obtain ⟨o4, v4, q4, f4, G⟩ := G.cons
  obtain ⟨o5, v5, q5, f5, G⟩ := G.cons
  obtain ⟨o6, v6, q6, f6, G⟩ := G.cons
  obtain ⟨o7, v7, q7, f7, G⟩ := G.cons
  obtain ⟨o8, v8, q8, f8, G⟩ := G.cons
  obtain ⟨o9, v9, q9, f9, G⟩ := G.cons
  obtain ⟨o10, v10, q10, f10, G⟩ := G.cons
  obtain ⟨o11, v11, q11, f11, G⟩ := G.cons
  obtain ⟨o12, v12, q12, f12, G⟩ := G.cons
  obtain ⟨o13, v13, q13, f13, G⟩ := G.cons
  obtain ⟨o14, v14, q14, f14, G⟩ := G.cons
  obtain ⟨o15, v15, q15, f15, G⟩ := G.cons
  obtain ⟨o16, v16, q16, f16, G⟩ := G.cons
  obtain ⟨o17, v17, q17, f17, G⟩ := G.cons
  obtain ⟨o18, v18, q18, f18, G⟩ := G.cons
  obtain ⟨o19, v19, q19, f19, G⟩ := G.cons
  obtain ⟨o20, v20, q20, f20, G⟩ := G.cons
  obtain ⟨o21, v21, q21, f21, G⟩ := G.cons
  obtain ⟨o22, v22, q22, f22, G⟩ := G.cons
  obtain ⟨o23, v23, q23, f23, G⟩ := G.cons
  obtain ⟨o24, v24, q24, f24, G⟩ := G.cons
  obtain ⟨o25, v25, q25, f25, G⟩ := G.cons
  obtain ⟨o26, v26, q26, f26, G⟩ := G.cons
  obtain ⟨o27, v27, q27, f27, G⟩ := G.cons
  obtain ⟨o28, v28, q28, f28, G⟩ := G.cons
  have qe : v28 = [] := G
  subst qe q28 q27 q26 q25 q24 q23 q22 q21 q20 q19 q18 q17 q16 q15 q14 q13 q12 q11 q10 q9 q8 q7 q6 q5 q4 q3 q2 q1 q0
  obtain ⟨t0, g0, e0⟩ := id f0
  obtain ⟨t1, g1, e1⟩ := id f1
  obtain ⟨t2, e2⟩ := id f2
  obtain ⟨t3, g3, e3⟩ := id f3
  obtain ⟨W4, t4, r4, e4, z4, h4⟩ := f4.head (.inl F.k00)
  obtain ⟨t5, g5, e5⟩ := id f5
  obtain ⟨W6, t6, r6, e6, z6, h6⟩ := f6.head (.inl F.k01)
  obtain ⟨t7, g7, e7⟩ := id f7
  obtain ⟨t8, g8, e8⟩ := id f8
  obtain ⟨t9, e9⟩ := id f9
  obtain ⟨W10, t10, r10, e10, z10, h10⟩ := f10.head (.inl F.k11)
  obtain ⟨t11, e11⟩ := id f11
  obtain ⟨t12, g12, e12⟩ := id f12
  obtain ⟨W13, t13, r13, e13, z13, h13⟩ := f13.head (.inl F.k10)
  obtain ⟨t14, e14⟩ := id f14
  obtain ⟨t15, g15, e15⟩ := id f15
  obtain ⟨t16, g16, e16⟩ := id f16
  obtain ⟨W17, t17, r17, e17, z17, h17⟩ := f17.head (.inr F.kE0)
  obtain ⟨t18, g18, e18⟩ := id f18
  obtain ⟨W19, t19, r19, e19, z19, h19⟩ := f19.head (.inl F.k01)
  obtain ⟨t20, g20, e20⟩ := id f20
  obtain ⟨t21, g21, e21⟩ := id f21
  obtain ⟨t22, e22⟩ := id f22
  obtain ⟨W23, t23, r23, e23, z23, h23⟩ := f23.head (.inl F.k11)
  obtain ⟨t24, e24⟩ := id f24
  obtain ⟨t25, g25, e25⟩ := id f25
  obtain ⟨W26, t26, r26, e26, z26, h26⟩ := f26.head (.inl trivial)
  obtain ⟨t27, e27⟩ := id f27
  obtain ⟨t28, e28⟩ := id f28
  refine own_last (go_ret O (by omega) hA I [(o0, [sv n_split t0, .int 2 g0]), (o1, [sv n_jump t1, .int 16 g1]), (o2, [sv n_mark t2]), (o3, [sv n_split t3, .int 6 g3]), (o4, .str W4 t4 :: r4), (o5, [sv n_jump t5, .int 14 g5]), (o6, .str W6 t6 :: r6), (o7, [sv n_split t7, .int 9 g7]), (o8, [sv n_jump t8, .int 13 g8]), (o9, [sv n_mark t9]), (o10, .str W10 t10 :: r10), (o11, [sv n_gain t11]), (o12, [sv n_jump t12, .int 7 g12]), (o13, .str W13 t13 :: r13), (o14, [sv n_gain t14]), (o15, [sv n_jump t15, .int 0 g15]), (o16, [sv n_split t16, .int 19 g16]), (o17, .str W17 t17 :: r17), (o18, [sv n_jump t18, .int 27 g18]), (o19, .str W19 t19 :: r19), (o20, [sv n_split t20, .int 22 g20]), (o21, [sv n_jump t21, .int 26 g21]), (o22, [sv n_mark t22]), (o23, .str W23 t23 :: r23), (o24, [sv n_gain t24]), (o25, [sv n_jump t25, .int 20 g25]), (o26, .str W26 t26 :: r26), (o27, [sv n_place t27, .ref rj]), (o28, [sv n_fail t28])] (by simp only [List.forall_mem_cons, List.not_mem_nil, false_imp_iff, implies_true, and_true]; exact ⟨e0, e1, e2, e3, e4, e5, e6, e7, e8, e9, e10, e11, e12, e13, e14, e15, e16, e17, e18, e19, e20, e21, e22, e23, e24, e25, e26, e27, e28⟩)
    (cp_rest_f Y.p Y.b1 Y.b2 s.heap.objs.size s.toks Lc aT ci cd ol oe rj hs hc ks kc o0 o1 o2 o3 o4 o5 o6 o7 o8 o9 o10 o11 o12 o13 o14 o15 o16 o17 o18 o19 o20 o21 o22 o23 o24 o25 o26 o27 o28 t0 t1 t2 t3 t4 t5 t6 t7 t8 t9 t10 t11 t12 t13 t14 t15 t16 t17 t18 t19 t20 t21 t22 t23 t24 t25 t26 t27 t28 g0 g1 g3 g5 g7 g8 g12 g15 g16 g18 g20 g21 g25 W4 W6 W10 W13 W17 W19 W23 W26 r4 r6 r10 r13 r17 r19 r23 r26)
    ⟨oc_tin (by rcases h26 with h | h <;> rw [h] <;> decide) (by rcases h26 with h | h <;> rw [h] <;> decide), oc_tget (Nat.le_trans z26 (by decide)), oc_tin (by rcases h23 with h | h <;> rw [h] <;> decide) (by rcases h23 with h | h <;> rw [h] <;> decide), oc_tget (Nat.le_trans z23 (by decide)), oc_seq (by rcases h26 with h | h <;> (show (W26.cps.toList == _) = false; rw [h]; rfl)), oc_tget (Nat.le_trans z26 (by decide)), oc_tin (by rcases h19 with h | h <;> rw [h] <;> decide) (by rcases h19 with h | h <;> rw [h] <;> decide), oc_tget (Nat.le_trans z19 (by decide)), oc_tin (by rcases h17 with h | h <;> rw [h] <;> decide) (by rcases h17 with h | h <;> rw [h] <;> decide), oc_tget (Nat.le_trans z17 (by decide)), oc_seq (by rcases h19 with h | h <;> (show (W19.cps.toList == _) = false; rw [h]; rfl)), oc_tget (Nat.le_trans z19 (by decide)), oc_tin (by rcases h13 with h | h <;> rw [h] <;> decide) (by rcases h13 with h | h <;> rw [h] <;> decide), oc_tget (Nat.le_trans z13 (by decide)), oc_tin (by rcases h10 with h | h <;> rw [h] <;> decide) (by rcases h10 with h | h <;> rw [h] <;> decide), oc_tget (Nat.le_trans z10 (by decide)), oc_seq (by rcases h13 with h | h <;> (show (W13.cps.toList == _) = false; rw [h]; rfl)), oc_tget (Nat.le_trans z13 (by decide)), oc_tin (by rcases h6 with h | h <;> rw [h] <;> decide) (by rcases h6 with h | h <;> rw [h] <;> decide), oc_tget (Nat.le_trans z6 (by decide)), oc_tin (by rcases h4 with h | h <;> rw [h] <;> decide) (by rcases h4 with h | h <;> rw [h] <;> decide), oc_tget (Nat.le_trans z4 (by decide)), oc_seq (by rcases h6 with h | h <;> (show (W6.cps.toList == _) = false; rw [h]; rfl)), oc_tget (Nat.le_trans z6 (by decide)), trivial⟩ fun s' I' T mu hn _ => ?_)
  have ts := ts_of' I T
  have C2 := C.next I T mu
  exact K s' _ _ _ (I'.pickH [13] (by decide)) ⟨_, _, rfl, ⟨_, _, I'.ix 12 rfl⟩, ⟨_, _, rfl, ⟨_, _, I'.ix 11 rfl⟩, ⟨_, _, rfl, (f2.mono ts), ⟨_, _, rfl, ⟨_, _, I'.ix 10 rfl⟩, ⟨_, _, rfl, (f4.mono ts), ⟨_, _, rfl, ⟨_, _, I'.ix 9 rfl⟩, ⟨_, _, rfl, (f6.mono ts), ⟨_, _, rfl, ⟨_, _, I'.ix 8 rfl⟩, ⟨_, _, rfl, ⟨_, _, I'.ix 7 rfl⟩, ⟨_, _, rfl, (f9.mono ts), ⟨_, _, rfl, (f10.mono ts), ⟨_, _, rfl, (f11.mono ts), ⟨_, _, rfl, ⟨_, _, I'.ix 6 rfl⟩, ⟨_, _, rfl, (f13.mono ts), ⟨_, _, rfl, (f14.mono ts), ⟨_, _, rfl, ⟨_, _, I'.ix 5 rfl⟩, ⟨_, _, rfl, ⟨_, _, I'.ix 4 rfl⟩, ⟨_, _, rfl, (f17.mono ts), ⟨_, _, rfl, ⟨_, _, I'.ix 3 rfl⟩, ⟨_, _, rfl, (f19.mono ts), ⟨_, _, rfl, ⟨_, _, I'.ix 2 rfl⟩, ⟨_, _, rfl, ⟨_, _, I'.ix 1 rfl⟩, ⟨_, _, rfl, (f22.mono ts), ⟨_, _, rfl, (f23.mono ts), ⟨_, _, rfl, (f24.mono ts), ⟨_, _, rfl, ⟨_, _, I'.ix 0 rfl⟩, ⟨_, _, rfl, (f26.mono ts), ⟨_, _, rfl, (f27.mono ts), ⟨_, _, rfl, (f28.mono ts), ⟨_, _, rfl, ⟨_, I'.ix 14 rfl⟩, rfl⟩⟩⟩⟩⟩⟩⟩⟩⟩⟩⟩⟩⟩⟩⟩⟩⟩⟩⟩⟩⟩⟩⟩⟩⟩⟩⟩⟩⟩⟩ (C2.tr rfl (by simp)) (Nat.le_trans C.grow (Nat.le_add_right _ _))
end
end
section
open PySem PySem.W PySem.W.X PySem.Calls PySem.Spec PyProof.Rows
noncomputable def nf (l : List Nat) (i : Nat) : Nat := l.getD i 0
section
variable {Y : Cy} {A : Around} {d u : Nat} {R : Result → Shared → Prop} {H : List En} {o00 o01 o10 o11 oE0 oE1 : Ord} {aT aN ab1 al1 ac1 ao ab2 al2 ac2 aCF acu afl L00 L01 L10 L11 E0 E1 rj : Nat} {tk : Nat → Nat} {s s0 : Shared}
theorem compile (O : Y.x.Ok) (hd : d ≤ 400) (hA : AB d u A) (I : Inv Y.x s H) (TR : ∀ q ∈ treeL aT aN ab1 al1 ac1 ao ab2 al2 ac2 aCF acu afl L00 L01 L10 L11 E0 E1 rj tk, s.heap.get? q.1 = some (tup q.2)) (F : CLf s.heap o00 o01 o10 o11 oE0 oE1 L00 L01 L10 L11 E0 E1)
    (K : CDone Y s H R (rawO o00 o01 o10 o11 oE0 oE1 ++ [.done]) rj) : codeAny Y.x.M A (.call (.ref 112) ⟨[.ref aT], []⟩) R s := by
  refine go_def O (by omega) hA (L := []) I (fn112 Y.p) rfl (cp_call Y.p Y.b1 Y.b2 s.heap.objs.size s.toks aT) trivial fun s1 I1 T1 mu1 _ _ => go_func ?_
  have C1 := (CK.start s [] (by simp)).next (H := H) I T1 mu1
  rw [show bodyAt Y.p 112 = (bodyAt Y.p 112).take 1 ++ ([stAt (bodyAt Y.p 112) 1] ++ (bodyAt Y.p 112).drop 2) by kernel_rfl]
  refine own_step ?_
  rw [show (bodyAt Y.p 112).take 1 ++ ([stAt (bodyAt Y.p 112) 1] ++ (bodyAt Y.p 112).drop 2) = bodyAt Y.p 112 by kernel_rfl]
  refine go_ret O (by omega) hA I1 [] (by simp) (cp_start Y.p Y.b1 Y.b2 s1.heap.objs.size s1.toks s.heap.objs.size aT (fun _ => kh Y.p n_node) (fun _ => s.toks)) trivial fun s2 I2 T2 mu2 _ _ => ?_
  have C2 := C1.next I1 T2 mu2
  show wpOwn _ _ _ _ _ _ _
  refine own_step ?_
  let hs : Nat → Int := fun i => [kh Y.p n_node, kh Y.p n_code].getD i 0
  let ks : Nat → Nat := fun i => [s.toks, s1.toks + 3].getD i 0
  have I3 := I2.pickH [3, 1, 2, 0] (by decide)
  have C3 : CK s.heap [] s2 (pk [3, 1, 2, 0] _) := ⟨C2.kp, C2.ts, C2.grow, fun e he hm => by
    obtain ⟨i, _, hi⟩ := List.mem_filterMap.mp he
    exact C2.mu e (List.mem_of_getElem? hi) hm⟩
  refine go_stop O (by omega) hA I3 [] (by simp) (cp_put Y.p Y.b1 Y.b2 s2.heap.objs.size s2.toks s.heap.objs.size aT (s1.heap.objs.size + 1) s1.heap.objs.size (s1.heap.objs.size + 3) 0 hs (fun _ => kh Y.p n_orders) ks (fun _ => s1.toks + 2) []) trivial fun A' s3 hA' I4 T4 mu4 _ _ => ?_
  have ts4 := ts_of' I3 T4
  have q : ∀ q ∈ treeL aT aN ab1 al1 ac1 ao ab2 al2 ac2 aCF acu afl L00 L01 L10 L11 E0 E1 rj tk, s3.heap.get? q.1 = some (tup q.2) := fun q hq => ts4 _ _ (C3.ts _ _ (TR q hq))
  have F3 := F.mono (h' := s3.heap) fun a l h => ts4 _ _ (C3.ts _ _ h)
  have I6 := Inv.pickH (H := H) [12,13,14,16,17,18,0,1,2,3,4,5,6,7,8,9,10,11,15] (by decide) (L := (treeL aT aN ab1 al1 ac1 ao ab2 al2 ac2 aCF acu afl L00 L01 L10 L11 E0 E1 rj tk).map tupE ++ [_,_,_,_,_,_,_]) (by rw [List.append_assoc]; exact Inv.addTs I4 (treeL aT aN ab1 al1 ac1 ao ab2 al2 ac2 aCF acu afl L00 L01 L10 L11 E0 E1 rj tk) q)
  have I7 : Inv Y.x s3 (ld_P0 Y.p (nf [s2.heap.objs.size + 2, s2.heap.objs.size + 1, s2.heap.objs.size, s2.toks, s1.heap.objs.size + 1, s2.toks + 1, aT, s2.toks + 2, s1.heap.objs.size, s1.toks + 2, s1.heap.objs.size + 3, aN, aCF, ab1, al2, al1, L00, ac1, ao, L10, L01, ab2, L11, E0, ac2, E1, acu, afl, rj]) tk ++ (⟨s.heap.objs.size, fq15 hs ks (.ref aT) (.ref (s1.heap.objs.size + 1)) 2, true⟩ :: H)) := I6
  have C7 : CK s3.heap [s2.heap.objs.size + 2, s2.heap.objs.size, s1.heap.objs.size + 1, s1.heap.objs.size, s1.heap.objs.size + 3] s3 (ld_P0 Y.p (nf [s2.heap.objs.size + 2, s2.heap.objs.size + 1, s2.heap.objs.size, s2.toks, s1.heap.objs.size + 1, s2.toks + 1, aT, s2.toks + 2, s1.heap.objs.size, s1.toks + 2, s1.heap.objs.size + 3, aN, aCF, ab1, al2, al1, L00, ac1, ao, L10, L01, ab2, L11, E0, ac2, E1, acu, afl, rj]) tk) := ⟨fun _ _ h _ => h, fun _ _ h => h, Nat.le_refl _, by unfold ld_P0 ldt; simp [nf, et, ef]⟩
  refine ch_P0 (f := (nf [s2.heap.objs.size + 2, s2.heap.objs.size + 1, s2.heap.objs.size, s2.toks, s1.heap.objs.size + 1, s2.toks + 1, aT, s2.toks + 2, s1.heap.objs.size, s1.toks + 2, s1.heap.objs.size + 3, aN, aCF, ab1, al2, al1, L00, ac1, ao, L10, L01, ab2, L11, E0, ac2, E1, acu, afl, rj])) (tk := tk) O (by omega) hA' F3 I7 C7 fun s4 os oe I8 G8 kp8 gr8 => ?_
  have I8 : Inv Y.x s4 (et (s1.heap.objs.size + 1) (inst 94 s1.heap.objs.size) :: et s1.heap.objs.size (fq13 Y.p (s1.toks + 2) (.ref (s1.heap.objs.size + 3)) 1) :: et (s1.heap.objs.size + 3) (lst os oe) :: _) := I8
  have G8 : OrdsAt rj s4.heap _ os := G8
  have T8 : Tr (pk [3, 1, 2, 0] _) s2 s4 := ⟨fun b o hb hn => kp8 b o (T4.keep b o hb hn) (fun hm => ?_), Nat.le_trans T4.size gr8⟩
  · have I9 := Inv.pickH [3,0,1,2] (L := [_,_,_,_]) (H := H) (by decide) I8
    refine go_back I9 [] (by simp) (cp_putr Y.p Y.b1 Y.b2 s2.heap.objs.size s2.toks s.heap.objs.size aT (s1.heap.objs.size + 1) s1.heap.objs.size (s1.heap.objs.size + 3) 0 hs (fun _ => kh Y.p n_orders) ks (fun _ => s1.toks + 2) os s4.heap.objs.size s4.toks oe) trivial fun s5 I10 T10 mu10 _ _ => ?_
    have ts10 := ts_of' I9 T10
    have T9 : Tr (pk [3, 1, 2, 0] _) s2 s5 := T8.trans T10 (by simp [pk])
    have C10 := C3.next' I3 T9 I10 (by intro e he hm; exact .inl (by revert e; simp [pk]))
    show wpOwn _ _ _ (execs _ _) _ _ _
    rcases F.lE1.fin F.kE1 with ⟨_, _, rfl, _⟩ | ⟨_, rfl, _⟩
    · exact cp_end_c (hs := hs) (ks := ks) (hc := fun _ => kh Y.p n_orders) (kc := fun _ => s1.toks + 2) O (by omega) hA F I10 C10 (G8.mono ts10) K rfl
    · exact cp_end_f (hs := hs) (ks := ks) (hc := fun _ => kh Y.p n_orders) (kc := fun _ => s1.toks + 2) O (by omega) hA F I10 C10 (G8.mono ts10) K rfl
  · simp only [List.mem_cons, List.not_mem_nil, or_false] at hm
    have hlt : b < s2.heap.objs.size := Heap.lt_size hb
    rcases hm with rfl | rfl | rfl | rfl | rfl
    · exact absurd hlt (Nat.not_lt.mpr (Nat.le_add_right _ _))
    · exact absurd hlt (Nat.lt_irrefl _)
    · exact hn _ (by simp [pk]; exact .inr (.inl rfl)) rfl rfl
    · exact hn _ (by simp [pk]; exact .inr (.inr (.inl rfl))) rfl rfl
    · exact hn _ (by simp [pk]; exact .inr (.inr (.inr rfl))) rfl rfl
end
end
section
open PySem PySem.W PySem.W.X PySem.Calls PySem.Spec PyProof.Rows
theorem sorted_perm : ∀ {l m : List Int}, l.Perm m → l.Pairwise (· ≤ ·) → m.Pairwise (· ≤ ·) → l = m
  | [], m, h, _, _ => h.nil_eq
  | a :: l, m, h, hl, hm => by
    cases m with
    | nil => exact absurd h.symm.nil_eq (by simp)
    | cons b m =>
      have h1 := List.pairwise_cons.mp hl
      have h2 := List.pairwise_cons.mp hm
      have hb : b ∈ a :: l := h.symm.subset (List.mem_cons_self ..)
      have ha : a ∈ b :: m := h.subset (List.mem_cons_self ..)
      have e : a = b := by
        rcases List.mem_cons.mp ha with e | ha
        · exact e
        · rcases List.mem_cons.mp hb with e | hb
          · exact e.symm
          · exact Int.le_antisymm (h1.1 b hb) (h2.1 a ha)
      subst e
      rw [sorted_perm (List.Perm.cons_inv h) h1.2 h2.2]
noncomputable def PDone (Y : Cy) (s0 : Shared) (H : List En) (R : Result → Shared → Prop) (due : List Nat) : Prop :=
  ∀ s' rl out re, Inv Y.x s' (et rl (lst out re) :: H) → IntsAre out (due.map Int.ofNat) → Ts s0.heap s'.heap → s0.heap.objs.size ≤ rl → R (.ok (.ret (.ref rl))) s'
section
variable {Y : Cy} {A : Around} {d u : Nat} {R : Result → Shared → Prop} {H : List En} {s s0 : Shared}
theorem places_end (O : Y.x.Ok) (hdd : d ≤ 400) (hA : AB d u A) {log : List Nat} (hlen : log.length ≤ 6) {Lp : Nat} {hs : Nat → Int} {ks : Nat → Nat} {nd vd : Nat} {sb : Str} {ts : Nat} {bt : Bool} {hi hd rf lg le tk : Nat} {hs' : Nat → Int} {ks' : Nat → Nat} {k : Int} {ls : List Value} {c : Code}
    (I : Inv Y.x s ([et Lp (fq10 hs ks (.ref nd) (.str sb ts) (.ref vd) (.bool bt) (.ref hi) .none 6), et hd (hostD hs' ks' vd rf lg k tk), et lg (lst ls le), ef hi (inst 589 hd)] ++ H))
    (hl : LogAt s.heap log ls) (hts : Ts s0.heap s.heap) (hgr : s0.heap.objs.size ≤ s.heap.objs.size) {due : List Nat} (hp : log.Perm due) (hsd : due.Pairwise (· ≤ ·)) (K : PDone Y s0 H R due) (hc : c = .func (bodyAt Y.p 654) (envAt Y.p 654 Lp)) :
    wpOwn Y.x.M A c (execs ((bodyAt Y.p 654).drop 3) (envAt Y.p 654 Lp)) (fun f s' => R (.ok (.ret (match f with | .ret v => v | _ => .none))) s') (fun _ _ => False) s := by
  subst hc
  have hI : (due.map Int.ofNat).Pairwise (· ≤ ·) := by
    rw [List.pairwise_map]
    exact hsd.imp fun h => Int.ofNat_le.mpr h
  have fin : ∀ (ns ns' : List Int), ns.Perm (log.map Int.ofNat) → ns'.Perm ns → ns'.Pairwise (· ≤ ·) → ns' = due.map Int.ofNat := fun ns ns' h1 h2 h3 =>
    sorted_perm (h2.trans (h1.trans (hp.map _))) h3 hI
  have hcase : ∀ l : List Nat, l.length ≤ 6 → l = [] ∨ (∃ a0, l = [a0]) ∨ (∃ a0 a1, l = [a0, a1]) ∨ (∃ a0 a1 a2, l = [a0, a1, a2]) ∨ (∃ a0 a1 a2 a3, l = [a0, a1, a2, a3]) ∨ (∃ a0 a1 a2 a3 a4, l = [a0, a1, a2, a3, a4]) ∨ (∃ a0 a1 a2 a3 a4 a5, l = [a0, a1, a2, a3, a4, a5]) := by
    intro l h
    match l with
    | [] => simp
    | [a0] => simp
    | [a0, a1] => simp
    | [a0, a1, a2] => simp
    | [a0, a1, a2, a3] => simp
    | [a0, a1, a2, a3, a4] => simp
    | [a0, a1, a2, a3, a4, a5] => simp
    | _ :: _ :: _ :: _ :: _ :: _ :: _ :: _ => simp at h
  rcases hcase log hlen with rfl | ⟨a0, rfl⟩ | ⟨a0, a1, rfl⟩ | ⟨a0, a1, a2, rfl⟩ | ⟨a0, a1, a2, a3, rfl⟩ | ⟨a0, a1, a2, a3, a4, rfl⟩ | ⟨a0, a1, a2, a3, a4, a5, rfl⟩
  · obtain rfl : ls = [] := hl
    refine own_last (go_stop O (by omega) hA I [] (by simp) (pl_sort0 Y.p Y.b1 Y.b2 s.heap.objs.size s.toks Lp hs ks nd vd sb ts bt hi hd rf lg le tk hs' ks' k  ) trivial fun A' s1 hA' I1 T1 mu1 _ _ => ?_)
    refine go_sorted I1 (I1.ix 0 rfl) (ns := []) (.nil) (by simp) fun s2 rl out re ns' I2 T2 hrl hio hpm hst => ?_
    refine go_back (L := []) I2 [] (by simp) (pl_ret0 Y.p Y.b1 Y.b2 s.heap.objs.size s.toks Lp hs ks nd vd sb ts bt hi hd rf lg le tk hs' ks' k   s2.heap.objs.size s2.toks rl (fun _ => 0) (fun _ => 0)) trivial fun s3 I3 T3 _ _ _ => ?_
    refine K s3 rl out re (I3.sub (List.Sublist.cons_cons _ (List.sublist_append_right [_, _, _, _, _] H))) ?_ (fun a l h => ?_) (Nat.le_trans hgr (Nat.le_trans T1.size hrl))
    · rw [← fin [] ns' (List.reverse_perm []) hpm hst]
      exact hio
    · have h2 := ts_of' I T1 _ _ (hts _ _ h)
      exact T3.keep _ _ (T2.keep _ _ h2 (by simp)) (by simp)
  · obtain ⟨_, e0, u0, w0, rfl, g0, rfl⟩ := hl
    refine own_last (go_stop O (by omega) hA I [(e0, [sv [74] u0, .int (a0 : Nat) w0])] (by simp [g0]) (pl_sort1 Y.p Y.b1 Y.b2 s.heap.objs.size s.toks Lp hs ks nd vd sb ts bt hi hd rf lg le tk hs' ks' k e0 u0 w0 ((a0 : Nat) : Int)) trivial fun A' s1 hA' I1 T1 mu1 _ _ => ?_)
    refine go_sorted I1 (I1.ix 0 rfl) (ns := [((a0 : Nat) : Int)]) (.cons _ _ .nil) (by simp) fun s2 rl out re ns' I2 T2 hrl hio hpm hst => ?_
    refine go_back (L := []) I2 [] (by simp) (pl_ret1 Y.p Y.b1 Y.b2 s.heap.objs.size s.toks Lp hs ks nd vd sb ts bt hi hd rf lg le tk hs' ks' k e0 u0 w0 ((a0 : Nat) : Int) s2.heap.objs.size s2.toks rl (fun _ => 0) (fun _ => 0)) trivial fun s3 I3 T3 _ _ _ => ?_
    refine K s3 rl out re (I3.sub (List.Sublist.cons_cons _ (List.sublist_append_right [_, _, _, _, _] H))) ?_ (fun a l h => ?_) (Nat.le_trans hgr (Nat.le_trans T1.size hrl))
    · rw [← fin [((a0 : Nat) : Int)] ns' (List.reverse_perm [((a0 : Nat) : Int)]) hpm hst]
      exact hio
    · have h2 := ts_of' I T1 _ _ (hts _ _ h)
      exact T3.keep _ _ (T2.keep _ _ h2 (by simp)) (by simp)
  · obtain ⟨_, e0, u0, w0, rfl, g0, ⟨_, e1, u1, w1, rfl, g1, rfl⟩⟩ := hl
    refine own_last (go_stop O (by omega) hA I [(e1, [sv [74] u1, .int (a1 : Nat) w1]), (e0, [sv [74] u0, .int (a0 : Nat) w0])] (by simp [g1, g0]) (pl_sort2 Y.p Y.b1 Y.b2 s.heap.objs.size s.toks Lp hs ks nd vd sb ts bt hi hd rf lg le tk hs' ks' k e1 u1 w1 e0 u0 w0 ((a1 : Nat) : Int) ((a0 : Nat) : Int)) trivial fun A' s1 hA' I1 T1 mu1 _ _ => ?_)
    refine go_sorted I1 (I1.ix 0 rfl) (ns := [((a1 : Nat) : Int), ((a0 : Nat) : Int)]) (.cons _ _ (.cons _ _ .nil)) (by simp) fun s2 rl out re ns' I2 T2 hrl hio hpm hst => ?_
    refine go_back (L := []) I2 [] (by simp) (pl_ret2 Y.p Y.b1 Y.b2 s.heap.objs.size s.toks Lp hs ks nd vd sb ts bt hi hd rf lg le tk hs' ks' k e1 u1 w1 e0 u0 w0 ((a1 : Nat) : Int) ((a0 : Nat) : Int) s2.heap.objs.size s2.toks rl (fun _ => 0) (fun _ => 0)) trivial fun s3 I3 T3 _ _ _ => ?_
    refine K s3 rl out re (I3.sub (List.Sublist.cons_cons _ (List.sublist_append_right [_, _, _, _, _] H))) ?_ (fun a l h => ?_) (Nat.le_trans hgr (Nat.le_trans T1.size hrl))
    · rw [← fin [((a1 : Nat) : Int), ((a0 : Nat) : Int)] ns' (List.reverse_perm [((a0 : Nat) : Int), ((a1 : Nat) : Int)]) hpm hst]
      exact hio
    · have h2 := ts_of' I T1 _ _ (hts _ _ h)
      exact T3.keep _ _ (T2.keep _ _ h2 (by simp)) (by simp)
  · obtain ⟨_, e0, u0, w0, rfl, g0, ⟨_, e1, u1, w1, rfl, g1, ⟨_, e2, u2, w2, rfl, g2, rfl⟩⟩⟩ := hl
    refine own_last (go_stop O (by omega) hA I [(e2, [sv [74] u2, .int (a2 : Nat) w2]), (e1, [sv [74] u1, .int (a1 : Nat) w1]), (e0, [sv [74] u0, .int (a0 : Nat) w0])] (by simp [g2, g1, g0]) (pl_sort3 Y.p Y.b1 Y.b2 s.heap.objs.size s.toks Lp hs ks nd vd sb ts bt hi hd rf lg le tk hs' ks' k e2 u2 w2 e1 u1 w1 e0 u0 w0 ((a2 : Nat) : Int) ((a1 : Nat) : Int) ((a0 : Nat) : Int)) trivial fun A' s1 hA' I1 T1 mu1 _ _ => ?_)
    refine go_sorted I1 (I1.ix 0 rfl) (ns := [((a2 : Nat) : Int), ((a1 : Nat) : Int), ((a0 : Nat) : Int)]) (.cons _ _ (.cons _ _ (.cons _ _ .nil))) (by simp) fun s2 rl out re ns' I2 T2 hrl hio hpm hst => ?_
    refine go_back (L := []) I2 [] (by simp) (pl_ret3 Y.p Y.b1 Y.b2 s.heap.objs.size s.toks Lp hs ks nd vd sb ts bt hi hd rf lg le tk hs' ks' k e2 u2 w2 e1 u1 w1 e0 u0 w0 ((a2 : Nat) : Int) ((a1 : Nat) : Int) ((a0 : Nat) : Int) s2.heap.objs.size s2.toks rl (fun _ => 0) (fun _ => 0)) trivial fun s3 I3 T3 _ _ _ => ?_
    refine K s3 rl out re (I3.sub (List.Sublist.cons_cons _ (List.sublist_append_right [_, _, _, _, _] H))) ?_ (fun a l h => ?_) (Nat.le_trans hgr (Nat.le_trans T1.size hrl))
    · rw [← fin [((a2 : Nat) : Int), ((a1 : Nat) : Int), ((a0 : Nat) : Int)] ns' (List.reverse_perm [((a0 : Nat) : Int), ((a1 : Nat) : Int), ((a2 : Nat) : Int)]) hpm hst]
      exact hio
    · have h2 := ts_of' I T1 _ _ (hts _ _ h)
      exact T3.keep _ _ (T2.keep _ _ h2 (by simp)) (by simp)
  · obtain ⟨_, e0, u0, w0, rfl, g0, ⟨_, e1, u1, w1, rfl, g1, ⟨_, e2, u2, w2, rfl, g2, ⟨_, e3, u3, w3, rfl, g3, rfl⟩⟩⟩⟩ := hl
    refine own_last (go_stop O (by omega) hA I [(e3, [sv [74] u3, .int (a3 : Nat) w3]), (e2, [sv [74] u2, .int (a2 : Nat) w2]), (e1, [sv [74] u1, .int (a1 : Nat) w1]), (e0, [sv [74] u0, .int (a0 : Nat) w0])] (by simp [g3, g2, g1, g0]) (pl_sort4 Y.p Y.b1 Y.b2 s.heap.objs.size s.toks Lp hs ks nd vd sb ts bt hi hd rf lg le tk hs' ks' k e3 u3 w3 e2 u2 w2 e1 u1 w1 e0 u0 w0 ((a3 : Nat) : Int) ((a2 : Nat) : Int) ((a1 : Nat) : Int) ((a0 : Nat) : Int)) trivial fun A' s1 hA' I1 T1 mu1 _ _ => ?_)
    refine go_sorted I1 (I1.ix 0 rfl) (ns := [((a3 : Nat) : Int), ((a2 : Nat) : Int), ((a1 : Nat) : Int), ((a0 : Nat) : Int)]) (.cons _ _ (.cons _ _ (.cons _ _ (.cons _ _ .nil)))) (by simp) fun s2 rl out re ns' I2 T2 hrl hio hpm hst => ?_
    refine go_back (L := []) I2 [] (by simp) (pl_ret4 Y.p Y.b1 Y.b2 s.heap.objs.size s.toks Lp hs ks nd vd sb ts bt hi hd rf lg le tk hs' ks' k e3 u3 w3 e2 u2 w2 e1 u1 w1 e0 u0 w0 ((a3 : Nat) : Int) ((a2 : Nat) : Int) ((a1 : Nat) : Int) ((a0 : Nat) : Int) s2.heap.objs.size s2.toks rl (fun _ => 0) (fun _ => 0)) trivial fun s3 I3 T3 _ _ _ => ?_
    refine K s3 rl out re (I3.sub (List.Sublist.cons_cons _ (List.sublist_append_right [_, _, _, _, _] H))) ?_ (fun a l h => ?_) (Nat.le_trans hgr (Nat.le_trans T1.size hrl))
    · rw [← fin [((a3 : Nat) : Int), ((a2 : Nat) : Int), ((a1 : Nat) : Int), ((a0 : Nat) : Int)] ns' (List.reverse_perm [((a0 : Nat) : Int), ((a1 : Nat) : Int), ((a2 : Nat) : Int), ((a3 : Nat) : Int)]) hpm hst]
      exact hio
    · have h2 := ts_of' I T1 _ _ (hts _ _ h)
      exact T3.keep _ _ (T2.keep _ _ h2 (by simp)) (by simp)
  · obtain ⟨_, e0, u0, w0, rfl, g0, ⟨_, e1, u1, w1, rfl, g1, ⟨_, e2, u2, w2, rfl, g2, ⟨_, e3, u3, w3, rfl, g3, ⟨_, e4, u4, w4, rfl, g4, rfl⟩⟩⟩⟩⟩ := hl
    refine own_last (go_stop O (by omega) hA I [(e4, [sv [74] u4, .int (a4 : Nat) w4]), (e3, [sv [74] u3, .int (a3 : Nat) w3]), (e2, [sv [74] u2, .int (a2 : Nat) w2]), (e1, [sv [74] u1, .int (a1 : Nat) w1]), (e0, [sv [74] u0, .int (a0 : Nat) w0])] (by simp [g4, g3, g2, g1, g0]) (pl_sort5 Y.p Y.b1 Y.b2 s.heap.objs.size s.toks Lp hs ks nd vd sb ts bt hi hd rf lg le tk hs' ks' k e4 u4 w4 e3 u3 w3 e2 u2 w2 e1 u1 w1 e0 u0 w0 ((a4 : Nat) : Int) ((a3 : Nat) : Int) ((a2 : Nat) : Int) ((a1 : Nat) : Int) ((a0 : Nat) : Int)) trivial fun A' s1 hA' I1 T1 mu1 _ _ => ?_)
    refine go_sorted I1 (I1.ix 0 rfl) (ns := [((a4 : Nat) : Int), ((a3 : Nat) : Int), ((a2 : Nat) : Int), ((a1 : Nat) : Int), ((a0 : Nat) : Int)]) (.cons _ _ (.cons _ _ (.cons _ _ (.cons _ _ (.cons _ _ .nil))))) (by simp) fun s2 rl out re ns' I2 T2 hrl hio hpm hst => ?_
    refine go_back (L := []) I2 [] (by simp) (pl_ret5 Y.p Y.b1 Y.b2 s.heap.objs.size s.toks Lp hs ks nd vd sb ts bt hi hd rf lg le tk hs' ks' k e4 u4 w4 e3 u3 w3 e2 u2 w2 e1 u1 w1 e0 u0 w0 ((a4 : Nat) : Int) ((a3 : Nat) : Int) ((a2 : Nat) : Int) ((a1 : Nat) : Int) ((a0 : Nat) : Int) s2.heap.objs.size s2.toks rl (fun _ => 0) (fun _ => 0)) trivial fun s3 I3 T3 _ _ _ => ?_
    refine K s3 rl out re (I3.sub (List.Sublist.cons_cons _ (List.sublist_append_right [_, _, _, _, _] H))) ?_ (fun a l h => ?_) (Nat.le_trans hgr (Nat.le_trans T1.size hrl))
    · rw [← fin [((a4 : Nat) : Int), ((a3 : Nat) : Int), ((a2 : Nat) : Int), ((a1 : Nat) : Int), ((a0 : Nat) : Int)] ns' (List.reverse_perm [((a0 : Nat) : Int), ((a1 : Nat) : Int), ((a2 : Nat) : Int), ((a3 : Nat) : Int), ((a4 : Nat) : Int)]) hpm hst]
      exact hio
    · have h2 := ts_of' I T1 _ _ (hts _ _ h)
      exact T3.keep _ _ (T2.keep _ _ h2 (by simp)) (by simp)
  · obtain ⟨_, e0, u0, w0, rfl, g0, ⟨_, e1, u1, w1, rfl, g1, ⟨_, e2, u2, w2, rfl, g2, ⟨_, e3, u3, w3, rfl, g3, ⟨_, e4, u4, w4, rfl, g4, ⟨_, e5, u5, w5, rfl, g5, rfl⟩⟩⟩⟩⟩⟩ := hl
    refine own_last (go_stop O (by omega) hA I [(e5, [sv [74] u5, .int (a5 : Nat) w5]), (e4, [sv [74] u4, .int (a4 : Nat) w4]), (e3, [sv [74] u3, .int (a3 : Nat) w3]), (e2, [sv [74] u2, .int (a2 : Nat) w2]), (e1, [sv [74] u1, .int (a1 : Nat) w1]), (e0, [sv [74] u0, .int (a0 : Nat) w0])] (by simp [g5, g4, g3, g2, g1, g0]) (pl_sort6 Y.p Y.b1 Y.b2 s.heap.objs.size s.toks Lp hs ks nd vd sb ts bt hi hd rf lg le tk hs' ks' k e5 u5 w5 e4 u4 w4 e3 u3 w3 e2 u2 w2 e1 u1 w1 e0 u0 w0 ((a5 : Nat) : Int) ((a4 : Nat) : Int) ((a3 : Nat) : Int) ((a2 : Nat) : Int) ((a1 : Nat) : Int) ((a0 : Nat) : Int)) trivial fun A' s1 hA' I1 T1 mu1 _ _ => ?_)
    refine go_sorted I1 (I1.ix 0 rfl) (ns := [((a5 : Nat) : Int), ((a4 : Nat) : Int), ((a3 : Nat) : Int), ((a2 : Nat) : Int), ((a1 : Nat) : Int), ((a0 : Nat) : Int)]) (.cons _ _ (.cons _ _ (.cons _ _ (.cons _ _ (.cons _ _ (.cons _ _ .nil)))))) (by simp) fun s2 rl out re ns' I2 T2 hrl hio hpm hst => ?_
    refine go_back (L := []) I2 [] (by simp) (pl_ret6 Y.p Y.b1 Y.b2 s.heap.objs.size s.toks Lp hs ks nd vd sb ts bt hi hd rf lg le tk hs' ks' k e5 u5 w5 e4 u4 w4 e3 u3 w3 e2 u2 w2 e1 u1 w1 e0 u0 w0 ((a5 : Nat) : Int) ((a4 : Nat) : Int) ((a3 : Nat) : Int) ((a2 : Nat) : Int) ((a1 : Nat) : Int) ((a0 : Nat) : Int) s2.heap.objs.size s2.toks rl (fun _ => 0) (fun _ => 0)) trivial fun s3 I3 T3 _ _ _ => ?_
    refine K s3 rl out re (I3.sub (List.Sublist.cons_cons _ (List.sublist_append_right [_, _, _, _, _] H))) ?_ (fun a l h => ?_) (Nat.le_trans hgr (Nat.le_trans T1.size hrl))
    · rw [← fin [((a5 : Nat) : Int), ((a4 : Nat) : Int), ((a3 : Nat) : Int), ((a2 : Nat) : Int), ((a1 : Nat) : Int), ((a0 : Nat) : Int)] ns' (List.reverse_perm [((a0 : Nat) : Int), ((a1 : Nat) : Int), ((a2 : Nat) : Int), ((a3 : Nat) : Int), ((a4 : Nat) : Int), ((a5 : Nat) : Int)]) hpm hst]
      exact hio
    · have h2 := ts_of' I T1 _ _ (hts _ _ h)
      exact T3.keep _ _ (T2.keep _ _ h2 (by simp)) (by simp)
end
end
section
open PySem PySem.W PySem.W.X PySem.Calls PySem.Spec PyProof.Rows
section
variable {Y : Cy} {A : Around} {d u : Nat} {R : Result → Shared → Prop} {H : List En} {s : Shared}
theorem body654 (P : Params) : bodyAt P 654 = (bodyAt P 654).take 2 ++ ([stAt (bodyAt P 654) 2] ++ (bodyAt P 654).drop 3) := by kernel_rfl
theorem places_trial (O : Y.x.Ok) (hdd : d ≤ 350) (hu : u ≤ 8000) (hw : Y.w.params = PP Y.p Y.b1 Y.b2) (hA : AB d u A) (c : Cf) (w : List Nat) (hz : w.length ≤ 5) (hch : ∀ x ∈ w, x = 97 ∨ x = 98)
    {wt ak vd pP dP pQ dQ nP nQ kP kQ kpP kpQ ve : Nat} {hpP hpQ : Nat → Int}
    (I : Inv Y.x s ([et vd (fq2 Y.p kP (.ref pP) kQ (.ref pQ) ve), et pP (inst 166 dP), ⟨dP, patD hpP kpP nP, true⟩, et pQ (inst 166 dQ), ⟨dQ, patD hpQ kpQ nQ, true⟩] ++ H))
    (ha : ∃ t1 v t2 t3, s.heap.get? ak = some (tup [sv n_delay t1, .ref v]) ∧ s.heap.get? v = some (tup [sv n_name t2, sv [80] t3]))
    (hP : ∀ F : TF, NdAt F s.heap (c.body false) nP) (hQ : ∀ F : TF, NdAt F s.heap (c.body true) nQ)
    (K : PDone Y s H R (c.due w 0 false)) : codeAny Y.x.M A (.call (.ref 654) ⟨[.ref ak, .str ⟨⟨w⟩⟩ wt, .ref vd, .bool true], []⟩) R s := by
  obtain ⟨res, hrun, hperm⟩ := okT_use (all_ok c w hz hch).1
  refine go_def O (by omega) hA (L := []) I (fn654 Y.p) rfl (pl_call Y.p Y.b1 Y.b2 s.heap.objs.size s.toks ak vd ⟨⟨w⟩⟩ wt true) trivial fun s1 I1 T1 mu1 hn1 _ => go_func ?_
  have ts1 : Ts s.heap s1.heap := ts_of' (L := []) (H := _) I T1
  rw [body654]
  refine own_step ?_
  rw [← body654]
  let hsA : Nat → Int := fun i => [kh Y.p n_node, kh Y.p n_word, kh Y.p n_values, kh Y.p n_by_trial, kh Y.p n_host, kh Y.p n_found].getD i 0
  refine go_ret O (by omega) hA I1 [] (by simp) (pl_start Y.p Y.b1 Y.b2 s1.heap.objs.size s1.toks s.heap.objs.size hsA (fun i => [s.toks, s.toks + 1, s.toks + 2, s.toks + 3].getD i 0) ak vd ⟨⟨w⟩⟩ wt true) trivial fun s2 I2 T2 mu2 hn2 _ => ?_
  have ts2 : Ts s1.heap s2.heap := ts_of' I1 T2
  show wpOwn _ _ _ _ _ _ _
  refine own_step ?_
  have I3 := I2.pickH [10, 0, 1, 2, 3, 4, 5, 6, 7, 8, 9] (by decide)
  let ksB : Nat → Nat := fun i => [s.toks, s.toks + 1, s.toks + 2, s.toks + 3, s1.toks + 19].getD i 0
  refine go_stop O (by omega) hA (L := [_]) (H := [_, _, _, _, _, _, _, _, _, _] ++ ([_, _, _, _, _] ++ H)) I3 [] (by simp) (pl_find Y.p Y.b1 Y.b2 s2.heap.objs.size s2.toks s.heap.objs.size hsA ksB (s1.heap.objs.size + 11) vd ⟨⟨w⟩⟩ wt true (s1.heap.objs.size + 2)) trivial fun A' s4 hA' I4 T4 mu4 hn4 _ => ?_
  have ts4 : Ts s2.heap s4.heap := ts_of' (L := [_]) I3 T4
  have ts14 : Ts s1.heap s4.heap := fun a l h => ts4 _ _ (ts2 _ _ h)
  have ts04 : Ts s.heap s4.heap := fun a l h => ts14 _ _ (ts1 _ _ h)
  have I5 := Inv.pickH (L := [_, _, _, _, _, _, _, _, _, _, _, _, _, _, _, _, _, _, _, _, _, _, _, _]) (H := H) [4, 17, 19, 15, 0, 16, 18, 20, 21, 22, 23, 13, 14, 5, 6, 7, 8] (by decide) I4
  have I6 := I5.froze [false, false, false, false, false, true, true, true, true, true, true, true, true]
  let F : TF :=
    { Lt := s2.heap.objs.size + 4, pl := s2.heap.objs.size + 8, hi := s1.heap.objs.size + 2, hd := s1.heap.objs.size + 1, vd := vd, rf := s1.heap.objs.size, lg := s1.heap.objs.size + 4, n0 := s1.heap.objs.size + 11, nm := s2.heap.objs.size + 6, ts := wt, tb := s2.toks + 7, bg := 0, hs' := fun i => [kh Y.p n_values, kh Y.p n_limit, kh Y.p n_refused, kh Y.p n_width, kh Y.p n_steps, kh Y.p n_log].getD i 0, ks' := fun i => [s1.toks + 6, s1.toks + 8, s1.toks + 10, s1.toks + 13, s1.toks + 16, s1.toks + 18, s1.toks, s1.toks + 11].getD i 0, sb := w, kP := kP, kQ := kQ, pP := pP, pQ := pQ, dP := dP, dQ := dQ, nP := nP, nQ := nQ, kpP := kpP, kpQ := kpQ, hpP := hpP, hpQ := hpQ, re := 0, rj := s1.heap.objs.size + 6, dj := s1.heap.objs.size + 5, hj := fun i => [kh Y.p n_kind, kh Y.p n_owner, kh Y.p n_key].getD i 0, kj := fun i => [s1.toks + 30, s1.toks + 23, s1.toks + 32, s1.toks + 34, s1.toks + 24].getD i 0, h0 := s4.heap, body := c.body }
  let hsT : Nat → Int := fun i => [kh Y.p n_node, kh Y.p n_subject, kh Y.p n_begin, kh Y.p n_host, kh Y.p n_pile].getD i 0
  let ksT : Nat → Nat := fun i => [s2.toks + 13, s2.toks + 14, s2.toks + 15, s2.toks + 16, s2.toks + 17].getD i 0
  have I7 : Inv Y.x s4 (F.TL (F.f5 hsT ksT) (fq2 Y.p kP (.ref pP) kQ (.ref pQ) ve) [] 0 [.ref (s2.heap.objs.size + 7)] 0 ((0 : Nat) : Int) (s1.toks + 14) ++ ([_, _, _, _] ++ H)) := I6
  obtain ⟨t1, v, t2, t3, ea, ev⟩ := ha
  have TT : TB Y F (F.f5 hsT ksT) [([.cat (.delay false) (.cat .cursor .fail)], 0)] 0 [] s4 _ [] 0 [.ref (s2.heap.objs.size + 7)] 0 (s1.toks + 14) :=
    ⟨I7.sub (List.sublist_append_left _ _), ⟨[], _, s2.heap.objs.size + 5, s2.toks + 7, rfl, I4.ix 1 rfl, ⟨s2.heap.objs.size + 5, s1.heap.objs.size + 11, .none, rfl, I4.ix 3 rfl, ⟨_, _, _, I4.ix 9 rfl, ⟨t1, v, t2, t3, ts04 _ _ ea, ts04 _ _ ev⟩, ⟨_, _, _, I4.ix 10 rfl, ⟨_, I4.ix 12 rfl⟩, ⟨_, I4.ix 11 rfl⟩⟩⟩, rfl⟩, rfl⟩, rfl, .inl ⟨_, rfl⟩, (hP F).mono ts04, (hQ F).mono ts04, fun _ _ h _ => h, Nat.le_refl _, by decide, by decide⟩
  refine outer5 (F := F) O (by omega) (by omega) hw (by show w.length ≤ 10000; omega) hA' (fun s5 h5 => ?_) hrun (by decide) TT
  obtain ⟨hs5, ks5, c5, at5, ta5, vo5, ls5, le5, vs5, pe5, tk5, T5⟩ := h5
  have Tr5 : Tr (F.TL (F.f5 hsT ksT) (fq2 Y.p kP (.ref pP) kQ (.ref pQ) ve) [] 0 [.ref (s2.heap.objs.size + 7)] 0 ((0 : Nat) : Int) (s1.toks + 14)) s4 s5 := by
    refine ⟨fun b o hb hn => T5.kp b o hb fun hm => ?_, T5.grow⟩
    simp only [List.mem_cons, List.not_mem_nil, or_false] at hm
    unfold TF.TL at hn
    rcases hm with rfl | rfl | rfl | rfl | rfl
    · exact hn _ (.head _) rfl rfl
    · exact hn _ (.tail _ (.head _)) rfl rfl
    · exact hn _ (.tail _ (.tail _ (.head _))) rfl rfl
    · exact hn _ (.tail _ (.tail _ (.tail _ (.head _)))) rfl rfl
    · exact hn _ (.tail _ (.tail _ (.tail _ (.tail _ (.head _))))) rfl rfl
  have I8 := Inv.join I7 Tr5 T5.inv (by unfold TF.TL TF.fix; simp)
  have ts5 : Ts s4.heap s5.heap := ts_of' I7 Tr5
  have I9 := Inv.pickH (L := [_, _, _, _, _, _, _, _, _, _, _, _, _, _, _, _, _]) (H := H) [0, 13, 14, 15, 16, 1, 3, 5] (by decide) I8
  refine go_back (L := [_, _, _, _, _]) (H := [_, _, _] ++ H) I9 [] (by simp) (pl_found Y.p Y.b1 Y.b2 s2.heap.objs.size s2.toks s.heap.objs.size hsA ksB (s1.heap.objs.size + 11) vd ⟨⟨w⟩⟩ wt true (s1.heap.objs.size + 2) s5.heap.objs.size s5.toks hs5 ks5 c5 ta5 at5) trivial fun s6 I10 T6 mu6 hn6 _ => ?_
  have ts6 : Ts s5.heap s6.heap := ts_of' (L := [_, _, _, _, _]) (H := [_, _, _] ++ H) I9 T6
  show wpOwn _ _ _ _ _ _ _
  have I11 := Inv.pickH (L := [_, _, _, _, _, _, _, _]) (H := H) [4, 5, 6, 7] (by decide) I10
  refine places_end (hs := hsA) (ks := fun i => [s.toks, s.toks + 1, s.toks + 2, s.toks + 3, s1.toks + 19, s5.toks + 2].getD i 0) O (by omega) hA (log := res.2) ?_ I11 (T5.hlog.mono ts6) (fun a l h => ts6 _ _ (ts5 _ _ (ts04 _ _ h))) ?_ hperm (due_sorted c w 0 false) K rfl
  · rw [hperm.length_eq]
    have := due_len c w 0 false
    omega
  · exact Nat.le_trans T1.size (Nat.le_trans T2.size (Nat.le_trans T4.size (Nat.le_trans T5.grow T6.size)))
end
end
section
open PySem PySem.W PySem.W.X PySem.Calls PySem.Spec PyProof.Rows
noncomputable def cut (h : Heap) (n : Nat) : Heap := ⟨h.objs.extract 0 n, h.life⟩
theorem cut_get {h : Heap} {n b : Nat} (hb : b < n) : (cut h n).get? b = h.get? b := by
  unfold cut Heap.get?
  have : (h.objs.extract 0 n)[b]? = h.objs[b]? := by
    rw [Array.getElem?_extract]
    by_cases q : b < h.objs.size
    · rw [if_pos (by omega)]; simp
    · rw [if_neg (by omega)]; simp; omega
  rw [this]
theorem cut_size {h : Heap} {n : Nat} (hn : n ≤ h.objs.size) : (cut h n).objs.size = n := by
  unfold cut
  simp
  omega
theorem cut_some {h : Heap} {n b : Nat} {o : Obj} (hn : n ≤ h.objs.size) (e : (cut h n).get? b = some o) : b < n ∧ h.get? b = some o := by
  have hb : b < n := by have := Heap.lt_size e; rw [cut_size hn] at this; exact this
  exact ⟨hb, by rw [← e, cut_get hb]⟩
theorem Inv.join' {X : Cx} {s s' : Shared} {L L' H : List En} (I : Inv X s (L ++ H)) (I' : Inv X s' L') (gH : ∀ y ∈ H, s'.heap.get? y.a = some y.o)
    (ha : ∀ e ∈ L', (∃ x ∈ L, x.m = e.m ∧ x.a = e.a) ∨ s.heap.objs.size ≤ e.a) : Inv X s' (L' ++ H) := by
  have hL := List.pairwise_append.mp I.ap
  refine ⟨I'.good, fun e he => ?_, List.pairwise_append.mpr ⟨I'.ap, hL.2.1, fun x hx y hy hm => ?_⟩, fun e he hm => ?_, fun e he hm => ?_⟩
  · rcases List.mem_append.mp he with he | he
    · exact I'.get e he
    · exact gH e he
  · rcases ha x hx with ⟨z, hz, h1, h2⟩ | h
    · rw [← h2]
      exact hL.2.2 z hz y hy (by rw [h1]; exact hm)
    · have hlt : y.a < s.heap.objs.size := Heap.lt_size (I.get y (List.mem_append_right _ hy))
      exact fun e => absurd (Nat.lt_of_lt_of_le hlt h) (by rw [e]; exact Nat.lt_irrefl _)
  · rcases List.mem_append.mp he with he | he
    · exact I'.low e he hm
    · exact I.low e (List.mem_append_right _ he) hm
  · rcases List.mem_append.mp he with he | he
    · exact I'.nt e he hm
    · exact I.nt e (List.mem_append_right _ he) hm
theorem ords_eq (c : Cf) : rawO (lotO c.g00 c.g01 false) (lotO c.g00 c.g01 true) (lotO c.g10 c.g11 false) (lotO c.g10 c.g11 true) (endO c.e0) (endO c.e1) ++ [.done] = c.ords := by
  obtain ⟨g00, g01, g10, g11, e0, e1⟩ := c
  cases e1 <;> rfl
section
variable {Y : Cy} {A : Around} {d u : Nat} {R : Result → Shared → Prop} {H : List En} {s : Shared}
theorem places_machine (O : Y.x.Ok) (hdd : d ≤ 350) (hw : Y.w.params = PP Y.p Y.b1 Y.b2) (hA : AB d u A) (c : Cf) (w : List Nat) (hz : w.length ≤ 5) (hch : ∀ x ∈ w, x = 97 ∨ x = 98)
    {wt vd ve aN ab1 al1 ac1 ao ab2 al2 ac2 L00 L01 L10 L11 E0 E1 : Nat} {tk' : Nat → Nat}
    (I : Inv Y.x s ([⟨vd, mvd0 ve, true⟩] ++ H))
    (TR : ∀ q ∈ [((aN : Addr), [sv n_cat (tk' 1), .ref ab1, .ref al2]), (ab1, [sv n_arbno (tk' 2), .ref al1]), (al1, [sv n_alt (tk' 3), .ref L00, .ref ac1]), (ac1, [sv n_cat (tk' 4), .ref ao, .ref L10]), (ao, [sv n_cat (tk' 5), .ref L01, .ref ab2]), (ab2, [sv n_arbno (tk' 6), .ref L11]), (al2, [sv n_alt (tk' 7), .ref E0, .ref ac2]), (ac2, [sv n_cat (tk' 8), .ref ao, .ref E1])], s.heap.get? q.1 = some (tup q.2))
    (CL : CLf s.heap (lotO c.g00 c.g01 false) (lotO c.g00 c.g01 true) (lotO c.g10 c.g11 false) (lotO c.g10 c.g11 true) (endO c.e0) (endO c.e1) L00 L01 L10 L11 E0 E1)
    (K : PDone Y s H R (c.due w 0 false)) : codeAny Y.x.M A (.call (.ref 654) ⟨[.ref aN, .str ⟨⟨w⟩⟩ wt, .ref vd, .bool false], []⟩) R s := by
  obtain ⟨res, hrun, hperm⟩ := okM_use (all_ok c w hz hch).2
  refine go_def O (by omega) hA (L := []) I (fn654 Y.p) rfl (pl_call Y.p Y.b1 Y.b2 s.heap.objs.size s.toks aN vd ⟨⟨w⟩⟩ wt false) trivial fun s1 I1 T1 mu1 hn1 _ => go_func ?_
  have ts1 : Ts s.heap s1.heap := ts_of' (L := []) (H := _) I T1
  rw [body654]
  refine own_step ?_
  rw [← body654]
  let hsA : Nat → Int := fun i => [kh Y.p n_node, kh Y.p n_word, kh Y.p n_values, kh Y.p n_by_trial, kh Y.p n_host, kh Y.p n_found].getD i 0
  refine go_ret O (by omega) hA I1 [] (by simp) (pl_start Y.p Y.b1 Y.b2 s1.heap.objs.size s1.toks s.heap.objs.size hsA (fun i => [s.toks, s.toks + 1, s.toks + 2, s.toks + 3].getD i 0) aN vd ⟨⟨w⟩⟩ wt false) trivial fun s2 I2 T2 mu2 hn2 _ => ?_
  have ts2 : Ts s1.heap s2.heap := ts_of' I1 T2
  show wpOwn _ _ _ _ _ _ _
  refine own_step ?_
  have I3 := I2.pickH [10, 0, 1, 2, 3, 4, 5, 6, 7, 8, 9] (by decide)
  let ksB : Nat → Nat := fun i => [s.toks, s.toks + 1, s.toks + 2, s.toks + 3, s1.toks + 19].getD i 0
  refine go_stop O (by omega) hA (L := [_]) (H := [_, _, _, _, _, _, _, _, _, _] ++ ([_] ++ H)) I3 [] (by simp) (pf_comp Y.p Y.b1 Y.b2 s2.heap.objs.size s2.toks s.heap.objs.size hsA ksB (s1.heap.objs.size + 11) vd ⟨⟨w⟩⟩ wt false (s1.heap.objs.size + 2)) trivial fun A' s4 hA' I4 T4 mu4 hn4 _ => ?_
  have ts4 : Ts s2.heap s4.heap := ts_of' (L := [_]) I3 T4
  have ts14 : Ts s1.heap s4.heap := fun a l h => ts4 _ _ (ts2 _ _ h)
  have ts04 : Ts s.heap s4.heap := fun a l h => ts14 _ _ (ts1 _ _ h)
  let tk : Nat → Nat := fun i => [s1.toks + 20, tk' 1, tk' 2, tk' 3, tk' 4, tk' 5, tk' 6, tk' 7, tk' 8, s1.toks + 21, s1.toks + 22, s1.toks + 35].getD i 0
  have TR4 : ∀ q ∈ treeL (s1.heap.objs.size + 11) aN ab1 al1 ac1 ao ab2 al2 ac2 (s1.heap.objs.size + 10) (s1.heap.objs.size + 8) (s1.heap.objs.size + 9) L00 L01 L10 L11 E0 E1 (s1.heap.objs.size + 6) tk, s4.heap.get? q.1 = some (tup q.2) := by
    simp only [List.forall_mem_cons, List.not_mem_nil, false_imp_iff, implies_true, and_true] at TR ⊢
    obtain ⟨r1, r2, r3, r4, r5, r6, r7, r8⟩ := TR
    exact ⟨I4.ix 2 rfl, ts04 _ _ r1, ts04 _ _ r2, ts04 _ _ r3, ts04 _ _ r4, ts04 _ _ r5, ts04 _ _ r6, ts04 _ _ r7, ts04 _ _ r8, I4.ix 3 rfl, I4.ix 5 rfl, I4.ix 4 rfl⟩
  refine compile (tk := tk) O (by omega) hA' I4 TR4 (CL.mono ts04) fun s5 ol os re I5 G5 Tr5 hol => ?_
  rw [ords_eq] at G5
  have ts5 : Ts s4.heap s5.heap := fun a l h => Tr5.keep _ _ h (by simp)
  have I5' := Inv.pickH (L := [_, _, _, _, _, _, _, _, _, _, _, _, _, _]) (H := H) [1, 2, 0, 3, 4, 5, 6, 7, 8, 9, 10, 11, 12, 13] (by decide) I5
  refine go_back_stop (L := [_, _]) (H := [_, _, _, _, _, _, _, _, _, _, _, _] ++ H) I5' [] (by simp) (pf_find Y.p Y.b1 Y.b2 s2.heap.objs.size s2.toks s.heap.objs.size hsA ksB (s1.heap.objs.size + 11) vd ⟨⟨w⟩⟩ wt false (s1.heap.objs.size + 2) s5.heap.objs.size s5.toks ol re os) trivial fun A2 s6 hA2 I6 T6 mu6 hn6 _ => ?_
  have ts6 : Ts s5.heap s6.heap := ts_of' (L := [_, _]) I5' T6
  have I7 := Inv.pickH (L := [_, _, _, _, _, _, _, _, _, _, _, _, _, _, _, _, _, _, _, _, _, _, _, _]) (H := H) [3, 21, 4, 23, 19, 6, 7, 20, 12, 22, 17, 18, 2, 1, 8, 9, 10, 11] (by decide) I6
  have I8 := I7.froze [false, false, false, false, false, true, true, true, true, true, true, true, false, true]
  have hcs : s5.heap.objs.size + 8 ≤ s6.heap.objs.size := by rw [hn6]; omega
  let F : MF :=
    { Lm := s5.heap.objs.size + 7, hd := s1.heap.objs.size + 1, hl := s5.heap.objs.size + 6, vd := vd, lg := s1.heap.objs.size + 4, mi := s5.heap.objs.size + 4, md := s5.heap.objs.size + 3, hi := s1.heap.objs.size + 2, ol := ol, rf := s1.heap.objs.size, rj := s1.heap.objs.size + 6, dj := s1.heap.objs.size + 5, ts := wt, tb := s5.toks + 7, bg := 0, hs' := fun i => [kh Y.p n_values, kh Y.p n_limit, kh Y.p n_refused, kh Y.p n_width, kh Y.p n_steps, kh Y.p n_log].getD i 0, ks' := fun i => [s1.toks + 6, s1.toks + 8, s1.toks + 10, s1.toks + 13, s1.toks + 16, s1.toks + 18, s1.toks, s1.toks + 11].getD i 0, hm := fun i => [kh Y.p n_subject, kh Y.p n_host, kh Y.p n_history].getD i 0, km := fun i => [s5.toks + 13, s5.toks + 15, s5.toks + 17].getD i 0, sb := w, os := os, oe := re, re := 0, hj := fun i => [kh Y.p n_kind, kh Y.p n_owner, kh Y.p n_key].getD i 0, kj := fun i => [s1.toks + 30, s1.toks + 23, s1.toks + 32, s1.toks + 34, s1.toks + 24].getD i 0, h0 := cut s6.heap (s5.heap.objs.size + 8), ords := c.ords }
  let hsM : Nat → Int := fun i => [kh Y.p n_self, kh Y.p n_orders, kh Y.p n_begin, kh Y.p n_way].getD i 0
  let ksM : Nat → Nat := fun i => [s5.toks + 18, s5.toks + 19, s5.toks + 20, s5.toks + 41].getD i 0
  let hsW : Nat → Int := fun i => [kh Y.p n_orders, kh Y.p [112, 99], kh Y.p [97, 116], kh Y.p n_named, kh Y.p n_marks, kh Y.p n_calls].getD i 0
  let ksW : Nat → Nat := fun i => [s5.toks + 30, s5.toks + 32, s5.toks + 34, s5.toks + 36, s5.toks + 38, s5.toks + 40].getD i 0
  have I9 : Inv Y.x s6 (F.ML (F.f4 hsM ksM (.ref (s5.heap.objs.size + 9))) (mvd0 ve) [] 0 [] 0 ((0 : Nat) : Int) (s1.toks + 14) (⟨s5.heap.objs.size + 8, wayD hsW ksW ol ((0 : Nat) : Int) (s5.toks + 21) ((0 : Nat) : Int) (s5.toks + 7) .none, true⟩ :: ⟨s5.heap.objs.size + 9, inst 449 (s5.heap.objs.size + 8), false⟩ :: []) ++ ([_, _, _, _] ++ H)) := I8
  have MT : MB Y F (F.f4 hsM ksM (.ref (s5.heap.objs.size + 9))) (⟨s5.heap.objs.size + 8, wayD hsW ksW ol ((0 : Nat) : Int) (s5.toks + 21) ((0 : Nat) : Int) (s5.toks + 7) .none, true⟩ :: ⟨s5.heap.objs.size + 9, inst 449 (s5.heap.objs.size + 8), false⟩ :: []) 0 [] s6 (mvd0 ve) [] 0 [] 0 (s1.toks + 14) :=
    ⟨I9.sub (List.sublist_append_left _ _), rfl, .inl ⟨_, rfl⟩, G5.mono ts6, fun b o h _ => (cut_some hcs h).2, by show (cut s6.heap _).objs.size ≤ _; rw [cut_size hcs]; exact hcs, by show ∀ e ∈ (_ : List En), (cut s6.heap _).objs.size ≤ e.a; rw [cut_size hcs]; simp, by decide⟩
  refine mloop_first (F := F) O (by omega) hw (by show w.length ≤ 10000; omega) ?_ hA2 (fun s7 h7 => ?_) hrun rfl (by decide) MT
  · show c.ords.length ≤ 10000
    unfold Cf.ords
    cases c.e1 <;> simp
  obtain ⟨hs7, ks7, ob7, vo7, ls7, le7, he7, tk7, T7⟩ := h7
  have ap := List.pairwise_append.mp I9.ap
  have hM : ∀ y ∈ ([_, _, _, _] ++ H : List En), y.a ∉ [F.Lm, F.hd, F.hl, F.vd, F.lg] := fun y hy hm => by
    have q : ∀ x : En, x ∈ _ → x.m = true → x.a ≠ y.a := fun x hx hxm => ap.2.2 x hx y hy (by rw [hxm, Bool.true_or])
    simp only [List.mem_cons, List.not_mem_nil, or_false] at hm
    rcases hm with hm | hm | hm | hm | hm
    · exact q _ (.head _) rfl hm.symm
    · exact q _ (.tail _ (.head _)) rfl hm.symm
    · exact q _ (.tail _ (.tail _ (.head _))) rfl hm.symm
    · exact q _ (.tail _ (.tail _ (.tail _ (.head _)))) rfl hm.symm
    · exact q _ (.tail _ (.tail _ (.tail _ (.tail _ (.head _))))) rfl hm.symm
  have I10 := Inv.join' I9 T7.inv (fun y hy => by
    have hy6 := I9.get y (List.mem_append_right _ hy)
    refine T7.kp _ _ ?_ (hM y hy)
    show (cut s6.heap _).get? _ = _
    rw [cut_get ?_]
    · exact hy6
    · rcases List.mem_append.mp hy with hy | hy
      · have hlp : s.heap.objs.size < s5.heap.objs.size := Nat.lt_of_lt_of_le (by rw [hn1]; exact Nat.lt_succ_self _) (Nat.le_trans T2.size (Nat.le_trans T4.size Tr5.size))
        have hln : s2.heap.objs.size < s5.heap.objs.size := Nat.lt_of_lt_of_le (by rw [hn4]; exact Nat.lt_succ_self _) Tr5.size
        simp only [List.mem_cons, List.not_mem_nil, or_false] at hy
        rcases hy with rfl | rfl | rfl | rfl
        · show s5.heap.objs.size + 2 < s5.heap.objs.size + 8; omega
        · show s5.heap.objs.size < s5.heap.objs.size + 8; omega
        · show s2.heap.objs.size < s5.heap.objs.size + 8; omega
        · show s.heap.objs.size < s5.heap.objs.size + 8; omega
      · exact Nat.lt_of_lt_of_le (Heap.lt_size (I5'.get y (List.mem_append_right _ hy))) (Nat.le_add_right _ _)) (by unfold MF.ML; simp)
  have ts7 : Ts s.heap s7.heap := fun a l h => by
    have h5 := ts5 _ _ (ts04 _ _ h)
    have h6 := ts6 _ _ h5
    have hlt : a < s5.heap.objs.size := Heap.lt_size h5
    refine T7.kp _ _ (by show (cut s6.heap _).get? _ = _; rw [cut_get (Nat.lt_of_lt_of_le hlt (Nat.le_add_right _ _))]; exact h6) fun hm => ?_
    have q : ∀ x ∈ F.ML (F.f4 hsM ksM (.ref (s5.heap.objs.size + 9))) (mvd0 ve) [] 0 [] 0 ((0 : Nat) : Int) (s1.toks + 14) (⟨s5.heap.objs.size + 8, wayD hsW ksW ol ((0 : Nat) : Int) (s5.toks + 21) ((0 : Nat) : Int) (s5.toks + 7) .none, true⟩ :: ⟨s5.heap.objs.size + 9, inst 449 (s5.heap.objs.size + 8), false⟩ :: []), x.m = true → x.a ≠ a := fun x hx hxm e => by
      have h1 := MT.inv.get x hx
      rw [e, h6] at h1
      have h2 := MT.inv.nt x hx hxm
      rw [← Option.some.inj h1] at h2
      cases notTup_tup l true (fun _ => h2)
    simp only [List.mem_cons, List.not_mem_nil, or_false] at hm
    rcases hm with hm | hm | hm | hm | hm
    · exact q _ (.head _) rfl hm.symm
    · exact q _ (.tail _ (.head _)) rfl hm.symm
    · exact q _ (.tail _ (.tail _ (.head _))) rfl hm.symm
    · exact q _ (.tail _ (.tail _ (.tail _ (.head _)))) rfl hm.symm
    · exact q _ (.tail _ (.tail _ (.tail _ (.tail _ (.head _))))) rfl hm.symm
  have I11 := Inv.pickH (L := [_, _, _, _, _, _, _, _, _, _, _, _, _, _, _, _]) (H := H) [0, 12, 13, 14, 15, 1, 4, 7] (by decide) I10
  refine go_back (L := [_, _, _, _, _]) (H := [_, _, _] ++ H) I11 [] (by simp) (pf_found Y.p Y.b1 Y.b2 s2.heap.objs.size s2.toks s.heap.objs.size hsA ksB (s1.heap.objs.size + 11) vd ⟨⟨w⟩⟩ wt false (s1.heap.objs.size + 2) s5.heap.objs.size s5.toks ol re os s7.heap.objs.size s7.toks ob7 hs7 ks7) trivial fun s8 I12 T8 mu8 hn8 _ => ?_
  have ts8 : Ts s7.heap s8.heap := ts_of' (L := [_, _, _, _, _]) (H := [_, _, _] ++ H) I11 T8
  show wpOwn _ _ _ _ _ _ _
  have I13 := Inv.pickH (L := [_, _, _, _, _, _, _, _]) (H := H) [4, 5, 6, 7] (by decide) I12
  refine places_end (hs := hsA) (ks := fun i => [s.toks, s.toks + 1, s.toks + 2, s.toks + 3, s1.toks + 19, s7.toks + 2].getD i 0) O (by omega) hA (log := res.2) ?_ I13 (T7.hlog.mono ts8) (fun a l h => ts8 _ _ (ts7 _ _ h)) ?_ hperm (due_sorted c w 0 false) K rfl
  · rw [hperm.length_eq]
    have := due_len c w 0 false
    omega
  · refine Nat.le_trans T1.size (Nat.le_trans T2.size (Nat.le_trans T4.size (Nat.le_trans Tr5.size (Nat.le_trans ?_ T8.size))))
    have h7 := T7.grow
    have h7 : (cut s6.heap (s5.heap.objs.size + 8)).objs.size ≤ s7.heap.objs.size := h7
    rw [cut_size hcs] at h7
    omega
end
end
section
open PySem PySem.W PySem.W.X PySem.Calls PySem.Spec PyProof.Rows
theorem lIf_parts (P : Params) : ifParts (lIf P) = some (ifL (lIf P), .NotEq, ifR (lIf P), ifP (lIf P), ifB (lIf P), ifQ (lIf P)) := by kernel_rfl
theorem lIf_marks (P : Params) : behindInMarks .NotEq (ifR (lIf P)) = false := by kernel_rfl
theorem lRet_parts (P : Params) : retParts (lRet P) = some (rL (lRet P), .Eq, rR (lRet P), rP (lRet P), rQ (lRet P)) := by kernel_rfl
theorem lRet_marks (P : Params) : behindInMarks .Eq (rR (lRet P)) = false := by kernel_rfl
theorem lS13 (P : Params) : lS P 13 1 = [lIf P] := by kernel_rfl
theorem lS14 (P : Params) : lS P 14 1 = [lRet P] := by kernel_rfl
section
variable {M : Model} {A : Around} {c : Code} {s : Shared} {env : Env}
theorem own_Return_Compare1 {l : PySem.Expr} {op : CmpOp} {r : PySem.Expr} {pos pos' : Pos} {Q : Flow → Shared → Prop} {E : Value → Shared → Prop}
    (h : wpOwn M A c (eval l env) (fun a s₁ => wpOwn M A c (eval r env) (fun b s₂ => wpOwn M A c (compareOp op a b) (fun v s₃ => Q (.ret v) s₃) E s₂) E s₁) E s)
    (hm : behindInMarks op r = false) : wpOwn M A c (exec (.Return (some (.Compare l [op] [r] pos)) pos') env) Q E s := fun Γ p hc hΓ => by
  simp only [exec_Return_some, eval_Compare1, markedBehindIn_of_false hm, Sem.wp_bind', Sem.wp_holding, Sem.wp_cmd_standAt, Sem.wp_operate]
  exact Sem.wp_mono M Γ _ (fun a p₁ s₁ h₁ => Sem.wp_mono M Γ _ (fun b _ s₂ h₂ => Sem.wp_mono M Γ _ (fun v p₃ s₃ h₃ => h₃)
    (fun _ _ _ h' => h') _ _ (h₂ Γ _ hc hΓ)) (fun _ _ _ h' => h') _ _ (h₁ Γ _ hc hΓ)) (fun _ _ _ h' => h') _ _ (h Γ _ hc hΓ)
end
noncomputable def LK (Y : Cy) (R : Result → Shared → Prop) : Prop := ∀ s', Good Y.x s' → R (.ok (.ret (.bool true))) s'
section
variable {Y : Cy} {A : Around} {d u : Nat} {R : Result → Shared → Prop} {H : List En} {s : Shared}
theorem law_end (O : Y.x.Ok) (hdd : d ≤ 340) (hu : u ≤ 7000) (hw : Y.w.params = PP Y.p Y.b1 Y.b2) (hA : AB d u A) (c : Cf) (w : List Nat) (hz : w.length ≤ 5) (hch : ∀ x ∈ w, x = 97 ∨ x = 98)
    {Lw c1 c2 c3 us ea lo si vd ts_ tf_ nd du ov wt svt ao_t ak pP dP pQ dQ nP nQ kP kQ kpP kpQ ve ab1 al1 ac1 ao' ab2 al2 ac2 L00 L01 L10 L11 E0 E1 de : Nat} {sv_ ao : Int} {hs : Nat → Int} {ks : Nat → Nat} {hpP hpQ : Nat → Int} {tk' : Nat → Nat} {ds : List Value}
    (I : Inv Y.x s ([⟨Lw, { cls := .type "frame", data := .dict ⟨[eh hs ks 0 n_script (.ref 660), eh hs ks 1 n_usual (.ref us), eh hs ks 2 n_ends (.ref ea), ⟨hs 3, sv n_word (ks 3), .str ⟨⟨w⟩⟩ wt⟩, eh hs ks 4 n_lots (.ref lo), eh hs ks 5 n_signs (.ref si), eh hs ks 6 n_values (.ref vd), eh hs ks 7 n_to_second (.ref ts_), eh hs ks 8 n_to_first (.ref tf_), eh hs ks 9 n_node (.ref nd), eh hs ks 10 n_state (.int sv_ svt), eh hs ks 11 n_due (.ref du), eh hs ks 12 n_over (.ref ov), eh hs ks 13 [97,116] (.int ao ao_t), eh hs ks 14 n_asked (.ref ak)]⟩ 15 }, true⟩, et vd (fq2 Y.p kP (.ref pP) kQ (.ref pQ) ve), et pP (inst 166 dP), ⟨dP, patD hpP kpP nP, true⟩, et pQ (inst 166 dQ), ⟨dQ, patD hpQ kpQ nQ, true⟩, et du (lst ds de)] ++ H)) (hds : IntsAre ds ((c.due w 0 false).map Int.ofNat))
    (ha : ∃ t1 v t2 t3, s.heap.get? ak = some (tup [sv n_delay t1, .ref v]) ∧ s.heap.get? v = some (tup [sv n_name t2, sv [80] t3]))
    (hP : ∀ F : TF, NdAt F s.heap (c.body false) nP) (hQ : ∀ F : TF, NdAt F s.heap (c.body true) nQ)
    (TR : ∀ q ∈ [((nd : Addr), [sv n_cat (tk' 1), .ref ab1, .ref al2]), (ab1, [sv n_arbno (tk' 2), .ref al1]), (al1, [sv n_alt (tk' 3), .ref L00, .ref ac1]), (ac1, [sv n_cat (tk' 4), .ref ao', .ref L10]), (ao', [sv n_cat (tk' 5), .ref L01, .ref ab2]), (ab2, [sv n_arbno (tk' 6), .ref L11]), (al2, [sv n_alt (tk' 7), .ref E0, .ref ac2]), (ac2, [sv n_cat (tk' 8), .ref ao', .ref E1])], s.heap.get? q.1 = some (tup q.2))
    (CL : CLf s.heap (lotO c.g00 c.g01 false) (lotO c.g00 c.g01 true) (lotO c.g10 c.g11 false) (lotO c.g10 c.g11 true) (endO c.e0) (endO c.e1) L00 L01 L10 L11 E0 E1)
    (K : LK Y R) : wpOwn Y.x.M A (.func (bodyAt Y.p 659) (envL Y.p Lw c1 c2 c3)) (execs (lS Y.p 13 1 ++ lS Y.p 14 1) (envL Y.p Lw c1 c2 c3)) (fun f s' => R (.ok (.ret (match f with | .ret v => v | _ => .none))) s') (fun _ _ => False) s := by
  have hunits : ∀ c : Code, (A.under c).units + 64 < cLine := fun c => by
    have h1 := hA.units
    have h2 := units_le c
    show A.units + c.cUnits + 64 < 9900
    omega
  have I0 := Inv.pickH (L := [_, _, _, _, _, _, _]) (H := H) [0, 1, 2, 3, 4, 5, 6] (by decide) I
  rw [lS13, lS14, ifParts_eq (lIf_parts Y.p), retParts_eq (lRet_parts Y.p)]
  refine own_execs_append (b₁ := [_]) (own_execs_one (own_If (own_isTrue_Compare1 ?_ (lIf_marks Y.p))))
  refine wpOwn_mono (own_evalT (X := Y.x) (R := fun r' s1 => ∃ rl out re, r' = .ok (.ret (.ref rl)) ∧ Inv Y.x s1 ([et rl (lst out re), ⟨Lw, { cls := .type "frame", data := .dict ⟨[eh hs ks 0 n_script (.ref 660), eh hs ks 1 n_usual (.ref us), eh hs ks 2 n_ends (.ref ea), ⟨hs 3, sv n_word (ks 3), .str ⟨⟨w⟩⟩ wt⟩, eh hs ks 4 n_lots (.ref lo), eh hs ks 5 n_signs (.ref si), eh hs ks 6 n_values (.ref vd), eh hs ks 7 n_to_second (.ref ts_), eh hs ks 8 n_to_first (.ref tf_), eh hs ks 9 n_node (.ref nd), eh hs ks 10 n_state (.int sv_ svt), eh hs ks 11 n_due (.ref du), eh hs ks 12 n_over (.ref ov), eh hs ks 13 [97,116] (.int ao ao_t), eh hs ks 14 n_asked (.ref ak)]⟩ 15 }, true⟩, et du (lst ds de)] ++ H) ∧ IntsAre out ((c.due w 0 false).map Int.ofNat) ∧ Ts s.heap s1.heap)
    (go_stop O (by omega) hA (L := [_]) (H := [_, _, _, _, _, _] ++ H) I0 [] (by simp) (lw_l1 Y.p Y.b1 Y.b2 s.heap.objs.size s.toks Lw c1 c2 c3 hs ks us 0 0 ea lo si vd ts_ tf_ nd du ov 0 wt svt 0 sv_ (fun _ => 0) (fun _ => 0) [] ⟨⟨w⟩⟩ ao ao_t ak) trivial fun A' s2 hA' I2 T2 _ _ _ => ?_)) (fun v s1 k => ?_) fun _ _ h => ?_
  rotate_left 2
  · obtain ⟨_, _, _, h, _⟩ := h; cases h
  · have ts2 : Ts s.heap s2.heap := ts_of' (L := [_]) (H := [_, _, _, _, _, _] ++ H) I0 T2
    have I3 := Inv.pickH (L := [_, _, _, _, _, _, _]) (H := H) [1, 2, 3, 4, 5, 0, 6] (by decide) I2
    obtain ⟨t1, v, t2, t3, e1, e2⟩ := ha
    refine places_trial (H := [_, _] ++ H) O (by omega) (by omega) hw hA' c w hz hch I3 ⟨t1, v, t2, t3, ts2 _ _ e1, ts2 _ _ e2⟩ (fun F => (hP F).mono ts2) (fun F => (hQ F).mono ts2) fun s3 rl out re I4 h4 ts4 _ => ?_
    exact go_back (L := []) I4 [] (by simp) (lw_l1r Y.p Y.b1 Y.b2 s.heap.objs.size s.toks Lw c1 c2 c3 hs ks us 0 0 ea lo si vd ts_ tf_ nd du ov 0 wt svt 0 sv_ (fun _ => 0) (fun _ => 0) [] ⟨⟨w⟩⟩ ao ao_t ak s3.heap.objs.size s3.toks rl) trivial fun s4 I5 T5 _ _ _ => ⟨rl, out, re, rfl, I5, h4, fun a l h => ts_of' (L := []) I4 T5 _ _ (ts4 _ _ (ts2 _ _ h))⟩
  obtain ⟨rl, out, re, h, I1, h1, ts1⟩ := k
  cases h
  have I1' := Inv.pickH (L := [_, _, _]) (H := H) [1, 0, 2] (by decide) I1
  refine wpOwn_mono (own_evalT (X := Y.x) (R := fun r' s2 => r' = .ok (.ret (.ref du)) ∧ Inv Y.x s2 ([⟨Lw, { cls := .type "frame", data := .dict ⟨[eh hs ks 0 n_script (.ref 660), eh hs ks 1 n_usual (.ref us), eh hs ks 2 n_ends (.ref ea), ⟨hs 3, sv n_word (ks 3), .str ⟨⟨w⟩⟩ wt⟩, eh hs ks 4 n_lots (.ref lo), eh hs ks 5 n_signs (.ref si), eh hs ks 6 n_values (.ref vd), eh hs ks 7 n_to_second (.ref ts_), eh hs ks 8 n_to_first (.ref tf_), eh hs ks 9 n_node (.ref nd), eh hs ks 10 n_state (.int sv_ svt), eh hs ks 11 n_due (.ref du), eh hs ks 12 n_over (.ref ov), eh hs ks 13 [97,116] (.int ao ao_t), eh hs ks 14 n_asked (.ref ak)]⟩ 15 }, true⟩, et rl (lst out re), et du (lst ds de)] ++ H) ∧ Ts s.heap s2.heap)
    (go_ret O (by omega) hA (L := [_]) (H := [_, _] ++ H) I1' [] (by simp) (lw_r1 Y.p Y.b1 Y.b2 s1.heap.objs.size s1.toks Lw c1 c2 c3 hs ks us 0 0 ea lo si vd ts_ tf_ nd du ov 0 wt svt 0 sv_ (fun _ => 0) (fun _ => 0) [] ⟨⟨w⟩⟩ ao ao_t ak) trivial fun s2 I2 T2 _ _ _ => ⟨rfl, I2, fun a l h => ts_of' (L := [_]) (H := [_, _] ++ H) I1' T2 _ _ (ts1 _ _ h)⟩)) (fun v s2 k => ?_) fun _ _ h => ?_
  rotate_left
  · cases h.1
  obtain ⟨h, I2, ts2⟩ := k
  cases h
  refine wpOwn_of_wpAny (PySem.W.ne_intsK ⟨_, I2.ix 1 rfl, rfl, re, by simp⟩ h1 ⟨_, I2.ix 2 rfl, rfl, de, by simp⟩ hds (hunits _) ?_)
  refine wpOwn_of_wpAny (wpAny_truthy_bool ?_)
  simp only [decide_true, Bool.not_true, Bool.false_eq_true, if_false]
  refine own_execs_nil ?_
  refine own_execs_one (own_Return_Compare1 ?_ (lRet_marks Y.p))
  refine wpOwn_mono (own_evalT (X := Y.x) (R := fun r' s1 => ∃ rl out re, r' = .ok (.ret (.ref rl)) ∧ Inv Y.x s1 ([et rl (lst out re), ⟨Lw, { cls := .type "frame", data := .dict ⟨[eh hs ks 0 n_script (.ref 660), eh hs ks 1 n_usual (.ref us), eh hs ks 2 n_ends (.ref ea), ⟨hs 3, sv n_word (ks 3), .str ⟨⟨w⟩⟩ wt⟩, eh hs ks 4 n_lots (.ref lo), eh hs ks 5 n_signs (.ref si), eh hs ks 6 n_values (.ref vd), eh hs ks 7 n_to_second (.ref ts_), eh hs ks 8 n_to_first (.ref tf_), eh hs ks 9 n_node (.ref nd), eh hs ks 10 n_state (.int sv_ svt), eh hs ks 11 n_due (.ref du), eh hs ks 12 n_over (.ref ov), eh hs ks 13 [97,116] (.int ao ao_t), eh hs ks 14 n_asked (.ref ak)]⟩ 15 }, true⟩, et du (lst ds de)] ++ H) ∧ IntsAre out ((c.due w 0 false).map Int.ofNat))
    (go_stop O (by omega) hA (L := [_]) (H := [_, _] ++ H) I2 [] (by simp) (lw_l2 Y.p Y.b1 Y.b2 s2.heap.objs.size s2.toks Lw c1 c2 c3 hs ks us 0 0 ea lo si vd ts_ tf_ nd du ov 0 wt svt 0 sv_ (fun _ => 0) (fun _ => 0) [] ⟨⟨w⟩⟩ ao ao_t ak) trivial fun A' s3 hA' I3 T3 _ _ _ => ?_)) (fun v s3 k => ?_) fun _ _ h => ?_
  rotate_left 2
  · obtain ⟨_, _, _, h, _⟩ := h; cases h
  · have ts3 : Ts s.heap s3.heap := fun a l h => ts_of' (L := [_]) (H := [_, _] ++ H) I2 T3 _ _ (ts2 _ _ h)
    have I4 := Inv.pickH (L := [_, _, _, _]) (H := H) [0, 1, 3] (by decide) I3
    refine places_machine (H := [_, _] ++ H) (tk' := tk') O (by omega) hw hA' c w hz hch I4 (fun q hq => ts3 _ _ (TR q hq)) (CL.mono ts3) fun s4 rl out re I5 h5 ts5 _ => ?_
    exact go_back (L := []) I5 [] (by simp) (lw_l2r Y.p Y.b1 Y.b2 s2.heap.objs.size s2.toks Lw c1 c2 c3 hs ks us 0 0 ea lo si vd ts_ tf_ nd du ov 0 wt svt 0 sv_ (fun _ => 0) (fun _ => 0) [] ⟨⟨w⟩⟩ ao ao_t ak s4.heap.objs.size s4.toks rl) trivial fun s5 I6 T6 _ _ _ => ⟨rl, out, re, rfl, I6, h5⟩
  obtain ⟨rl2, out2, re2, h, I3, h3⟩ := k
  cases h
  have I3' := Inv.pickH (L := [_, _, _]) (H := H) [1, 0, 2] (by decide) I3
  refine wpOwn_mono (own_evalT (X := Y.x) (R := fun r' s4 => r' = .ok (.ret (.ref du)) ∧ Inv Y.x s4 ([⟨Lw, { cls := .type "frame", data := .dict ⟨[eh hs ks 0 n_script (.ref 660), eh hs ks 1 n_usual (.ref us), eh hs ks 2 n_ends (.ref ea), ⟨hs 3, sv n_word (ks 3), .str ⟨⟨w⟩⟩ wt⟩, eh hs ks 4 n_lots (.ref lo), eh hs ks 5 n_signs (.ref si), eh hs ks 6 n_values (.ref vd), eh hs ks 7 n_to_second (.ref ts_), eh hs ks 8 n_to_first (.ref tf_), eh hs ks 9 n_node (.ref nd), eh hs ks 10 n_state (.int sv_ svt), eh hs ks 11 n_due (.ref du), eh hs ks 12 n_over (.ref ov), eh hs ks 13 [97,116] (.int ao ao_t), eh hs ks 14 n_asked (.ref ak)]⟩ 15 }, true⟩, et rl2 (lst out2 re2), et du (lst ds de)] ++ H))
    (go_ret O (by omega) hA (L := [_]) (H := [_, _] ++ H) I3' [] (by simp) (lw_r2 Y.p Y.b1 Y.b2 s3.heap.objs.size s3.toks Lw c1 c2 c3 hs ks us 0 0 ea lo si vd ts_ tf_ nd du ov 0 wt svt 0 sv_ (fun _ => 0) (fun _ => 0) [] ⟨⟨w⟩⟩ ao ao_t ak) trivial fun s4 I4 T4 _ _ _ => ⟨rfl, I4⟩)) (fun v s4 k => ?_) fun _ _ h => ?_
  rotate_left
  · cases h.1
  obtain ⟨h, I4⟩ := k
  cases h
  refine wpOwn_of_wpAny (PySem.W.eq_intsK ⟨_, I4.ix 1 rfl, rfl, re2, by simp⟩ h3 ⟨_, I4.ix 2 rfl, rfl, de, by simp⟩ hds (hunits _) ?_)
  simp only [decide_true]
  exact K s4 I4.good
end
end
section
open PySem PySem.W PySem.W.X PySem.Calls PySem.Spec PyProof.Rows
noncomputable def bn (b : Bool) : Nat := cond b 1 0
theorem endH {h : Heap} {E : Addr} : ∀ {e : Bool}, LfAt h (endO e) E → ∃ K t r, h.get? E = some (tup (.str K t :: r)) ∧ r.length ≤ 1 ∧ (K.cps.toList == n_chars) = e
  | false, ⟨t, e⟩ => ⟨_, _, _, e, Nat.zero_le _, rfl⟩
  | true, ⟨t1, t2, e⟩ => ⟨_, _, _, e, Nat.le_refl _, rfl⟩
theorem ints_snoc {a : Int} {t : Tok} : ∀ {vs : List Value} {ns : List Int}, IntsAre vs ns → IntsAre (vs ++ [.int a t]) (ns ++ [a])
  | _, _, .nil => .cons _ _ .nil
  | _, _, .cons n t h => .cons n t (ints_snoc h)
theorem ints_len : ∀ {vs : List Value} {ns : List Int}, IntsAre vs ns → vs.length = ns.length
  | _, _, .nil => rfl
  | _, _, .cons n t h => by rw [List.length_cons, List.length_cons, ints_len h]
section
variable {Y : Cy} {A : Around} {d u : Nat} {R : Result → Shared → Prop} {H : List En} {s0 s : Shared} {c : Cf} {w : List Nat} {Lw c1 c2 c3 it us cl ga ea lo si vd ts_ tf_ nd du ov ht wt E0 E1 g0 g1 : Nat} {gp lp gt : Nat → Nat}
noncomputable def DK (Y : Cy) (s0 : Shared) (H : List En) (R : Result → Shared → Prop) (c : Cf) (w : List Nat) (Lw c1 c2 c3 us cl ga ea lo si vd ts_ tf_ nd du ov ht wt : Nat) : Prop :=
  ∀ s' (hs : Nat → Int) (ks : Nat → Nat) (st : Bool) (svt de ao_t : Nat) (ao : Int) (ds : List Value), Inv Y.x s' ([⟨Lw, { cls := .type "frame", data := .dict ⟨[eh hs ks 0 n_script (.ref 660), eh hs ks 1 n_usual (.ref us), eh hs ks 2 n_ends (.ref ea), ⟨hs 3, sv n_word (ks 3), .str ⟨⟨w⟩⟩ wt⟩, eh hs ks 4 n_lots (.ref lo), eh hs ks 5 n_signs (.ref si), eh hs ks 6 n_values (.ref vd), eh hs ks 7 n_to_second (.ref ts_), eh hs ks 8 n_to_first (.ref tf_), eh hs ks 9 n_node (.ref nd), eh hs ks 10 n_state (.int (bn st : Nat) svt), eh hs ks 11 n_due (.ref du), eh hs ks 12 n_over (.ref ov), eh hs ks 13 [97,116] (.int ao ao_t)]⟩ 14 }, true⟩, et c1 (cel (some (.ref cl))), et c2 (cel (some (.int 1 ht))), et c3 (cel (some (.ref ga))), et du (lst ds de)] ++ H) → IntsAre ds ((c.due w 0 false).map Int.ofNat) → Ts s0.heap s'.heap → R (.ok .next) s'
theorem dl_end (O : Y.x.Ok) (hdd : d ≤ 400) (hA : AB d u A) {hs : Nat → Int} {ks : Nat → Nat} {st : Bool} {svt de ao_t : Nat} {ao at_ : Int} {ds : List Value}
    (I : Inv Y.x s ([⟨Lw, { cls := .type "frame", data := .dict ⟨[eh hs ks 0 n_script (.ref 660), eh hs ks 1 n_usual (.ref us), eh hs ks 2 n_ends (.ref ea), ⟨hs 3, sv n_word (ks 3), .str ⟨⟨w⟩⟩ wt⟩, eh hs ks 4 n_lots (.ref lo), eh hs ks 5 n_signs (.ref si), eh hs ks 6 n_values (.ref vd), eh hs ks 7 n_to_second (.ref ts_), eh hs ks 8 n_to_first (.ref tf_), eh hs ks 9 n_node (.ref nd), eh hs ks 10 n_state (.int (bn st : Nat) svt), eh hs ks 11 n_due (.ref du), eh hs ks 12 n_over (.ref ov), eh hs ks 13 [97,116] (.int ao ao_t)]⟩ 14 }, true⟩, et c1 (cel (some (.ref cl))), et c2 (cel (some (.int 1 ht))), et c3 (cel (some (.ref ga))), et ea (lst [.ref E0, .ref E1] (lp 3)), et ga (lst [.ref g0, .ref g1] (gp 0)), et du (lst ds de), et it (ri [.int at_ 0, .int 0 0, .int 1 0]), et g0 (lst [.int (bn c.g00 : Nat) (gt 0), .int (bn c.g01 : Nat) (gt 1)] (gp 1)), et g1 (lst [.int (bn c.g10 : Nat) (gt 2), .int (bn c.g11 : Nat) (gt 3)] (gp 2))] ++ H)) (hds : IntsAre ds ((c.due w 0 false).map Int.ofNat)) (hts : Ts s0.heap s.heap) (K : DK Y s0 H R c w Lw c1 c2 c3 us cl ga ea lo si vd ts_ tf_ nd du ov ht wt) : codeAny Y.x.M A (fC Y.p 11 Lw c1 c2 c3 it) R s := by
  have I1 := Inv.pickH (L := [_, _, _, _, _, _, _, _, _, _]) (H := H) [0, 1, 2, 3, 6, 7] (by decide) I
  refine go_code O (by omega) hA I1 [] (by simp) (lw_d_end Y.p Y.b1 Y.b2 s.heap.objs.size s.toks Lw c1 c2 c3 it hs ks us cl ga ea lo si vd ts_ tf_ nd du ov ht wt svt de (bn st : Nat) gp lp ds ⟨⟨w⟩⟩ at_ ao ao_t) trivial fun s1 I2 T2 _ _ _ => ?_
  have I3 := Inv.pickH (L := [_, _, _, _, _, _]) (H := H) [0, 1, 2, 3, 4] (by decide) I2
  exact K s1 hs ks st svt de ao_t ao ds I3 hds (fun a l h => ts_of' I1 T2 _ _ (hts _ _ h))
theorem dl (O : Y.x.Ok) (hdd : d ≤ 400) (hA : AB d u A) (hz : w.length ≤ 5) (hch : ∀ x ∈ w, x = 97 ∨ x = 98) (K : DK Y s0 H R c w Lw c1 c2 c3 us cl ga ea lo si vd ts_ tf_ nd du ov ht wt) : ∀ (suf : List Nat) {s : Shared} {hs : Nat → Int} {ks : Nat → Nat} {st : Bool} {svt de i ao_t : Nat} {ao at_ : Int} {ds : List Value} {pre : List Nat} (hi1 : 1 ≤ i) (hat : at_ = (i : Nat)) (hi : w.drop i = suf) (I : Inv Y.x s ([⟨Lw, { cls := .type "frame", data := .dict ⟨[eh hs ks 0 n_script (.ref 660), eh hs ks 1 n_usual (.ref us), eh hs ks 2 n_ends (.ref ea), ⟨hs 3, sv n_word (ks 3), .str ⟨⟨w⟩⟩ wt⟩, eh hs ks 4 n_lots (.ref lo), eh hs ks 5 n_signs (.ref si), eh hs ks 6 n_values (.ref vd), eh hs ks 7 n_to_second (.ref ts_), eh hs ks 8 n_to_first (.ref tf_), eh hs ks 9 n_node (.ref nd), eh hs ks 10 n_state (.int (bn st : Nat) svt), eh hs ks 11 n_due (.ref du), eh hs ks 12 n_over (.ref ov), eh hs ks 13 [97,116] (.int ao ao_t)]⟩ 14 }, true⟩, et c1 (cel (some (.ref cl))), et c2 (cel (some (.int 1 ht))), et c3 (cel (some (.ref ga))), et ea (lst [.ref E0, .ref E1] (lp 3)), et ga (lst [.ref g0, .ref g1] (gp 0)), et du (lst ds de), et it (ri [.int at_ 0, .int ((suf.length + 1 : Nat)) 0, .int 1 0]), et g0 (lst [.int (bn c.g00 : Nat) (gt 0), .int (bn c.g01 : Nat) (gt 1)] (gp 1)), et g1 (lst [.int (bn c.g10 : Nat) (gt 2), .int (bn c.g11 : Nat) (gt 3)] (gp 2))] ++ H)) (l0 : LfAt s.heap (endO c.e0) E0) (l1 : LfAt s.heap (endO c.e1) E1) (hds : IntsAre ds (pre.map Int.ofNat)) (hdu : pre ++ c.due suf i st = c.due w 0 false) (hts : Ts s0.heap s.heap), codeAny Y.x.M A (fC Y.p 11 Lw c1 c2 c3 it) R s := by
  intro suf
  induction suf with
  | nil =>
    intro s hs ks st svt de i ao_t ao at_ ds pre hi1 hat hi I l0 l1 hds hdu hts
    have hlen : ds.length ≤ 6 := by
      rw [ints_len hds, List.length_map]
      have h1 := congrArg List.length hdu
      rw [List.length_append] at h1
      have h2 := due_len c w 0 false
      omega
    have hat2 : w.length ≤ i := List.drop_eq_nil_iff.mp hi
    cases st
    · obtain ⟨K', tK, rK, eK, zK, hK⟩ := endH l0
      have I1 := Inv.pickH (L := [_, _, _, _, _, _, _, _, _, _]) (H := H) [0,1,2,3,4,5,6,7,8,9] (by decide) I
      cases he : c.e0 <;> rw [he] at hK
      · refine go_tail O (by omega) hA (L := [_, _, _, _, _, _, _, _]) (H := [_, _] ++ H) I1 [(E0, .str K' tK :: rK)] (by simp [eK]) (lw_db1_0 Y.p Y.b1 Y.b2 s.heap.objs.size s.toks Lw c1 c2 c3 it hs ks us cl ga ea lo si vd ts_ tf_ nd du ov ht wt svt de (bn false : Nat) gp lp ds ⟨⟨w⟩⟩ E0 E1 g0 g1 E0 g0 at_ (bn false : Nat) 0 (gt 0) tK 0 K' rK 0 ao ao_t)
          ⟨oc_lt (by subst hat; show decide (((i : Nat) : Int) < (w.length : Nat)) = false; exact decide_eq_false (by omega)), oc_len_str (by show w.length ≤ 10000; omega), oc_seq hK, oc_tget (Nat.le_trans zK (by decide)), oc_lget (i := 0) rfl (by decide), trivial⟩ fun s1 I2 T2 _ _ _ => ?_
        have ts := ts_of' (L := [_, _, _, _, _, _, _, _]) (H := [_, _] ++ H) I1 T2
        have I3 := Inv.pickH (L := [_, _, _, _, _, _, _, _, _, _]) (H := H) [0,1,2,3,4,5,6,7,8,9] (by decide) I2
        refine dl_end (hs := hs) (ks := ks) (st := false) (gp := gp) (lp := lp) (gt := gt) O hdd hA I3 ?_ (fun a l h => ts _ _ (hts _ _ h)) K
        have hq : IntsAre ds (List.map Int.ofNat pre) := hds
        rw [← hdu]; simpa [Cf.due, Cf.isEnd, he] using hq
      · refine go_tail O (by omega) hA (L := [_, _, _, _, _, _, _, _]) (H := [_, _] ++ H) I1 [(E0, .str K' tK :: rK)] (by simp [eK]) (lw_db1_1 Y.p Y.b1 Y.b2 s.heap.objs.size s.toks Lw c1 c2 c3 it hs ks us cl ga ea lo si vd ts_ tf_ nd du ov ht wt svt de (bn false : Nat) gp lp ds ⟨⟨w⟩⟩ E0 E1 g0 g1 E0 g0 at_ (bn false : Nat) 0 (gt 0) tK 0 K' rK 0 ao ao_t)
          ⟨oc_lt (by subst hat; show decide (((i : Nat) : Int) < (w.length : Nat)) = false; exact decide_eq_false (by omega)), oc_len_str (by show w.length ≤ 10000; omega), oc_append (by omega), oc_seq hK, oc_tget (Nat.le_trans zK (by decide)), oc_lget (i := 0) rfl (by decide), trivial⟩ fun s1 I2 T2 _ _ _ => ?_
        have ts := ts_of' (L := [_, _, _, _, _, _, _, _]) (H := [_, _] ++ H) I1 T2
        have I3 := Inv.pickH (L := [_, _, _, _, _, _, _, _, _, _]) (H := H) [0,1,2,3,4,5,6,7,8,9] (by decide) I2
        refine dl_end (hs := hs) (ks := ks) (st := false) (gp := gp) (lp := lp) (gt := gt) O hdd hA I3 ?_ (fun a l h => ts _ _ (hts _ _ h)) K
        have hq : IntsAre (ds ++ [.int at_ s.toks]) (List.map Int.ofNat (pre ++ [i])) := by have := ints_snoc (a := at_) (t := s.toks) hds; subst hat; rw [List.map_append]; exact this
        rw [← hdu]; simpa [Cf.due, Cf.isEnd, he] using hq
    · obtain ⟨K', tK, rK, eK, zK, hK⟩ := endH l1
      have I1 := Inv.pickH (L := [_, _, _, _, _, _, _, _, _, _]) (H := H) [0,1,2,3,4,5,6,7,8,9] (by decide) I
      cases he : c.e1 <;> rw [he] at hK
      · refine go_tail O (by omega) hA (L := [_, _, _, _, _, _, _, _]) (H := [_, _] ++ H) I1 [(E1, .str K' tK :: rK)] (by simp [eK]) (lw_db1_0 Y.p Y.b1 Y.b2 s.heap.objs.size s.toks Lw c1 c2 c3 it hs ks us cl ga ea lo si vd ts_ tf_ nd du ov ht wt svt de (bn true : Nat) gp lp ds ⟨⟨w⟩⟩ E0 E1 g0 g1 E1 g1 at_ (bn false : Nat) 0 (gt 0) tK 0 K' rK 0 ao ao_t)
          ⟨oc_lt (by subst hat; show decide (((i : Nat) : Int) < (w.length : Nat)) = false; exact decide_eq_false (by omega)), oc_len_str (by show w.length ≤ 10000; omega), oc_seq hK, oc_tget (Nat.le_trans zK (by decide)), oc_lget (i := 1) rfl (by decide), trivial⟩ fun s1 I2 T2 _ _ _ => ?_
        have ts := ts_of' (L := [_, _, _, _, _, _, _, _]) (H := [_, _] ++ H) I1 T2
        have I3 := Inv.pickH (L := [_, _, _, _, _, _, _, _, _, _]) (H := H) [0,1,2,3,4,5,6,7,8,9] (by decide) I2
        refine dl_end (hs := hs) (ks := ks) (st := true) (gp := gp) (lp := lp) (gt := gt) O hdd hA I3 ?_ (fun a l h => ts _ _ (hts _ _ h)) K
        have hq : IntsAre ds (List.map Int.ofNat pre) := hds
        rw [← hdu]; simpa [Cf.due, Cf.isEnd, he] using hq
      · refine go_tail O (by omega) hA (L := [_, _, _, _, _, _, _, _]) (H := [_, _] ++ H) I1 [(E1, .str K' tK :: rK)] (by simp [eK]) (lw_db1_1 Y.p Y.b1 Y.b2 s.heap.objs.size s.toks Lw c1 c2 c3 it hs ks us cl ga ea lo si vd ts_ tf_ nd du ov ht wt svt de (bn true : Nat) gp lp ds ⟨⟨w⟩⟩ E0 E1 g0 g1 E1 g1 at_ (bn false : Nat) 0 (gt 0) tK 0 K' rK 0 ao ao_t)
          ⟨oc_lt (by subst hat; show decide (((i : Nat) : Int) < (w.length : Nat)) = false; exact decide_eq_false (by omega)), oc_len_str (by show w.length ≤ 10000; omega), oc_append (by omega), oc_seq hK, oc_tget (Nat.le_trans zK (by decide)), oc_lget (i := 1) rfl (by decide), trivial⟩ fun s1 I2 T2 _ _ _ => ?_
        have ts := ts_of' (L := [_, _, _, _, _, _, _, _]) (H := [_, _] ++ H) I1 T2
        have I3 := Inv.pickH (L := [_, _, _, _, _, _, _, _, _, _]) (H := H) [0,1,2,3,4,5,6,7,8,9] (by decide) I2
        refine dl_end (hs := hs) (ks := ks) (st := true) (gp := gp) (lp := lp) (gt := gt) O hdd hA I3 ?_ (fun a l h => ts _ _ (hts _ _ h)) K
        have hq : IntsAre (ds ++ [.int at_ s.toks]) (List.map Int.ofNat (pre ++ [i])) := by have := ints_snoc (a := at_) (t := s.toks) hds; subst hat; rw [List.map_append]; exact this
        rw [← hdu]; simpa [Cf.due, Cf.isEnd, he] using hq
  | cons ch rest ih =>
    intro s hs ks st svt de i ao_t ao at_ ds pre hi1 hat hi I l0 l1 hds hdu hts
    have hlen : ds.length ≤ 6 := by
      rw [ints_len hds, List.length_map]
      have h1 := congrArg List.length hdu
      rw [List.length_append] at h1
      have h2 := due_len c w 0 false
      omega
    have hat2 : i < w.length := by
      have := congrArg List.length hi
      rw [List.length_drop, List.length_cons] at this
      omega
    have hget : w[i]? = some ch := by
      have := congrArg (fun l => l[0]?) hi
      simpa using this
    have hrest : w.drop (i + 1) = rest := by
      rw [← List.drop_drop, hi]; rfl
    have hr : rest.length = 0 ∨ rest.length = 1 ∨ rest.length = 2 ∨ rest.length = 3 := by
      have := congrArg List.length hrest
      rw [List.length_drop] at this
      omega
    obtain ⟨lb, rfl⟩ : ∃ lb, ch = cond lb 98 97 := by
      rcases hch ch (List.mem_of_getElem? hget) with rfl | rfl
      · exact ⟨false, rfl⟩
      · exact ⟨true, rfl⟩
    cases st
    · obtain ⟨K', tK, rK, eK, zK, hK⟩ := endH l0
      have I1 := Inv.pickH (L := [_, _, _, _, _, _, _, _, _, _]) (H := H) [0,1,2,3,4,5,6,8,7,9] (by decide) I
      cases he : c.e0 <;> rw [he] at hK
      · refine go_tail O (by omega) hA (L := [_, _, _, _, _, _, _, _, _]) (H := [_] ++ H) I1 [(E0, .str K' tK :: rK)] (by simp [eK]) (lw_db2_0 Y.p Y.b1 Y.b2 s.heap.objs.size s.toks Lw c1 c2 c3 it hs ks us cl ga ea lo si vd ts_ tf_ nd du ov ht wt svt de (bn false : Nat) gp lp ds ⟨⟨w⟩⟩ E0 E1 g0 g1 E0 g0 at_ (bn (cond lb c.g01 c.g00) : Nat) 0 (cond lb (gt 1) (gt 0)) tK 0 K' rK 0 ao ao_t (bn c.g00 : Nat) (bn c.g01 : Nat) (gt 0) (gt 1) rest.length lb hr)
          ⟨oc_lget (i := cond lb 1 0) (by cases lb <;> rfl) (by cases lb <;> decide), oc_item (by subst hat; simp; omega) (by subst hat; exact item_ok hget (by omega)), oc_lget (i := 0) rfl (by decide), oc_lt (by subst hat; show decide (((i : Nat) : Int) < (w.length : Nat)) = true; simp; omega), oc_len_str (by show w.length ≤ 10000; omega), oc_seq hK, oc_tget (Nat.le_trans zK (by decide)), oc_lget (i := 0) rfl (by decide), trivial⟩ fun s1 I2 T2 _ _ _ => ?_
        have ts := ts_of' (L := [_, _, _, _, _, _, _, _, _]) (H := [_] ++ H) I1 T2
        have I3 := Inv.pickH (L := [_, _, _, _, _, _, _, _, _, _]) (H := H) [0,1,2,3,4,5,6,8,7,9] (by decide) I2
        exact ih (hs := hs) (ks := ks) (st := (cond lb c.g01 c.g00)) (pre := pre) (i := i + 1) (at_ := at_ + 1) (by omega) (by rw [hat]; simp) hrest I3 (l0.mono ts) (l1.mono ts) (hds) (by rw [← hdu]; cases lb <;> simp [Cf.due, Cf.isEnd, Cf.goal, he]) (fun a l h => ts _ _ (hts _ _ h))
      · refine go_tail O (by omega) hA (L := [_, _, _, _, _, _, _, _, _]) (H := [_] ++ H) I1 [(E0, .str K' tK :: rK)] (by simp [eK]) (lw_db2_1 Y.p Y.b1 Y.b2 s.heap.objs.size s.toks Lw c1 c2 c3 it hs ks us cl ga ea lo si vd ts_ tf_ nd du ov ht wt svt de (bn false : Nat) gp lp ds ⟨⟨w⟩⟩ E0 E1 g0 g1 E0 g0 at_ (bn (cond lb c.g01 c.g00) : Nat) 0 (cond lb (gt 1) (gt 0)) tK 0 K' rK 0 ao ao_t (bn c.g00 : Nat) (bn c.g01 : Nat) (gt 0) (gt 1) rest.length lb hr)
          ⟨oc_lget (i := cond lb 1 0) (by cases lb <;> rfl) (by cases lb <;> decide), oc_item (by subst hat; simp; omega) (by subst hat; exact item_ok hget (by omega)), oc_lget (i := 0) rfl (by decide), oc_lt (by subst hat; show decide (((i : Nat) : Int) < (w.length : Nat)) = true; simp; omega), oc_len_str (by show w.length ≤ 10000; omega), oc_append (by omega), oc_seq hK, oc_tget (Nat.le_trans zK (by decide)), oc_lget (i := 0) rfl (by decide), trivial⟩ fun s1 I2 T2 _ _ _ => ?_
        have ts := ts_of' (L := [_, _, _, _, _, _, _, _, _]) (H := [_] ++ H) I1 T2
        have I3 := Inv.pickH (L := [_, _, _, _, _, _, _, _, _, _]) (H := H) [0,1,2,3,4,5,6,8,7,9] (by decide) I2
        exact ih (hs := hs) (ks := ks) (st := (cond lb c.g01 c.g00)) (pre := (pre ++ [i])) (i := i + 1) (at_ := at_ + 1) (by omega) (by rw [hat]; simp) hrest I3 (l0.mono ts) (l1.mono ts) (by have := ints_snoc (a := at_) (t := s.toks) hds; subst hat; rw [List.map_append]; exact this) (by rw [← hdu]; cases lb <;> simp [Cf.due, Cf.isEnd, Cf.goal, he]) (fun a l h => ts _ _ (hts _ _ h))
    · obtain ⟨K', tK, rK, eK, zK, hK⟩ := endH l1
      have I1 := Inv.pickH (L := [_, _, _, _, _, _, _, _, _, _]) (H := H) [0,1,2,3,4,5,6,9,7,8] (by decide) I
      cases he : c.e1 <;> rw [he] at hK
      · refine go_tail O (by omega) hA (L := [_, _, _, _, _, _, _, _, _]) (H := [_] ++ H) I1 [(E1, .str K' tK :: rK)] (by simp [eK]) (lw_db2_0 Y.p Y.b1 Y.b2 s.heap.objs.size s.toks Lw c1 c2 c3 it hs ks us cl ga ea lo si vd ts_ tf_ nd du ov ht wt svt de (bn true : Nat) (fun i => [gp 0, gp 2].getD i 0) lp ds ⟨⟨w⟩⟩ E0 E1 g0 g1 E1 g1 at_ (bn (cond lb c.g11 c.g10) : Nat) 0 (cond lb (gt 3) (gt 2)) tK 0 K' rK 0 ao ao_t (bn c.g10 : Nat) (bn c.g11 : Nat) (gt 2) (gt 3) rest.length lb hr)
          ⟨oc_lget (i := cond lb 1 0) (by cases lb <;> rfl) (by cases lb <;> decide), oc_item (by subst hat; simp; omega) (by subst hat; exact item_ok hget (by omega)), oc_lget (i := 1) rfl (by decide), oc_lt (by subst hat; show decide (((i : Nat) : Int) < (w.length : Nat)) = true; simp; omega), oc_len_str (by show w.length ≤ 10000; omega), oc_seq hK, oc_tget (Nat.le_trans zK (by decide)), oc_lget (i := 1) rfl (by decide), trivial⟩ fun s1 I2 T2 _ _ _ => ?_
        have ts := ts_of' (L := [_, _, _, _, _, _, _, _, _]) (H := [_] ++ H) I1 T2
        have I3 := Inv.pickH (L := [_, _, _, _, _, _, _, _, _, _]) (H := H) [0,1,2,3,4,5,6,8,9,7] (by decide) I2
        exact ih (hs := hs) (ks := ks) (st := (cond lb c.g11 c.g10)) (pre := pre) (i := i + 1) (at_ := at_ + 1) (by omega) (by rw [hat]; simp) hrest I3 (l0.mono ts) (l1.mono ts) (hds) (by rw [← hdu]; cases lb <;> simp [Cf.due, Cf.isEnd, Cf.goal, he]) (fun a l h => ts _ _ (hts _ _ h))
      · refine go_tail O (by omega) hA (L := [_, _, _, _, _, _, _, _, _]) (H := [_] ++ H) I1 [(E1, .str K' tK :: rK)] (by simp [eK]) (lw_db2_1 Y.p Y.b1 Y.b2 s.heap.objs.size s.toks Lw c1 c2 c3 it hs ks us cl ga ea lo si vd ts_ tf_ nd du ov ht wt svt de (bn true : Nat) (fun i => [gp 0, gp 2].getD i 0) lp ds ⟨⟨w⟩⟩ E0 E1 g0 g1 E1 g1 at_ (bn (cond lb c.g11 c.g10) : Nat) 0 (cond lb (gt 3) (gt 2)) tK 0 K' rK 0 ao ao_t (bn c.g10 : Nat) (bn c.g11 : Nat) (gt 2) (gt 3) rest.length lb hr)
          ⟨oc_lget (i := cond lb 1 0) (by cases lb <;> rfl) (by cases lb <;> decide), oc_item (by subst hat; simp; omega) (by subst hat; exact item_ok hget (by omega)), oc_lget (i := 1) rfl (by decide), oc_lt (by subst hat; show decide (((i : Nat) : Int) < (w.length : Nat)) = true; simp; omega), oc_len_str (by show w.length ≤ 10000; omega), oc_append (by omega), oc_seq hK, oc_tget (Nat.le_trans zK (by decide)), oc_lget (i := 1) rfl (by decide), trivial⟩ fun s1 I2 T2 _ _ _ => ?_
        have ts := ts_of' (L := [_, _, _, _, _, _, _, _, _]) (H := [_] ++ H) I1 T2
        have I3 := Inv.pickH (L := [_, _, _, _, _, _, _, _, _, _]) (H := H) [0,1,2,3,4,5,6,8,9,7] (by decide) I2
        exact ih (hs := hs) (ks := ks) (st := (cond lb c.g11 c.g10)) (pre := (pre ++ [i])) (i := i + 1) (at_ := at_ + 1) (by omega) (by rw [hat]; simp) hrest I3 (l0.mono ts) (l1.mono ts) (by have := ints_snoc (a := at_) (t := s.toks) hds; subst hat; rw [List.map_append]; exact this) (by rw [← hdu]; cases lb <;> simp [Cf.due, Cf.isEnd, Cf.goal, he]) (fun a l h => ts _ _ (hts _ _ h))
theorem df (O : Y.x.Ok) (hdd : d ≤ 400) (hA : AB d u A) (hz : w.length ≤ 5) (hch : ∀ x ∈ w, x = 97 ∨ x = 98) (K : DK Y s0 H R c w Lw c1 c2 c3 us cl ga ea lo si vd ts_ tf_ nd du ov ht wt) : ∀ (suf : List Nat) {s : Shared} {hs : Nat → Int} {ks : Nat → Nat} {st : Bool} {svt de : Nat} {ds : List Value} {pre : List Nat} (hi : w.drop 0 = suf) (I : Inv Y.x s ([⟨Lw, { cls := .type "frame", data := .dict ⟨[eh hs ks 0 n_script (.ref 660), eh hs ks 1 n_usual (.ref us), eh hs ks 2 n_ends (.ref ea), ⟨hs 3, sv n_word (ks 3), .str ⟨⟨w⟩⟩ wt⟩, eh hs ks 4 n_lots (.ref lo), eh hs ks 5 n_signs (.ref si), eh hs ks 6 n_values (.ref vd), eh hs ks 7 n_to_second (.ref ts_), eh hs ks 8 n_to_first (.ref tf_), eh hs ks 9 n_node (.ref nd), eh hs ks 10 n_state (.int (bn st : Nat) svt), eh hs ks 11 n_due (.ref du), eh hs ks 12 n_over (.ref ov)]⟩ 13 }, true⟩, et c1 (cel (some (.ref cl))), et c2 (cel (some (.int 1 ht))), et c3 (cel (some (.ref ga))), et ea (lst [.ref E0, .ref E1] (lp 3)), et ga (lst [.ref g0, .ref g1] (gp 0)), et du (lst ds de), et it (ri [.int 0 0, .int ((suf.length + 1 : Nat)) 0, .int 1 0]), et g0 (lst [.int (bn c.g00 : Nat) (gt 0), .int (bn c.g01 : Nat) (gt 1)] (gp 1)), et g1 (lst [.int (bn c.g10 : Nat) (gt 2), .int (bn c.g11 : Nat) (gt 3)] (gp 2))] ++ H)) (l0 : LfAt s.heap (endO c.e0) E0) (l1 : LfAt s.heap (endO c.e1) E1) (hds : IntsAre ds (pre.map Int.ofNat)) (hdu : pre ++ c.due suf 0 st = c.due w 0 false) (hts : Ts s0.heap s.heap), codeAny Y.x.M A (fC Y.p 11 Lw c1 c2 c3 it) R s := by
  intro suf
  cases suf with
  | nil =>
    intro s hs ks st svt de ds pre hi I l0 l1 hds hdu hts
    have hlen : ds.length ≤ 6 := by
      rw [ints_len hds, List.length_map]
      have h1 := congrArg List.length hdu
      rw [List.length_append] at h1
      have h2 := due_len c w 0 false
      omega
    have hat2 : w.length ≤ 0 := List.drop_eq_nil_iff.mp hi
    cases st
    · obtain ⟨K', tK, rK, eK, zK, hK⟩ := endH l0
      have I1 := Inv.pickH (L := [_, _, _, _, _, _, _, _, _, _]) (H := H) [0,1,2,3,4,5,6,7,8,9] (by decide) I
      cases he : c.e0 <;> rw [he] at hK
      · refine go_tail O (by omega) hA (L := [_, _, _, _, _, _, _, _]) (H := [_, _] ++ H) I1 [(E0, .str K' tK :: rK)] (by simp [eK]) (lw_da1_0 Y.p Y.b1 Y.b2 s.heap.objs.size s.toks Lw c1 c2 c3 it hs ks us cl ga ea lo si vd ts_ tf_ nd du ov ht wt svt de (bn false : Nat) gp lp ds ⟨⟨w⟩⟩ E0 E1 g0 g1 E0 g0 0 (bn false : Nat) 0 (gt 0) tK 0 K' rK 0)
          ⟨oc_lt (by show decide (((0 : Nat) : Int) < (w.length : Nat)) = false; exact decide_eq_false (by omega)), oc_len_str (by show w.length ≤ 10000; omega), oc_seq hK, oc_tget (Nat.le_trans zK (by decide)), oc_lget (i := 0) rfl (by decide), trivial⟩ fun s1 I2 T2 _ _ _ => ?_
        have ts := ts_of' (L := [_, _, _, _, _, _, _, _]) (H := [_, _] ++ H) I1 T2
        have I3 := Inv.pickH (L := [_, _, _, _, _, _, _, _, _, _]) (H := H) [0,1,2,3,4,5,6,7,8,9] (by decide) I2
        refine dl_end (hs := (fun i => [hs 0, hs 1, hs 2, hs 3, hs 4, hs 5, hs 6, hs 7, hs 8, hs 9, hs 10, hs 11, hs 12, kh Y.p [97, 116]].getD i 0)) (ks := (fun i => [ks 0, ks 1, ks 2, ks 3, ks 4, ks 5, ks 6, ks 7, ks 8, ks 9, ks 10, ks 11, ks 12, s.toks + 1].getD i 0)) (st := false) (gp := gp) (lp := lp) (gt := gt) O hdd hA I3 ?_ (fun a l h => ts _ _ (hts _ _ h)) K
        have hq : IntsAre ds (List.map Int.ofNat pre) := hds
        rw [← hdu]; simpa [Cf.due, Cf.isEnd, he] using hq
      · refine go_tail O (by omega) hA (L := [_, _, _, _, _, _, _, _]) (H := [_, _] ++ H) I1 [(E0, .str K' tK :: rK)] (by simp [eK]) (lw_da1_1 Y.p Y.b1 Y.b2 s.heap.objs.size s.toks Lw c1 c2 c3 it hs ks us cl ga ea lo si vd ts_ tf_ nd du ov ht wt svt de (bn false : Nat) gp lp ds ⟨⟨w⟩⟩ E0 E1 g0 g1 E0 g0 0 (bn false : Nat) 0 (gt 0) tK 0 K' rK 0)
          ⟨oc_lt (by show decide (((0 : Nat) : Int) < (w.length : Nat)) = false; exact decide_eq_false (by omega)), oc_len_str (by show w.length ≤ 10000; omega), oc_append (by omega), oc_seq hK, oc_tget (Nat.le_trans zK (by decide)), oc_lget (i := 0) rfl (by decide), trivial⟩ fun s1 I2 T2 _ _ _ => ?_
        have ts := ts_of' (L := [_, _, _, _, _, _, _, _]) (H := [_, _] ++ H) I1 T2
        have I3 := Inv.pickH (L := [_, _, _, _, _, _, _, _, _, _]) (H := H) [0,1,2,3,4,5,6,7,8,9] (by decide) I2
        refine dl_end (hs := (fun i => [hs 0, hs 1, hs 2, hs 3, hs 4, hs 5, hs 6, hs 7, hs 8, hs 9, hs 10, hs 11, hs 12, kh Y.p [97, 116]].getD i 0)) (ks := (fun i => [ks 0, ks 1, ks 2, ks 3, ks 4, ks 5, ks 6, ks 7, ks 8, ks 9, ks 10, ks 11, ks 12, s.toks + 1].getD i 0)) (st := false) (gp := gp) (lp := lp) (gt := gt) O hdd hA I3 ?_ (fun a l h => ts _ _ (hts _ _ h)) K
        have hq : IntsAre (ds ++ [.int 0 s.toks]) (List.map Int.ofNat (pre ++ [0])) := by have := ints_snoc (a := 0) (t := s.toks) hds; rw [List.map_append]; exact this
        rw [← hdu]; simpa [Cf.due, Cf.isEnd, he] using hq
    · obtain ⟨K', tK, rK, eK, zK, hK⟩ := endH l1
      have I1 := Inv.pickH (L := [_, _, _, _, _, _, _, _, _, _]) (H := H) [0,1,2,3,4,5,6,7,8,9] (by decide) I
      cases he : c.e1 <;> rw [he] at hK
      · refine go_tail O (by omega) hA (L := [_, _, _, _, _, _, _, _]) (H := [_, _] ++ H) I1 [(E1, .str K' tK :: rK)] (by simp [eK]) (lw_da1_0 Y.p Y.b1 Y.b2 s.heap.objs.size s.toks Lw c1 c2 c3 it hs ks us cl ga ea lo si vd ts_ tf_ nd du ov ht wt svt de (bn true : Nat) gp lp ds ⟨⟨w⟩⟩ E0 E1 g0 g1 E1 g1 0 (bn false : Nat) 0 (gt 0) tK 0 K' rK 0)
          ⟨oc_lt (by show decide (((0 : Nat) : Int) < (w.length : Nat)) = false; exact decide_eq_false (by omega)), oc_len_str (by show w.length ≤ 10000; omega), oc_seq hK, oc_tget (Nat.le_trans zK (by decide)), oc_lget (i := 1) rfl (by decide), trivial⟩ fun s1 I2 T2 _ _ _ => ?_
        have ts := ts_of' (L := [_, _, _, _, _, _, _, _]) (H := [_, _] ++ H) I1 T2
        have I3 := Inv.pickH (L := [_, _, _, _, _, _, _, _, _, _]) (H := H) [0,1,2,3,4,5,6,7,8,9] (by decide) I2
        refine dl_end (hs := (fun i => [hs 0, hs 1, hs 2, hs 3, hs 4, hs 5, hs 6, hs 7, hs 8, hs 9, hs 10, hs 11, hs 12, kh Y.p [97, 116]].getD i 0)) (ks := (fun i => [ks 0, ks 1, ks 2, ks 3, ks 4, ks 5, ks 6, ks 7, ks 8, ks 9, ks 10, ks 11, ks 12, s.toks + 1].getD i 0)) (st := true) (gp := gp) (lp := lp) (gt := gt) O hdd hA I3 ?_ (fun a l h => ts _ _ (hts _ _ h)) K
        have hq : IntsAre ds (List.map Int.ofNat pre) := hds
        rw [← hdu]; simpa [Cf.due, Cf.isEnd, he] using hq
      · refine go_tail O (by omega) hA (L := [_, _, _, _, _, _, _, _]) (H := [_, _] ++ H) I1 [(E1, .str K' tK :: rK)] (by simp [eK]) (lw_da1_1 Y.p Y.b1 Y.b2 s.heap.objs.size s.toks Lw c1 c2 c3 it hs ks us cl ga ea lo si vd ts_ tf_ nd du ov ht wt svt de (bn true : Nat) gp lp ds ⟨⟨w⟩⟩ E0 E1 g0 g1 E1 g1 0 (bn false : Nat) 0 (gt 0) tK 0 K' rK 0)
          ⟨oc_lt (by show decide (((0 : Nat) : Int) < (w.length : Nat)) = false; exact decide_eq_false (by omega)), oc_len_str (by show w.length ≤ 10000; omega), oc_append (by omega), oc_seq hK, oc_tget (Nat.le_trans zK (by decide)), oc_lget (i := 1) rfl (by decide), trivial⟩ fun s1 I2 T2 _ _ _ => ?_
        have ts := ts_of' (L := [_, _, _, _, _, _, _, _]) (H := [_, _] ++ H) I1 T2
        have I3 := Inv.pickH (L := [_, _, _, _, _, _, _, _, _, _]) (H := H) [0,1,2,3,4,5,6,7,8,9] (by decide) I2
        refine dl_end (hs := (fun i => [hs 0, hs 1, hs 2, hs 3, hs 4, hs 5, hs 6, hs 7, hs 8, hs 9, hs 10, hs 11, hs 12, kh Y.p [97, 116]].getD i 0)) (ks := (fun i => [ks 0, ks 1, ks 2, ks 3, ks 4, ks 5, ks 6, ks 7, ks 8, ks 9, ks 10, ks 11, ks 12, s.toks + 1].getD i 0)) (st := true) (gp := gp) (lp := lp) (gt := gt) O hdd hA I3 ?_ (fun a l h => ts _ _ (hts _ _ h)) K
        have hq : IntsAre (ds ++ [.int 0 s.toks]) (List.map Int.ofNat (pre ++ [0])) := by have := ints_snoc (a := 0) (t := s.toks) hds; rw [List.map_append]; exact this
        rw [← hdu]; simpa [Cf.due, Cf.isEnd, he] using hq
  | cons ch rest =>
    intro s hs ks st svt de ds pre hi I l0 l1 hds hdu hts
    have hlen : ds.length ≤ 6 := by
      rw [ints_len hds, List.length_map]
      have h1 := congrArg List.length hdu
      rw [List.length_append] at h1
      have h2 := due_len c w 0 false
      omega
    have hat2 : 0 < w.length := by
      have := congrArg List.length hi
      rw [List.length_drop, List.length_cons] at this
      omega
    have hget : w[0]? = some ch := by
      have := congrArg (fun l => l[0]?) hi
      simpa using this
    have hrest : w.drop (0 + 1) = rest := by
      rw [← List.drop_drop, hi]; rfl
    have hr : rest.length = 0 ∨ rest.length = 1 ∨ rest.length = 2 ∨ rest.length = 3 ∨ rest.length = 4 := by
      have := congrArg List.length hrest
      rw [List.length_drop] at this
      omega
    obtain ⟨lb, rfl⟩ : ∃ lb, ch = cond lb 98 97 := by
      rcases hch ch (List.mem_of_getElem? hget) with rfl | rfl
      · exact ⟨false, rfl⟩
      · exact ⟨true, rfl⟩
    cases st
    · obtain ⟨K', tK, rK, eK, zK, hK⟩ := endH l0
      have I1 := Inv.pickH (L := [_, _, _, _, _, _, _, _, _, _]) (H := H) [0,1,2,3,4,5,6,8,7,9] (by decide) I
      cases he : c.e0 <;> rw [he] at hK
      · refine go_tail O (by omega) hA (L := [_, _, _, _, _, _, _, _, _]) (H := [_] ++ H) I1 [(E0, .str K' tK :: rK)] (by simp [eK]) (lw_da2_0 Y.p Y.b1 Y.b2 s.heap.objs.size s.toks Lw c1 c2 c3 it hs ks us cl ga ea lo si vd ts_ tf_ nd du ov ht wt svt de (bn false : Nat) gp lp ds ⟨⟨w⟩⟩ E0 E1 g0 g1 E0 g0 0 (bn (cond lb c.g01 c.g00) : Nat) 0 (cond lb (gt 1) (gt 0)) tK 0 K' rK 0 (bn c.g00 : Nat) (bn c.g01 : Nat) (gt 0) (gt 1) rest.length lb hr)
          ⟨oc_lget (i := cond lb 1 0) (by cases lb <;> rfl) (by cases lb <;> decide), oc_item (by decide) (by exact item_ok hget (by omega)), oc_lget (i := 0) rfl (by decide), oc_lt (by show decide (((0 : Nat) : Int) < (w.length : Nat)) = true; simp; omega), oc_len_str (by show w.length ≤ 10000; omega), oc_seq hK, oc_tget (Nat.le_trans zK (by decide)), oc_lget (i := 0) rfl (by decide), trivial⟩ fun s1 I2 T2 _ _ _ => ?_
        have ts := ts_of' (L := [_, _, _, _, _, _, _, _, _]) (H := [_] ++ H) I1 T2
        have I3 := Inv.pickH (L := [_, _, _, _, _, _, _, _, _, _]) (H := H) [0,1,2,3,4,5,6,8,7,9] (by decide) I2
        exact dl (gp := gp) (lp := lp) (gt := gt) O hdd hA hz hch K rest (hs := (fun i => [hs 0, hs 1, hs 2, hs 3, hs 4, hs 5, hs 6, hs 7, hs 8, hs 9, hs 10, hs 11, hs 12, kh Y.p [97, 116]].getD i 0)) (ks := (fun i => [ks 0, ks 1, ks 2, ks 3, ks 4, ks 5, ks 6, ks 7, ks 8, ks 9, ks 10, ks 11, ks 12, s.toks + 1].getD i 0)) (st := (cond lb c.g01 c.g00)) (pre := pre) (i := 0 + 1) (at_ := 1) (by omega) (by simp) hrest I3 (l0.mono ts) (l1.mono ts) (hds) (by rw [← hdu]; cases lb <;> simp [Cf.due, Cf.isEnd, Cf.goal, he]) (fun a l h => ts _ _ (hts _ _ h))
      · refine go_tail O (by omega) hA (L := [_, _, _, _, _, _, _, _, _]) (H := [_] ++ H) I1 [(E0, .str K' tK :: rK)] (by simp [eK]) (lw_da2_1 Y.p Y.b1 Y.b2 s.heap.objs.size s.toks Lw c1 c2 c3 it hs ks us cl ga ea lo si vd ts_ tf_ nd du ov ht wt svt de (bn false : Nat) gp lp ds ⟨⟨w⟩⟩ E0 E1 g0 g1 E0 g0 0 (bn (cond lb c.g01 c.g00) : Nat) 0 (cond lb (gt 1) (gt 0)) tK 0 K' rK 0 (bn c.g00 : Nat) (bn c.g01 : Nat) (gt 0) (gt 1) rest.length lb hr)
          ⟨oc_lget (i := cond lb 1 0) (by cases lb <;> rfl) (by cases lb <;> decide), oc_item (by decide) (by exact item_ok hget (by omega)), oc_lget (i := 0) rfl (by decide), oc_lt (by show decide (((0 : Nat) : Int) < (w.length : Nat)) = true; simp; omega), oc_len_str (by show w.length ≤ 10000; omega), oc_append (by omega), oc_seq hK, oc_tget (Nat.le_trans zK (by decide)), oc_lget (i := 0) rfl (by decide), trivial⟩ fun s1 I2 T2 _ _ _ => ?_
        have ts := ts_of' (L := [_, _, _, _, _, _, _, _, _]) (H := [_] ++ H) I1 T2
        have I3 := Inv.pickH (L := [_, _, _, _, _, _, _, _, _, _]) (H := H) [0,1,2,3,4,5,6,8,7,9] (by decide) I2
        exact dl (gp := gp) (lp := lp) (gt := gt) O hdd hA hz hch K rest (hs := (fun i => [hs 0, hs 1, hs 2, hs 3, hs 4, hs 5, hs 6, hs 7, hs 8, hs 9, hs 10, hs 11, hs 12, kh Y.p [97, 116]].getD i 0)) (ks := (fun i => [ks 0, ks 1, ks 2, ks 3, ks 4, ks 5, ks 6, ks 7, ks 8, ks 9, ks 10, ks 11, ks 12, s.toks + 1].getD i 0)) (st := (cond lb c.g01 c.g00)) (pre := (pre ++ [0])) (i := 0 + 1) (at_ := 1) (by omega) (by simp) hrest I3 (l0.mono ts) (l1.mono ts) (by have := ints_snoc (a := 0) (t := s.toks) hds; rw [List.map_append]; exact this) (by rw [← hdu]; cases lb <;> simp [Cf.due, Cf.isEnd, Cf.goal, he]) (fun a l h => ts _ _ (hts _ _ h))
    · obtain ⟨K', tK, rK, eK, zK, hK⟩ := endH l1
      have I1 := Inv.pickH (L := [_, _, _, _, _, _, _, _, _, _]) (H := H) [0,1,2,3,4,5,6,9,7,8] (by decide) I
      cases he : c.e1 <;> rw [he] at hK
      · refine go_tail O (by omega) hA (L := [_, _, _, _, _, _, _, _, _]) (H := [_] ++ H) I1 [(E1, .str K' tK :: rK)] (by simp [eK]) (lw_da2_0 Y.p Y.b1 Y.b2 s.heap.objs.size s.toks Lw c1 c2 c3 it hs ks us cl ga ea lo si vd ts_ tf_ nd du ov ht wt svt de (bn true : Nat) (fun i => [gp 0, gp 2].getD i 0) lp ds ⟨⟨w⟩⟩ E0 E1 g0 g1 E1 g1 0 (bn (cond lb c.g11 c.g10) : Nat) 0 (cond lb (gt 3) (gt 2)) tK 0 K' rK 0 (bn c.g10 : Nat) (bn c.g11 : Nat) (gt 2) (gt 3) rest.length lb hr)
          ⟨oc_lget (i := cond lb 1 0) (by cases lb <;> rfl) (by cases lb <;> decide), oc_item (by decide) (by exact item_ok hget (by omega)), oc_lget (i := 1) rfl (by decide), oc_lt (by show decide (((0 : Nat) : Int) < (w.length : Nat)) = true; simp; omega), oc_len_str (by show w.length ≤ 10000; omega), oc_seq hK, oc_tget (Nat.le_trans zK (by decide)), oc_lget (i := 1) rfl (by decide), trivial⟩ fun s1 I2 T2 _ _ _ => ?_
        have ts := ts_of' (L := [_, _, _, _, _, _, _, _, _]) (H := [_] ++ H) I1 T2
        have I3 := Inv.pickH (L := [_, _, _, _, _, _, _, _, _, _]) (H := H) [0,1,2,3,4,5,6,8,9,7] (by decide) I2
        exact dl (gp := gp) (lp := lp) (gt := gt) O hdd hA hz hch K rest (hs := (fun i => [hs 0, hs 1, hs 2, hs 3, hs 4, hs 5, hs 6, hs 7, hs 8, hs 9, hs 10, hs 11, hs 12, kh Y.p [97, 116]].getD i 0)) (ks := (fun i => [ks 0, ks 1, ks 2, ks 3, ks 4, ks 5, ks 6, ks 7, ks 8, ks 9, ks 10, ks 11, ks 12, s.toks + 1].getD i 0)) (st := (cond lb c.g11 c.g10)) (pre := pre) (i := 0 + 1) (at_ := 1) (by omega) (by simp) hrest I3 (l0.mono ts) (l1.mono ts) (hds) (by rw [← hdu]; cases lb <;> simp [Cf.due, Cf.isEnd, Cf.goal, he]) (fun a l h => ts _ _ (hts _ _ h))
      · refine go_tail O (by omega) hA (L := [_, _, _, _, _, _, _, _, _]) (H := [_] ++ H) I1 [(E1, .str K' tK :: rK)] (by simp [eK]) (lw_da2_1 Y.p Y.b1 Y.b2 s.heap.objs.size s.toks Lw c1 c2 c3 it hs ks us cl ga ea lo si vd ts_ tf_ nd du ov ht wt svt de (bn true : Nat) (fun i => [gp 0, gp 2].getD i 0) lp ds ⟨⟨w⟩⟩ E0 E1 g0 g1 E1 g1 0 (bn (cond lb c.g11 c.g10) : Nat) 0 (cond lb (gt 3) (gt 2)) tK 0 K' rK 0 (bn c.g10 : Nat) (bn c.g11 : Nat) (gt 2) (gt 3) rest.length lb hr)
          ⟨oc_lget (i := cond lb 1 0) (by cases lb <;> rfl) (by cases lb <;> decide), oc_item (by decide) (by exact item_ok hget (by omega)), oc_lget (i := 1) rfl (by decide), oc_lt (by show decide (((0 : Nat) : Int) < (w.length : Nat)) = true; simp; omega), oc_len_str (by show w.length ≤ 10000; omega), oc_append (by omega), oc_seq hK, oc_tget (Nat.le_trans zK (by decide)), oc_lget (i := 1) rfl (by decide), trivial⟩ fun s1 I2 T2 _ _ _ => ?_
        have ts := ts_of' (L := [_, _, _, _, _, _, _, _, _]) (H := [_] ++ H) I1 T2
        have I3 := Inv.pickH (L := [_, _, _, _, _, _, _, _, _, _]) (H := H) [0,1,2,3,4,5,6,8,9,7] (by decide) I2
        exact dl (gp := gp) (lp := lp) (gt := gt) O hdd hA hz hch K rest (hs := (fun i => [hs 0, hs 1, hs 2, hs 3, hs 4, hs 5, hs 6, hs 7, hs 8, hs 9, hs 10, hs 11, hs 12, kh Y.p [97, 116]].getD i 0)) (ks := (fun i => [ks 0, ks 1, ks 2, ks 3, ks 4, ks 5, ks 6, ks 7, ks 8, ks 9, ks 10, ks 11, ks 12, s.toks + 1].getD i 0)) (st := (cond lb c.g11 c.g10)) (pre := (pre ++ [0])) (i := 0 + 1) (at_ := 1) (by omega) (by simp) hrest I3 (l0.mono ts) (l1.mono ts) (by have := ints_snoc (a := 0) (t := s.toks) hds; rw [List.map_append]; exact this) (by rw [← hdu]; cases lb <;> simp [Cf.due, Cf.isEnd, Cf.goal, he]) (fun a l h => ts _ _ (hts _ _ h))
end
end
section
open PySem PySem.W PySem.W.X PySem.Calls PySem.Spec PyProof.Rows
theorem lot_nd {h : Heap} {a : Addr} {x y b : Bool} (l : LfAt h (lotO x y b) a) (F : TF) : NdAt F h (lotN x y b) a := by
  cases x <;> cases y <;> cases b <;> exact l
theorem end_nd {h : Heap} {a : Addr} {e : Bool} (l : LfAt h (endO e) a) (F : TF) : NdAt F h (endN e) a := by
  cases e <;> exact l
theorem lot_isLot (x y b : Bool) : (lotO x y b).isLot := by cases x <;> cases y <;> cases b <;> exact trivial
theorem end_isFin (e : Bool) : (endO e).isFin := by cases e <;> exact trivial
theorem due_back0 (p : Params) (b1 b2 : Bool) (n t : Nat) (Lw c1 c2 c3 : Nat) (hs : Nat → Int) (ks : Nat → Nat) (us : Nat) (cl ga ea lo si vd ts_ tf_ nd du ov ht wt svt de : Nat) (sv_ : Int) (gp lp : Nat → Nat) (ds : List Value) (n2 t2 : Nat) : FinI (outK (lw_due0_o p b1 b2 n t Lw c1 c2 c3 hs ks us cl ga ea lo si vd ts_ tf_ nd du ov ht wt svt de sv_ gp lp ds) (.ok .next) ⟨n2, t2, [], [], [], [], []⟩) [] (.ok .next) n2 t2 [] [] := by show _ = _; cases b1 <;> cases b2 <;> kernel_rfl
theorem due_back1 (p : Params) (b1 b2 : Bool) (n t : Nat) (Lw c1 c2 c3 : Nat) (hs : Nat → Int) (ks : Nat → Nat) (us : Nat) (cl ga ea lo si vd ts_ tf_ nd du ov ht wt svt de : Nat) (sv_ : Int) (gp lp : Nat → Nat) (ds : List Value) (h0 : Nat) (n2 t2 : Nat) : FinI (outK (lw_due1_o p b1 b2 n t Lw c1 c2 c3 hs ks us cl ga ea lo si vd ts_ tf_ nd du ov ht wt svt de sv_ gp lp ds h0) (.ok .next) ⟨n2, t2, [], [], [], [], []⟩) [] (.ok .next) n2 t2 [] [] := by show _ = _; cases b1 <;> cases b2 <;> kernel_rfl
theorem due_back2 (p : Params) (b1 b2 : Bool) (n t : Nat) (Lw c1 c2 c3 : Nat) (hs : Nat → Int) (ks : Nat → Nat) (us : Nat) (cl ga ea lo si vd ts_ tf_ nd du ov ht wt svt de : Nat) (sv_ : Int) (gp lp : Nat → Nat) (ds : List Value) (h0 h1 : Nat) (n2 t2 : Nat) : FinI (outK (lw_due2_o p b1 b2 n t Lw c1 c2 c3 hs ks us cl ga ea lo si vd ts_ tf_ nd du ov ht wt svt de sv_ gp lp ds h0 h1) (.ok .next) ⟨n2, t2, [], [], [], [], []⟩) [] (.ok .next) n2 t2 [] [] := by show _ = _; cases b1 <;> cases b2 <;> kernel_rfl
theorem due_back3 (p : Params) (b1 b2 : Bool) (n t : Nat) (Lw c1 c2 c3 : Nat) (hs : Nat → Int) (ks : Nat → Nat) (us : Nat) (cl ga ea lo si vd ts_ tf_ nd du ov ht wt svt de : Nat) (sv_ : Int) (gp lp : Nat → Nat) (ds : List Value) (h0 h1 h2 : Nat) (n2 t2 : Nat) : FinI (outK (lw_due3_o p b1 b2 n t Lw c1 c2 c3 hs ks us cl ga ea lo si vd ts_ tf_ nd du ov ht wt svt de sv_ gp lp ds h0 h1 h2) (.ok .next) ⟨n2, t2, [], [], [], [], []⟩) [] (.ok .next) n2 t2 [] [] := by show _ = _; cases b1 <;> cases b2 <;> kernel_rfl
theorem due_back4 (p : Params) (b1 b2 : Bool) (n t : Nat) (Lw c1 c2 c3 : Nat) (hs : Nat → Int) (ks : Nat → Nat) (us : Nat) (cl ga ea lo si vd ts_ tf_ nd du ov ht wt svt de : Nat) (sv_ : Int) (gp lp : Nat → Nat) (ds : List Value) (h0 h1 h2 h3 : Nat) (n2 t2 : Nat) : FinI (outK (lw_due4_o p b1 b2 n t Lw c1 c2 c3 hs ks us cl ga ea lo si vd ts_ tf_ nd du ov ht wt svt de sv_ gp lp ds h0 h1 h2 h3) (.ok .next) ⟨n2, t2, [], [], [], [], []⟩) [] (.ok .next) n2 t2 [] [] := by show _ = _; cases b1 <;> cases b2 <;> kernel_rfl
theorem due_back5 (p : Params) (b1 b2 : Bool) (n t : Nat) (Lw c1 c2 c3 : Nat) (hs : Nat → Int) (ks : Nat → Nat) (us : Nat) (cl ga ea lo si vd ts_ tf_ nd du ov ht wt svt de : Nat) (sv_ : Int) (gp lp : Nat → Nat) (ds : List Value) (h0 h1 h2 h3 h4 : Nat) (n2 t2 : Nat) : FinI (outK (lw_due5_o p b1 b2 n t Lw c1 c2 c3 hs ks us cl ga ea lo si vd ts_ tf_ nd du ov ht wt svt de sv_ gp lp ds h0 h1 h2 h3 h4) (.ok .next) ⟨n2, t2, [], [], [], [], []⟩) [] (.ok .next) n2 t2 [] [] := by show _ = _; cases b1 <;> cases b2 <;> kernel_rfl
section
variable {Y : Cy} {A : Around} {d u : Nat} {R : Result → Shared → Prop} {H : List En} {s : Shared}
theorem law_mid (O : Y.x.Ok) (hdd : d ≤ 320) (hu : u ≤ 6000) (hw : Y.w.params = PP Y.p Y.b1 Y.b2) (hA : AB d u A) (c : Cf) (w : List Nat) (hz : w.length ≤ 5) (hch : ∀ x ∈ w, x = 97 ∨ x = 98)
    {Lw c1 c2 c3 us cl ga ea lo si ht wt E0 E1 g0 g1 L0 L1 a00 a01 a10 a11 : Nat} {gp lp gt : Nat → Nat} {hs : Nat → Int} {ks : Nat → Nat}
    (I : Inv Y.x s ([⟨Lw, { cls := .type "frame", data := .dict ⟨[eh hs ks 0 n_script (.ref 660), eh hs ks 1 n_usual (.ref us), eh hs ks 2 n_ends (.ref ea), ⟨hs 3, sv n_word (ks 3), .str ⟨⟨w⟩⟩ wt⟩, eh hs ks 4 n_lots (.ref lo), eh hs ks 5 n_signs (.ref si)]⟩ 6 }, true⟩, et c1 (cel (some (.ref cl))), et c2 (cel (some (.int 1 ht))), et c3 (cel (some (.ref ga))), et lo (lst [.ref L0, .ref L1] (lp 0)), et L0 (lst [.ref a00, .ref a01] (lp 1)), et L1 (lst [.ref a10, .ref a11] (lp 2)), et ea (lst [.ref E0, .ref E1] (lp 3)), et ga (lst [.ref g0, .ref g1] (gp 0)), et g0 (lst [.int (bn c.g00 : Nat) (gt 0), .int (bn c.g01 : Nat) (gt 1)] (gp 1)), et g1 (lst [.int (bn c.g10 : Nat) (gt 2), .int (bn c.g11 : Nat) (gt 3)] (gp 2))] ++ H))
    (CL : CLf s.heap (lotO c.g00 c.g01 false) (lotO c.g00 c.g01 true) (lotO c.g10 c.g11 false) (lotO c.g10 c.g11 true) (endO c.e0) (endO c.e1) a00 a01 a10 a11 E0 E1)
    (K : LK Y R) : wpOwn Y.x.M A (.func (bodyAt Y.p 659) (envL Y.p Lw c1 c2 c3)) (execs (lS Y.p 7 4 ++ (lS Y.p 11 1 ++ (lS Y.p 12 1 ++ (lS Y.p 13 1 ++ lS Y.p 14 1)))) (envL Y.p Lw c1 c2 c3)) (fun f s' => R (.ok (.ret (match f with | .ret v => v | _ => .none))) s') (fun _ _ => False) s := by
  have I0 := Inv.pickH (L := [_, _, _, _, _, _, _, _, _, _, _]) (H := H) [0, 1, 2, 3, 4, 5, 6, 7, 8, 9, 10] (by decide) I
  refine own_step (go_ret O (by omega) hA (L := [_, _, _, _, _, _, _, _]) (H := [_, _, _] ++ H) I0 [] (by simp) (lw_nodes Y.p Y.b1 Y.b2 s.heap.objs.size s.toks Lw c1 c2 c3 hs ks us cl ga ea lo si L0 L1 a00 a01 a10 a11 E0 E1 ht gp lp ⟨⟨w⟩⟩ wt) trivial fun s1 I1 T1 _ _ _ => ?_)
  have ts1 : Ts s.heap s1.heap := ts_of' (L := [_, _, _, _, _, _, _, _]) (H := [_, _, _] ++ H) I0 T1
  have CL1 := CL.mono ts1
  have hP : ∀ F : TF, NdAt F s1.heap (c.body false) (s.heap.objs.size + 14) := fun F => ⟨_, _, _, I1.ix 21 rfl, ⟨_, _, _, I1.ix 26 rfl, lot_nd CL1.l00 F, ⟨_, _, _, _, I1.ix 27 rfl, I1.ix 28 rfl⟩⟩, ⟨_, _, _, I1.ix 22 rfl, ⟨_, _, _, I1.ix 23 rfl, lot_nd CL1.l01 F, ⟨_, _, _, _, I1.ix 24 rfl, I1.ix 25 rfl⟩⟩, end_nd CL1.lE0 F⟩⟩
  have hQ : ∀ F : TF, NdAt F s1.heap (c.body true) (s.heap.objs.size + 29) := fun F => ⟨_, _, _, I1.ix 11 rfl, ⟨_, _, _, I1.ix 16 rfl, lot_nd CL1.l10 F, ⟨_, _, _, _, I1.ix 17 rfl, I1.ix 18 rfl⟩⟩, ⟨_, _, _, I1.ix 12 rfl, ⟨_, _, _, I1.ix 13 rfl, lot_nd CL1.l11 F, ⟨_, _, _, _, I1.ix 14 rfl, I1.ix 15 rfl⟩⟩, end_nd CL1.lE1 F⟩⟩
  let tk' : Nat → Nat := fun i => [0, (s.toks + 60), (s.toks + 61), (s.toks + 62), (s.toks + 65), (s.toks + 50), (s.toks + 53), (s.toks + 68), (s.toks + 70)].getD i 0
  have TR : ∀ q ∈ [(((s.heap.objs.size + 47) : Addr), [sv n_cat (tk' 1), .ref (s.heap.objs.size + 44), .ref (s.heap.objs.size + 46)]), ((s.heap.objs.size + 44), [sv n_arbno (tk' 2), .ref (s.heap.objs.size + 43)]), ((s.heap.objs.size + 43), [sv n_alt (tk' 3), .ref a00, .ref (s.heap.objs.size + 42)]), ((s.heap.objs.size + 42), [sv n_cat (tk' 4), .ref (s.heap.objs.size + 36), .ref a10]), ((s.heap.objs.size + 36), [sv n_cat (tk' 5), .ref a01, .ref (s.heap.objs.size + 35)]), ((s.heap.objs.size + 35), [sv n_arbno (tk' 6), .ref a11]), ((s.heap.objs.size + 46), [sv n_alt (tk' 7), .ref E0, .ref (s.heap.objs.size + 45)]), ((s.heap.objs.size + 45), [sv n_cat (tk' 8), .ref (s.heap.objs.size + 36), .ref E1])], s1.heap.get? q.1 = some (tup q.2) := by
    simp only [List.forall_mem_cons, List.not_mem_nil, false_imp_iff, implies_true, and_true]
    exact ⟨I1.ix 0 rfl, I1.ix 3 rfl, I1.ix 4 rfl, I1.ix 5 rfl, I1.ix 7 rfl, I1.ix 8 rfl, I1.ix 1 rfl, I1.ix 2 rfl⟩
  have I2 := Inv.pickH (L := [_, _, _, _, _, _, _, _, _, _, _, _, _, _, _, _, _, _, _, _, _, _, _, _, _, _, _, _, _, _, _, _, _, _, _, _, _, _, _, _, _]) (H := H) [30, 31, 32, 33, 37, 38, 6, 39, 40, 29, 19, 20, 9, 10] (by decide) I1
  let hsA : Nat → Int := fun i => [hs 0, hs 1, hs 2, hs 3, hs 4, hs 5, kh Y.p n_values, kh Y.p n_to_second, kh Y.p n_to_first, kh Y.p n_node, kh Y.p n_state, kh Y.p n_due, kh Y.p n_over].getD i 0
  let ksA : Nat → Nat := fun i => [ks 0, ks 1, ks 2, ks 3, ks 4, ks 5, s.toks, (s.toks + 13), (s.toks + 14), (s.toks + 19), (s.toks + 57), (s.toks + 58), (s.toks + 59)].getD i 0
  have rest : DK Y s1 ([⟨s.heap.objs.size, fq2 Y.p (s.toks + 25) (.ref (s.heap.objs.size + 16)) (s.toks + 48) (.ref (s.heap.objs.size + 31)) 2, true⟩, et (s.heap.objs.size + 16) (inst 166 (s.heap.objs.size + 15)), ⟨(s.heap.objs.size + 15), patD (fun _ => kh Y.p n_node) (s.toks + 23) (s.heap.objs.size + 14), true⟩, et (s.heap.objs.size + 31) (inst 166 (s.heap.objs.size + 30)), ⟨(s.heap.objs.size + 30), patD (fun _ => kh Y.p n_node) (s.toks + 46) (s.heap.objs.size + 29), true⟩] ++ H) (Nx Y.x.M A (.func (bodyAt Y.p 659) (envL Y.p Lw c1 c2 c3)) (lS Y.p 12 1 ++ (lS Y.p 13 1 ++ lS Y.p 14 1)) (envL Y.p Lw c1 c2 c3) (fun f s' => R (.ok (.ret (match f with | .ret v => v | _ => .none))) s')) c w Lw c1 c2 c3 us cl ga ea lo si s.heap.objs.size (s.heap.objs.size + 22) (s.heap.objs.size + 20) (s.heap.objs.size + 47) (s.heap.objs.size + 37) (s.heap.objs.size + 36) (s.toks + 27) wt := by
    intro s3 hsB ksB st svt de ao_t ao ds I3 hds ts3
    have I3' := Inv.pickH (L := [_, _, _, _, _]) (H := [_, _, _, _, _] ++ H) [0, 1, 2, 3, 4] (by decide) I3
    show wpOwn _ _ _ _ _ _ _
    refine own_step (go_ret O (by omega) hA (L := [_, _, _, _]) (H := [_] ++ ([_, _, _, _, _] ++ H)) I3' [] (by simp) (lw_asked Y.p Y.b1 Y.b2 s3.heap.objs.size s3.toks Lw c1 c2 c3 hsB ksB us cl ga ea lo si s.heap.objs.size (s.heap.objs.size + 22) (s.heap.objs.size + 20) (s.heap.objs.size + 47) (s.heap.objs.size + 37) (s.heap.objs.size + 36) (s.toks + 27) wt svt 0 (bn st : Nat) gp lp [] ⟨⟨w⟩⟩ ao ao_t) trivial fun s4 I4 T4 _ _ _ => ?_)
    have ts4 := ts_of' (L := [_, _, _, _]) (H := [_] ++ ([_, _, _, _, _] ++ H)) I3' T4
    have ts14 : Ts s1.heap s4.heap := fun a l h => ts4 _ _ (ts3 _ _ h)
    have I5 := Inv.pickH (L := [_, _, _, _, _, _, _, _, _, _, _, _]) (H := H) [2, 7, 8, 9, 10, 11, 6] (by decide) I4
    show wpOwn _ _ _ _ _ _ _
    exact law_end (hs := fun i => [hsB 0, hsB 1, hsB 2, hsB 3, hsB 4, hsB 5, hsB 6, hsB 7, hsB 8, hsB 9, hsB 10, hsB 11, hsB 12, hsB 13, kh Y.p n_asked].getD i 0) (ks := fun i => [ksB 0, ksB 1, ksB 2, ksB 3, ksB 4, ksB 5, ksB 6, ksB 7, ksB 8, ksB 9, ksB 10, ksB 11, ksB 12, ksB 13, s3.toks + 3].getD i 0) (tk' := tk') O (by omega) (by omega) hw hA c w hz hch I5 hds ⟨_, _, _, _, I4.ix 0 rfl, I4.ix 1 rfl⟩ (fun F => (hP F).mono ts14) (fun F => (hQ F).mono ts14) (fun q hq => ts14 _ _ (TR q hq)) (CL1.mono ts14) K
  show wpOwn _ _ _ _ _ _ _
  refine own_step ?_
  have hcase : ∀ l : List Nat, l.length ≤ 5 → l = [] ∨ (∃ h0, l = [h0]) ∨ (∃ h0 h1, l = [h0, h1]) ∨ (∃ h0 h1 h2, l = [h0, h1, h2]) ∨ (∃ h0 h1 h2 h3, l = [h0, h1, h2, h3]) ∨ (∃ h0 h1 h2 h3 h4, l = [h0, h1, h2, h3, h4]) := by
    intro l h
    match l with
    | [] => simp
    | [h0] => simp
    | [h0, h1] => simp
    | [h0, h1, h2] => simp
    | [h0, h1, h2, h3] => simp
    | [h0, h1, h2, h3, h4] => simp
    | _ :: _ :: _ :: _ :: _ :: _ :: _ => simp at h
  generalize Nx _ _ _ _ _ _ = R2 at rest ⊢
  rcases hcase w hz with rfl | ⟨h0, rfl⟩ | ⟨h0, h1, rfl⟩ | ⟨h0, h1, h2, rfl⟩ | ⟨h0, h1, h2, h3, rfl⟩ | ⟨h0, h1, h2, h3, h4, rfl⟩
  · refine go_stop O (by omega) hA (L := [_, _, _, _]) (H := [_, _, _, _, _, _, _, _, _, _] ++ H) I2 [] (by simp) (lw_due0 Y.p Y.b1 Y.b2 s1.heap.objs.size s1.toks Lw c1 c2 c3 hsA ksA us cl ga ea lo si s.heap.objs.size (s.heap.objs.size + 22) (s.heap.objs.size + 20) (s.heap.objs.size + 47) (s.heap.objs.size + 37) (s.heap.objs.size + 36) (s.toks + 27) wt (s.toks + 56) 0 (bn false : Nat) gp lp [] ) trivial fun A' s2 hA' I3 T3 _ _ _ => ?_
    have ts3 := ts_of' (L := [_, _, _, _]) (H := [_, _, _, _, _, _, _, _, _, _] ++ H) I2 T3
    have I4 := Inv.pickH (L := [_, _, _, _, _, _, _, _, _, _, _, _, _, _, _]) (H := H) [1, 2, 3, 4, 5, 6, 7, 0, 8, 9, 10, 11, 12, 13, 14] (by decide) I3
    have I5 : Inv Y.x s2 ([_, _, _, _, _, _, _, _, _, _] ++ ([⟨s.heap.objs.size, fq2 Y.p (s.toks + 25) (.ref (s.heap.objs.size + 16)) (s.toks + 48) (.ref (s.heap.objs.size + 31)) 2, true⟩, et (s.heap.objs.size + 16) (inst 166 (s.heap.objs.size + 15)), ⟨(s.heap.objs.size + 15), patD (fun _ => kh Y.p n_node) (s.toks + 23) (s.heap.objs.size + 14), true⟩, et (s.heap.objs.size + 31) (inst 166 (s.heap.objs.size + 30)), ⟨(s.heap.objs.size + 30), patD (fun _ => kh Y.p n_node) (s.toks + 46) (s.heap.objs.size + 29), true⟩] ++ H)) := I4
    refine df (H := [⟨s.heap.objs.size, fq2 Y.p (s.toks + 25) (.ref (s.heap.objs.size + 16)) (s.toks + 48) (.ref (s.heap.objs.size + 31)) 2, true⟩, et (s.heap.objs.size + 16) (inst 166 (s.heap.objs.size + 15)), ⟨(s.heap.objs.size + 15), patD (fun _ => kh Y.p n_node) (s.toks + 23) (s.heap.objs.size + 14), true⟩, et (s.heap.objs.size + 31) (inst 166 (s.heap.objs.size + 30)), ⟨(s.heap.objs.size + 30), patD (fun _ => kh Y.p n_node) (s.toks + 46) (s.heap.objs.size + 29), true⟩] ++ H) (gp := gp) (lp := lp) (gt := gt) (s0 := s1) O (by omega) hA' hz hch ?_ [] (hs := hsA) (ks := ksA) (st := false) (pre := []) rfl I5 (CL1.lE0.mono ts3) (CL1.lE1.mono ts3) .nil rfl ts3
    intro s3 hsB ksB st svt de ao_t ao ds I6 hds ts6
    exact go_back (L := []) I6 [] (by simp) (due_back0 Y.p Y.b1 Y.b2 s1.heap.objs.size s1.toks Lw c1 c2 c3 hsA ksA us cl ga ea lo si s.heap.objs.size (s.heap.objs.size + 22) (s.heap.objs.size + 20) (s.heap.objs.size + 47) (s.heap.objs.size + 37) (s.heap.objs.size + 36) (s.toks + 27) wt (s.toks + 56) 0 (bn false : Nat) gp lp []  s3.heap.objs.size s3.toks) trivial fun s4 I7 T7 _ _ _ => rest s4 hsB ksB st svt de ao_t ao ds I7 hds (fun a l h => ts_of' (L := []) I6 T7 _ _ (ts6 _ _ h))
  · refine go_stop O (by omega) hA (L := [_, _, _, _]) (H := [_, _, _, _, _, _, _, _, _, _] ++ H) I2 [] (by simp) (lw_due1 Y.p Y.b1 Y.b2 s1.heap.objs.size s1.toks Lw c1 c2 c3 hsA ksA us cl ga ea lo si s.heap.objs.size (s.heap.objs.size + 22) (s.heap.objs.size + 20) (s.heap.objs.size + 47) (s.heap.objs.size + 37) (s.heap.objs.size + 36) (s.toks + 27) wt (s.toks + 56) 0 (bn false : Nat) gp lp [] h0) trivial fun A' s2 hA' I3 T3 _ _ _ => ?_
    have ts3 := ts_of' (L := [_, _, _, _]) (H := [_, _, _, _, _, _, _, _, _, _] ++ H) I2 T3
    have I4 := Inv.pickH (L := [_, _, _, _, _, _, _, _, _, _, _, _, _, _, _]) (H := H) [1, 2, 3, 4, 5, 6, 7, 0, 8, 9, 10, 11, 12, 13, 14] (by decide) I3
    have I5 : Inv Y.x s2 ([_, _, _, _, _, _, _, _, _, _] ++ ([⟨s.heap.objs.size, fq2 Y.p (s.toks + 25) (.ref (s.heap.objs.size + 16)) (s.toks + 48) (.ref (s.heap.objs.size + 31)) 2, true⟩, et (s.heap.objs.size + 16) (inst 166 (s.heap.objs.size + 15)), ⟨(s.heap.objs.size + 15), patD (fun _ => kh Y.p n_node) (s.toks + 23) (s.heap.objs.size + 14), true⟩, et (s.heap.objs.size + 31) (inst 166 (s.heap.objs.size + 30)), ⟨(s.heap.objs.size + 30), patD (fun _ => kh Y.p n_node) (s.toks + 46) (s.heap.objs.size + 29), true⟩] ++ H)) := I4
    refine df (H := [⟨s.heap.objs.size, fq2 Y.p (s.toks + 25) (.ref (s.heap.objs.size + 16)) (s.toks + 48) (.ref (s.heap.objs.size + 31)) 2, true⟩, et (s.heap.objs.size + 16) (inst 166 (s.heap.objs.size + 15)), ⟨(s.heap.objs.size + 15), patD (fun _ => kh Y.p n_node) (s.toks + 23) (s.heap.objs.size + 14), true⟩, et (s.heap.objs.size + 31) (inst 166 (s.heap.objs.size + 30)), ⟨(s.heap.objs.size + 30), patD (fun _ => kh Y.p n_node) (s.toks + 46) (s.heap.objs.size + 29), true⟩] ++ H) (gp := gp) (lp := lp) (gt := gt) (s0 := s1) O (by omega) hA' hz hch ?_ [h0] (hs := hsA) (ks := ksA) (st := false) (pre := []) rfl I5 (CL1.lE0.mono ts3) (CL1.lE1.mono ts3) .nil rfl ts3
    intro s3 hsB ksB st svt de ao_t ao ds I6 hds ts6
    exact go_back (L := []) I6 [] (by simp) (due_back1 Y.p Y.b1 Y.b2 s1.heap.objs.size s1.toks Lw c1 c2 c3 hsA ksA us cl ga ea lo si s.heap.objs.size (s.heap.objs.size + 22) (s.heap.objs.size + 20) (s.heap.objs.size + 47) (s.heap.objs.size + 37) (s.heap.objs.size + 36) (s.toks + 27) wt (s.toks + 56) 0 (bn false : Nat) gp lp [] h0 s3.heap.objs.size s3.toks) trivial fun s4 I7 T7 _ _ _ => rest s4 hsB ksB st svt de ao_t ao ds I7 hds (fun a l h => ts_of' (L := []) I6 T7 _ _ (ts6 _ _ h))
  · refine go_stop O (by omega) hA (L := [_, _, _, _]) (H := [_, _, _, _, _, _, _, _, _, _] ++ H) I2 [] (by simp) (lw_due2 Y.p Y.b1 Y.b2 s1.heap.objs.size s1.toks Lw c1 c2 c3 hsA ksA us cl ga ea lo si s.heap.objs.size (s.heap.objs.size + 22) (s.heap.objs.size + 20) (s.heap.objs.size + 47) (s.heap.objs.size + 37) (s.heap.objs.size + 36) (s.toks + 27) wt (s.toks + 56) 0 (bn false : Nat) gp lp [] h0 h1) trivial fun A' s2 hA' I3 T3 _ _ _ => ?_
    have ts3 := ts_of' (L := [_, _, _, _]) (H := [_, _, _, _, _, _, _, _, _, _] ++ H) I2 T3
    have I4 := Inv.pickH (L := [_, _, _, _, _, _, _, _, _, _, _, _, _, _, _]) (H := H) [1, 2, 3, 4, 5, 6, 7, 0, 8, 9, 10, 11, 12, 13, 14] (by decide) I3
    have I5 : Inv Y.x s2 ([_, _, _, _, _, _, _, _, _, _] ++ ([⟨s.heap.objs.size, fq2 Y.p (s.toks + 25) (.ref (s.heap.objs.size + 16)) (s.toks + 48) (.ref (s.heap.objs.size + 31)) 2, true⟩, et (s.heap.objs.size + 16) (inst 166 (s.heap.objs.size + 15)), ⟨(s.heap.objs.size + 15), patD (fun _ => kh Y.p n_node) (s.toks + 23) (s.heap.objs.size + 14), true⟩, et (s.heap.objs.size + 31) (inst 166 (s.heap.objs.size + 30)), ⟨(s.heap.objs.size + 30), patD (fun _ => kh Y.p n_node) (s.toks + 46) (s.heap.objs.size + 29), true⟩] ++ H)) := I4
    refine df (H := [⟨s.heap.objs.size, fq2 Y.p (s.toks + 25) (.ref (s.heap.objs.size + 16)) (s.toks + 48) (.ref (s.heap.objs.size + 31)) 2, true⟩, et (s.heap.objs.size + 16) (inst 166 (s.heap.objs.size + 15)), ⟨(s.heap.objs.size + 15), patD (fun _ => kh Y.p n_node) (s.toks + 23) (s.heap.objs.size + 14), true⟩, et (s.heap.objs.size + 31) (inst 166 (s.heap.objs.size + 30)), ⟨(s.heap.objs.size + 30), patD (fun _ => kh Y.p n_node) (s.toks + 46) (s.heap.objs.size + 29), true⟩] ++ H) (gp := gp) (lp := lp) (gt := gt) (s0 := s1) O (by omega) hA' hz hch ?_ [h0, h1] (hs := hsA) (ks := ksA) (st := false) (pre := []) rfl I5 (CL1.lE0.mono ts3) (CL1.lE1.mono ts3) .nil rfl ts3
    intro s3 hsB ksB st svt de ao_t ao ds I6 hds ts6
    exact go_back (L := []) I6 [] (by simp) (due_back2 Y.p Y.b1 Y.b2 s1.heap.objs.size s1.toks Lw c1 c2 c3 hsA ksA us cl ga ea lo si s.heap.objs.size (s.heap.objs.size + 22) (s.heap.objs.size + 20) (s.heap.objs.size + 47) (s.heap.objs.size + 37) (s.heap.objs.size + 36) (s.toks + 27) wt (s.toks + 56) 0 (bn false : Nat) gp lp [] h0 h1 s3.heap.objs.size s3.toks) trivial fun s4 I7 T7 _ _ _ => rest s4 hsB ksB st svt de ao_t ao ds I7 hds (fun a l h => ts_of' (L := []) I6 T7 _ _ (ts6 _ _ h))
  · refine go_stop O (by omega) hA (L := [_, _, _, _]) (H := [_, _, _, _, _, _, _, _, _, _] ++ H) I2 [] (by simp) (lw_due3 Y.p Y.b1 Y.b2 s1.heap.objs.size s1.toks Lw c1 c2 c3 hsA ksA us cl ga ea lo si s.heap.objs.size (s.heap.objs.size + 22) (s.heap.objs.size + 20) (s.heap.objs.size + 47) (s.heap.objs.size + 37) (s.heap.objs.size + 36) (s.toks + 27) wt (s.toks + 56) 0 (bn false : Nat) gp lp [] h0 h1 h2) trivial fun A' s2 hA' I3 T3 _ _ _ => ?_
    have ts3 := ts_of' (L := [_, _, _, _]) (H := [_, _, _, _, _, _, _, _, _, _] ++ H) I2 T3
    have I4 := Inv.pickH (L := [_, _, _, _, _, _, _, _, _, _, _, _, _, _, _]) (H := H) [1, 2, 3, 4, 5, 6, 7, 0, 8, 9, 10, 11, 12, 13, 14] (by decide) I3
    have I5 : Inv Y.x s2 ([_, _, _, _, _, _, _, _, _, _] ++ ([⟨s.heap.objs.size, fq2 Y.p (s.toks + 25) (.ref (s.heap.objs.size + 16)) (s.toks + 48) (.ref (s.heap.objs.size + 31)) 2, true⟩, et (s.heap.objs.size + 16) (inst 166 (s.heap.objs.size + 15)), ⟨(s.heap.objs.size + 15), patD (fun _ => kh Y.p n_node) (s.toks + 23) (s.heap.objs.size + 14), true⟩, et (s.heap.objs.size + 31) (inst 166 (s.heap.objs.size + 30)), ⟨(s.heap.objs.size + 30), patD (fun _ => kh Y.p n_node) (s.toks + 46) (s.heap.objs.size + 29), true⟩] ++ H)) := I4
    refine df (H := [⟨s.heap.objs.size, fq2 Y.p (s.toks + 25) (.ref (s.heap.objs.size + 16)) (s.toks + 48) (.ref (s.heap.objs.size + 31)) 2, true⟩, et (s.heap.objs.size + 16) (inst 166 (s.heap.objs.size + 15)), ⟨(s.heap.objs.size + 15), patD (fun _ => kh Y.p n_node) (s.toks + 23) (s.heap.objs.size + 14), true⟩, et (s.heap.objs.size + 31) (inst 166 (s.heap.objs.size + 30)), ⟨(s.heap.objs.size + 30), patD (fun _ => kh Y.p n_node) (s.toks + 46) (s.heap.objs.size + 29), true⟩] ++ H) (gp := gp) (lp := lp) (gt := gt) (s0 := s1) O (by omega) hA' hz hch ?_ [h0, h1, h2] (hs := hsA) (ks := ksA) (st := false) (pre := []) rfl I5 (CL1.lE0.mono ts3) (CL1.lE1.mono ts3) .nil rfl ts3
    intro s3 hsB ksB st svt de ao_t ao ds I6 hds ts6
    exact go_back (L := []) I6 [] (by simp) (due_back3 Y.p Y.b1 Y.b2 s1.heap.objs.size s1.toks Lw c1 c2 c3 hsA ksA us cl ga ea lo si s.heap.objs.size (s.heap.objs.size + 22) (s.heap.objs.size + 20) (s.heap.objs.size + 47) (s.heap.objs.size + 37) (s.heap.objs.size + 36) (s.toks + 27) wt (s.toks + 56) 0 (bn false : Nat) gp lp [] h0 h1 h2 s3.heap.objs.size s3.toks) trivial fun s4 I7 T7 _ _ _ => rest s4 hsB ksB st svt de ao_t ao ds I7 hds (fun a l h => ts_of' (L := []) I6 T7 _ _ (ts6 _ _ h))
  · refine go_stop O (by omega) hA (L := [_, _, _, _]) (H := [_, _, _, _, _, _, _, _, _, _] ++ H) I2 [] (by simp) (lw_due4 Y.p Y.b1 Y.b2 s1.heap.objs.size s1.toks Lw c1 c2 c3 hsA ksA us cl ga ea lo si s.heap.objs.size (s.heap.objs.size + 22) (s.heap.objs.size + 20) (s.heap.objs.size + 47) (s.heap.objs.size + 37) (s.heap.objs.size + 36) (s.toks + 27) wt (s.toks + 56) 0 (bn false : Nat) gp lp [] h0 h1 h2 h3) trivial fun A' s2 hA' I3 T3 _ _ _ => ?_
    have ts3 := ts_of' (L := [_, _, _, _]) (H := [_, _, _, _, _, _, _, _, _, _] ++ H) I2 T3
    have I4 := Inv.pickH (L := [_, _, _, _, _, _, _, _, _, _, _, _, _, _, _]) (H := H) [1, 2, 3, 4, 5, 6, 7, 0, 8, 9, 10, 11, 12, 13, 14] (by decide) I3
    have I5 : Inv Y.x s2 ([_, _, _, _, _, _, _, _, _, _] ++ ([⟨s.heap.objs.size, fq2 Y.p (s.toks + 25) (.ref (s.heap.objs.size + 16)) (s.toks + 48) (.ref (s.heap.objs.size + 31)) 2, true⟩, et (s.heap.objs.size + 16) (inst 166 (s.heap.objs.size + 15)), ⟨(s.heap.objs.size + 15), patD (fun _ => kh Y.p n_node) (s.toks + 23) (s.heap.objs.size + 14), true⟩, et (s.heap.objs.size + 31) (inst 166 (s.heap.objs.size + 30)), ⟨(s.heap.objs.size + 30), patD (fun _ => kh Y.p n_node) (s.toks + 46) (s.heap.objs.size + 29), true⟩] ++ H)) := I4
    refine df (H := [⟨s.heap.objs.size, fq2 Y.p (s.toks + 25) (.ref (s.heap.objs.size + 16)) (s.toks + 48) (.ref (s.heap.objs.size + 31)) 2, true⟩, et (s.heap.objs.size + 16) (inst 166 (s.heap.objs.size + 15)), ⟨(s.heap.objs.size + 15), patD (fun _ => kh Y.p n_node) (s.toks + 23) (s.heap.objs.size + 14), true⟩, et (s.heap.objs.size + 31) (inst 166 (s.heap.objs.size + 30)), ⟨(s.heap.objs.size + 30), patD (fun _ => kh Y.p n_node) (s.toks + 46) (s.heap.objs.size + 29), true⟩] ++ H) (gp := gp) (lp := lp) (gt := gt) (s0 := s1) O (by omega) hA' hz hch ?_ [h0, h1, h2, h3] (hs := hsA) (ks := ksA) (st := false) (pre := []) rfl I5 (CL1.lE0.mono ts3) (CL1.lE1.mono ts3) .nil rfl ts3
    intro s3 hsB ksB st svt de ao_t ao ds I6 hds ts6
    exact go_back (L := []) I6 [] (by simp) (due_back4 Y.p Y.b1 Y.b2 s1.heap.objs.size s1.toks Lw c1 c2 c3 hsA ksA us cl ga ea lo si s.heap.objs.size (s.heap.objs.size + 22) (s.heap.objs.size + 20) (s.heap.objs.size + 47) (s.heap.objs.size + 37) (s.heap.objs.size + 36) (s.toks + 27) wt (s.toks + 56) 0 (bn false : Nat) gp lp [] h0 h1 h2 h3 s3.heap.objs.size s3.toks) trivial fun s4 I7 T7 _ _ _ => rest s4 hsB ksB st svt de ao_t ao ds I7 hds (fun a l h => ts_of' (L := []) I6 T7 _ _ (ts6 _ _ h))
  · refine go_stop O (by omega) hA (L := [_, _, _, _]) (H := [_, _, _, _, _, _, _, _, _, _] ++ H) I2 [] (by simp) (lw_due5 Y.p Y.b1 Y.b2 s1.heap.objs.size s1.toks Lw c1 c2 c3 hsA ksA us cl ga ea lo si s.heap.objs.size (s.heap.objs.size + 22) (s.heap.objs.size + 20) (s.heap.objs.size + 47) (s.heap.objs.size + 37) (s.heap.objs.size + 36) (s.toks + 27) wt (s.toks + 56) 0 (bn false : Nat) gp lp [] h0 h1 h2 h3 h4) trivial fun A' s2 hA' I3 T3 _ _ _ => ?_
    have ts3 := ts_of' (L := [_, _, _, _]) (H := [_, _, _, _, _, _, _, _, _, _] ++ H) I2 T3
    have I4 := Inv.pickH (L := [_, _, _, _, _, _, _, _, _, _, _, _, _, _, _]) (H := H) [1, 2, 3, 4, 5, 6, 7, 0, 8, 9, 10, 11, 12, 13, 14] (by decide) I3
    have I5 : Inv Y.x s2 ([_, _, _, _, _, _, _, _, _, _] ++ ([⟨s.heap.objs.size, fq2 Y.p (s.toks + 25) (.ref (s.heap.objs.size + 16)) (s.toks + 48) (.ref (s.heap.objs.size + 31)) 2, true⟩, et (s.heap.objs.size + 16) (inst 166 (s.heap.objs.size + 15)), ⟨(s.heap.objs.size + 15), patD (fun _ => kh Y.p n_node) (s.toks + 23) (s.heap.objs.size + 14), true⟩, et (s.heap.objs.size + 31) (inst 166 (s.heap.objs.size + 30)), ⟨(s.heap.objs.size + 30), patD (fun _ => kh Y.p n_node) (s.toks + 46) (s.heap.objs.size + 29), true⟩] ++ H)) := I4
    refine df (H := [⟨s.heap.objs.size, fq2 Y.p (s.toks + 25) (.ref (s.heap.objs.size + 16)) (s.toks + 48) (.ref (s.heap.objs.size + 31)) 2, true⟩, et (s.heap.objs.size + 16) (inst 166 (s.heap.objs.size + 15)), ⟨(s.heap.objs.size + 15), patD (fun _ => kh Y.p n_node) (s.toks + 23) (s.heap.objs.size + 14), true⟩, et (s.heap.objs.size + 31) (inst 166 (s.heap.objs.size + 30)), ⟨(s.heap.objs.size + 30), patD (fun _ => kh Y.p n_node) (s.toks + 46) (s.heap.objs.size + 29), true⟩] ++ H) (gp := gp) (lp := lp) (gt := gt) (s0 := s1) O (by omega) hA' hz hch ?_ [h0, h1, h2, h3, h4] (hs := hsA) (ks := ksA) (st := false) (pre := []) rfl I5 (CL1.lE0.mono ts3) (CL1.lE1.mono ts3) .nil rfl ts3
    intro s3 hsB ksB st svt de ao_t ao ds I6 hds ts6
    exact go_back (L := []) I6 [] (by simp) (due_back5 Y.p Y.b1 Y.b2 s1.heap.objs.size s1.toks Lw c1 c2 c3 hsA ksA us cl ga ea lo si s.heap.objs.size (s.heap.objs.size + 22) (s.heap.objs.size + 20) (s.heap.objs.size + 47) (s.heap.objs.size + 37) (s.heap.objs.size + 36) (s.toks + 27) wt (s.toks + 56) 0 (bn false : Nat) gp lp [] h0 h1 h2 h3 h4 s3.heap.objs.size s3.toks) trivial fun s4 I7 T7 _ _ _ => rest s4 hsB ksB st svt de ao_t ao ds I7 hds (fun a l h => ts_of' (L := []) I6 T7 _ _ (ts6 _ _ h))
end
end
section
open PySem PySem.W PySem.W.X PySem.Calls PySem.Spec PyProof.Rows
theorem lots_back (p : Params) (b1 b2 : Bool) (n t : Nat) (Lw c1 c2 c3 : Nat) (hs : Nat → Int) (ks : Nat → Nat) (us : Nat) (cl ce ga ea g0 g1 : Nat) (g00 g01 g10 g11 : Int) (gt gp : Nat → Nat) (wd_ : Str) (wt : Nat) (n2 t2 : Nat) : FinI (outK (lw_lots_o p b1 b2 n t Lw c1 c2 c3 hs ks us cl ce ga ea g0 g1 g00 g01 g10 g11 gt gp wd_ wt) (.ok .next) ⟨n2, t2, [], [], [], [], []⟩) [] (.ok .next) n2 t2 [] [] := by show _ = _; cases b1 <;> cases b2 <;> kernel_rfl
section
variable {Y : Cy} {A : Around} {d u : Nat} {R : Result → Shared → Prop} {H : List En} {s : Shared} {c : Cf} {w : List Nat} {Lw c1 c2 c3 it us cl ga ea lo wt g0 g1 : Nat} {gp gt : Nat → Nat}
theorem lots_1 (O : Y.x.Ok) (hdd : d ≤ 400) (hA : AB d u A) {hs : Nat → Int} {ks : Nat → Nat} {si ht l0 le : Nat} (I : Inv Y.x s ([⟨Lw, { cls := .type "frame", data := .dict ⟨[eh hs ks 0 n_script (.ref 660), eh hs ks 1 n_usual (.ref us), eh hs ks 2 n_ends (.ref ea), ⟨hs 3, sv n_word (ks 3), .str ⟨⟨w⟩⟩ wt⟩, eh hs ks 4 n_lots (.ref lo), eh hs ks 5 n_signs (.ref si)]⟩ 6 }, true⟩, et c1 (cel (some (.ref cl))), et c2 (cel (some (.int 0 ht))), et c3 (cel (some (.ref ga))), et ga (lst [.ref g0, .ref g1] (gp 0)), et g0 (lst [.int (bn c.g00 : Nat) (gt 0), .int (bn c.g01 : Nat) (gt 1)] (gp 1)), et g1 (lst [.int (bn c.g10 : Nat) (gt 2), .int (bn c.g11 : Nat) (gt 3)] (gp 2)), et it (ri [.int 1 0, .int 1 0, .int 1 0]), et lo (lst [.ref l0] le)] ++ H))
    (K : ∀ s' (hs : Nat → Int) (ks : Nat → Nat) (si ht l1 a10 a11 : Nat), Inv Y.x s' ([⟨Lw, { cls := .type "frame", data := .dict ⟨[eh hs ks 0 n_script (.ref 660), eh hs ks 1 n_usual (.ref us), eh hs ks 2 n_ends (.ref ea), ⟨hs 3, sv n_word (ks 3), .str ⟨⟨w⟩⟩ wt⟩, eh hs ks 4 n_lots (.ref lo), eh hs ks 5 n_signs (.ref si)]⟩ 6 }, true⟩, et c1 (cel (some (.ref cl))), et c2 (cel (some (.int 1 ht))), et c3 (cel (some (.ref ga))), et ga (lst [.ref g0, .ref g1] (gp 0)), et g0 (lst [.int (bn c.g00 : Nat) (gt 0), .int (bn c.g01 : Nat) (gt 1)] (gp 1)), et g1 (lst [.int (bn c.g10 : Nat) (gt 2), .int (bn c.g11 : Nat) (gt 3)] (gp 2)), et lo (lst [.ref l0, .ref l1] (le + 1)), et l1 (lst [.ref a10, .ref a11] 2)] ++ H) → LfAt s'.heap (lotO c.g10 c.g11 false) a10 → LfAt s'.heap (lotO c.g10 c.g11 true) a11 → Ts s.heap s'.heap → R (.ok .next) s') : codeAny Y.x.M A (fC Y.p 6 Lw c1 c2 c3 it) R s := by
  have I0 := Inv.pickH (L := [_, _, _, _, _, _, _, _, _]) (H := H) [0, 1, 2, 3, 4, 5, 6, 7, 8] (by decide) I
  cases hx : c.g10 <;> cases hy : c.g11
  · refine go_tail O (by omega) hA I0 [] (by simp) (lw_lot1_00 Y.p Y.b1 Y.b2 s.heap.objs.size s.toks Lw c1 c2 c3 it hs ks us cl 0 ga ea g0 g1 (bn c.g00 : Nat) (bn c.g01 : Nat) (bn c.g10 : Nat) (bn c.g11 : Nat) gt gp ⟨⟨w⟩⟩ wt lo le l0 si 0 ht) ⟨oc_ieq (by rw [hy]; rfl), oc_ieq (by rw [hx]; rfl), oc_ieq (by rw [hy]; rfl), oc_ieq (by rw [hx]; rfl), trivial⟩ fun s1 I1 T1 _ _ _ => ?_
    have ts1 := ts_of' I0 T1
    have I2 := Inv.pickH (L := [_, _, _, _, _, _, _, _, _, _, _, _, _]) (H := H) [4, 5, 6, 7, 8, 9, 10, 11, 12, 2] (by decide) I1
    refine go_code O (by omega) hA (L := [_, _, _, _, _, _, _, _, _]) (H := [_] ++ H) I2 [] (by simp) (lw_lot_end Y.p Y.b1 Y.b2 s1.heap.objs.size s1.toks Lw c1 c2 c3 it hs (fun i => [ks 0, ks 1, ks 2, ks 3, ks 4, ks 5].getD i 0) us cl 0 ga ea g0 g1 (bn c.g00 : Nat) (bn c.g01 : Nat) (bn c.g10 : Nat) (bn c.g11 : Nat) gt gp ⟨⟨w⟩⟩ wt lo (le + 1) l0 (s.heap.objs.size + 20) (s.heap.objs.size + 2) s.toks) trivial fun s2 I3 T3 _ _ _ => ?_
    have ts2 := ts_of' (L := [_, _, _, _, _, _, _, _, _]) (H := [_] ++ H) I2 T3
    have I4 := Inv.pickH (L := [_, _, _, _, _, _, _, _, _, _]) (H := H) [0, 1, 2, 3, 4, 5, 6, 8, 9] (by decide) I3
    have f0 : LfAt s1.heap (lotO c.g10 c.g11 false) (s.heap.objs.size + 22) := by rw [hx, hy]; exact ⟨_, _, I1.ix 1 rfl⟩
    have f1 : LfAt s1.heap (lotO c.g10 c.g11 true) (s.heap.objs.size + 23) := by rw [hx, hy]; exact ⟨_, I1.ix 0 rfl⟩
    exact K s2 hs (fun i => [ks 0, ks 1, ks 2, ks 3, ks 4, ks 5].getD i 0) (s.heap.objs.size + 2) s.toks (s.heap.objs.size + 20) (s.heap.objs.size + 22) (s.heap.objs.size + 23) I4 (f0.mono ts2) (f1.mono ts2) (fun a l h => ts2 _ _ (ts1 _ _ h))
  · refine go_tail O (by omega) hA I0 [] (by simp) (lw_lot1_01 Y.p Y.b1 Y.b2 s.heap.objs.size s.toks Lw c1 c2 c3 it hs ks us cl 0 ga ea g0 g1 (bn c.g00 : Nat) (bn c.g01 : Nat) (bn c.g10 : Nat) (bn c.g11 : Nat) gt gp ⟨⟨w⟩⟩ wt lo le l0 si 0 ht) ⟨oc_ieq (by rw [hy]; rfl), oc_ieq (by rw [hx]; rfl), oc_ieq (by rw [hy]; rfl), oc_ieq (by rw [hx]; rfl), trivial⟩ fun s1 I1 T1 _ _ _ => ?_
    have ts1 := ts_of' I0 T1
    have I2 := Inv.pickH (L := [_, _, _, _, _, _, _, _, _, _, _, _, _]) (H := H) [4, 5, 6, 7, 8, 9, 10, 11, 12, 2] (by decide) I1
    refine go_code O (by omega) hA (L := [_, _, _, _, _, _, _, _, _]) (H := [_] ++ H) I2 [] (by simp) (lw_lot_end Y.p Y.b1 Y.b2 s1.heap.objs.size s1.toks Lw c1 c2 c3 it hs (fun i => [ks 0, ks 1, ks 2, ks 3, ks 4, ks 5].getD i 0) us cl 0 ga ea g0 g1 (bn c.g00 : Nat) (bn c.g01 : Nat) (bn c.g10 : Nat) (bn c.g11 : Nat) gt gp ⟨⟨w⟩⟩ wt lo (le + 1) l0 (s.heap.objs.size + 20) (s.heap.objs.size + 2) s.toks) trivial fun s2 I3 T3 _ _ _ => ?_
    have ts2 := ts_of' (L := [_, _, _, _, _, _, _, _, _]) (H := [_] ++ H) I2 T3
    have I4 := Inv.pickH (L := [_, _, _, _, _, _, _, _, _, _]) (H := H) [0, 1, 2, 3, 4, 5, 6, 8, 9] (by decide) I3
    have f0 : LfAt s1.heap (lotO c.g10 c.g11 false) (s.heap.objs.size + 22) := by rw [hx, hy]; exact ⟨_, _, I1.ix 1 rfl⟩
    have f1 : LfAt s1.heap (lotO c.g10 c.g11 true) (s.heap.objs.size + 23) := by rw [hx, hy]; exact ⟨_, _, I1.ix 0 rfl⟩
    exact K s2 hs (fun i => [ks 0, ks 1, ks 2, ks 3, ks 4, ks 5].getD i 0) (s.heap.objs.size + 2) s.toks (s.heap.objs.size + 20) (s.heap.objs.size + 22) (s.heap.objs.size + 23) I4 (f0.mono ts2) (f1.mono ts2) (fun a l h => ts2 _ _ (ts1 _ _ h))
  · refine go_tail O (by omega) hA I0 [] (by simp) (lw_lot1_10 Y.p Y.b1 Y.b2 s.heap.objs.size s.toks Lw c1 c2 c3 it hs ks us cl 0 ga ea g0 g1 (bn c.g00 : Nat) (bn c.g01 : Nat) (bn c.g10 : Nat) (bn c.g11 : Nat) gt gp ⟨⟨w⟩⟩ wt lo le l0 si 0 ht) ⟨oc_ieq (by rw [hy]; rfl), oc_ieq (by rw [hx]; rfl), oc_ieq (by rw [hy]; rfl), oc_ieq (by rw [hx]; rfl), trivial⟩ fun s1 I1 T1 _ _ _ => ?_
    have ts1 := ts_of' I0 T1
    have I2 := Inv.pickH (L := [_, _, _, _, _, _, _, _, _, _, _, _, _]) (H := H) [4, 5, 6, 7, 8, 9, 10, 11, 12, 2] (by decide) I1
    refine go_code O (by omega) hA (L := [_, _, _, _, _, _, _, _, _]) (H := [_] ++ H) I2 [] (by simp) (lw_lot_end Y.p Y.b1 Y.b2 s1.heap.objs.size s1.toks Lw c1 c2 c3 it hs (fun i => [ks 0, ks 1, ks 2, ks 3, ks 4, ks 5].getD i 0) us cl 0 ga ea g0 g1 (bn c.g00 : Nat) (bn c.g01 : Nat) (bn c.g10 : Nat) (bn c.g11 : Nat) gt gp ⟨⟨w⟩⟩ wt lo (le + 1) l0 (s.heap.objs.size + 20) (s.heap.objs.size + 2) s.toks) trivial fun s2 I3 T3 _ _ _ => ?_
    have ts2 := ts_of' (L := [_, _, _, _, _, _, _, _, _]) (H := [_] ++ H) I2 T3
    have I4 := Inv.pickH (L := [_, _, _, _, _, _, _, _, _, _]) (H := H) [0, 1, 2, 3, 4, 5, 6, 8, 9] (by decide) I3
    have f0 : LfAt s1.heap (lotO c.g10 c.g11 false) (s.heap.objs.size + 22) := by rw [hx, hy]; exact ⟨_, _, I1.ix 1 rfl⟩
    have f1 : LfAt s1.heap (lotO c.g10 c.g11 true) (s.heap.objs.size + 23) := by rw [hx, hy]; exact ⟨_, _, I1.ix 0 rfl⟩
    exact K s2 hs (fun i => [ks 0, ks 1, ks 2, ks 3, ks 4, ks 5].getD i 0) (s.heap.objs.size + 2) s.toks (s.heap.objs.size + 20) (s.heap.objs.size + 22) (s.heap.objs.size + 23) I4 (f0.mono ts2) (f1.mono ts2) (fun a l h => ts2 _ _ (ts1 _ _ h))
  · refine go_tail O (by omega) hA I0 [] (by simp) (lw_lot1_11 Y.p Y.b1 Y.b2 s.heap.objs.size s.toks Lw c1 c2 c3 it hs ks us cl 0 ga ea g0 g1 (bn c.g00 : Nat) (bn c.g01 : Nat) (bn c.g10 : Nat) (bn c.g11 : Nat) gt gp ⟨⟨w⟩⟩ wt lo le l0 si 0 ht) ⟨oc_ieq (by rw [hy]; rfl), oc_ieq (by rw [hx]; rfl), oc_ieq (by rw [hy]; rfl), oc_ieq (by rw [hx]; rfl), trivial⟩ fun s1 I1 T1 _ _ _ => ?_
    have ts1 := ts_of' I0 T1
    have I2 := Inv.pickH (L := [_, _, _, _, _, _, _, _, _, _, _, _, _]) (H := H) [4, 5, 6, 7, 8, 9, 10, 11, 12, 2] (by decide) I1
    refine go_code O (by omega) hA (L := [_, _, _, _, _, _, _, _, _]) (H := [_] ++ H) I2 [] (by simp) (lw_lot_end Y.p Y.b1 Y.b2 s1.heap.objs.size s1.toks Lw c1 c2 c3 it hs (fun i => [ks 0, ks 1, ks 2, ks 3, ks 4, ks 5].getD i 0) us cl 0 ga ea g0 g1 (bn c.g00 : Nat) (bn c.g01 : Nat) (bn c.g10 : Nat) (bn c.g11 : Nat) gt gp ⟨⟨w⟩⟩ wt lo (le + 1) l0 (s.heap.objs.size + 20) (s.heap.objs.size + 2) s.toks) trivial fun s2 I3 T3 _ _ _ => ?_
    have ts2 := ts_of' (L := [_, _, _, _, _, _, _, _, _]) (H := [_] ++ H) I2 T3
    have I4 := Inv.pickH (L := [_, _, _, _, _, _, _, _, _, _]) (H := H) [0, 1, 2, 3, 4, 5, 6, 8, 9] (by decide) I3
    have f0 : LfAt s1.heap (lotO c.g10 c.g11 false) (s.heap.objs.size + 22) := by rw [hx, hy]; exact ⟨_, I1.ix 1 rfl⟩
    have f1 : LfAt s1.heap (lotO c.g10 c.g11 true) (s.heap.objs.size + 23) := by rw [hx, hy]; exact ⟨_, _, I1.ix 0 rfl⟩
    exact K s2 hs (fun i => [ks 0, ks 1, ks 2, ks 3, ks 4, ks 5].getD i 0) (s.heap.objs.size + 2) s.toks (s.heap.objs.size + 20) (s.heap.objs.size + 22) (s.heap.objs.size + 23) I4 (f0.mono ts2) (f1.mono ts2) (fun a l h => ts2 _ _ (ts1 _ _ h))
theorem lots_0 (O : Y.x.Ok) (hdd : d ≤ 400) (hA : AB d u A) {hs : Nat → Int} {ks : Nat → Nat} {le : Nat} (I : Inv Y.x s ([⟨Lw, { cls := .type "frame", data := .dict ⟨[eh hs ks 0 n_script (.ref 660), eh hs ks 1 n_usual (.ref us), eh hs ks 2 n_ends (.ref ea), ⟨hs 3, sv n_word (ks 3), .str ⟨⟨w⟩⟩ wt⟩, eh hs ks 4 n_lots (.ref lo)]⟩ 5 }, true⟩, et c1 (cel (some (.ref cl))), et c2 (cel none), et c3 (cel (some (.ref ga))), et ga (lst [.ref g0, .ref g1] (gp 0)), et g0 (lst [.int (bn c.g00 : Nat) (gt 0), .int (bn c.g01 : Nat) (gt 1)] (gp 1)), et g1 (lst [.int (bn c.g10 : Nat) (gt 2), .int (bn c.g11 : Nat) (gt 3)] (gp 2)), et it (ri [.int 0 0, .int 2 0, .int 1 0]), et lo (lst [] le)] ++ H))
    (K : ∀ s' (hs : Nat → Int) (ks : Nat → Nat) (si ht l0 l1 a00 a01 a10 a11 : Nat), Inv Y.x s' ([⟨Lw, { cls := .type "frame", data := .dict ⟨[eh hs ks 0 n_script (.ref 660), eh hs ks 1 n_usual (.ref us), eh hs ks 2 n_ends (.ref ea), ⟨hs 3, sv n_word (ks 3), .str ⟨⟨w⟩⟩ wt⟩, eh hs ks 4 n_lots (.ref lo), eh hs ks 5 n_signs (.ref si)]⟩ 6 }, true⟩, et c1 (cel (some (.ref cl))), et c2 (cel (some (.int 1 ht))), et c3 (cel (some (.ref ga))), et ga (lst [.ref g0, .ref g1] (gp 0)), et g0 (lst [.int (bn c.g00 : Nat) (gt 0), .int (bn c.g01 : Nat) (gt 1)] (gp 1)), et g1 (lst [.int (bn c.g10 : Nat) (gt 2), .int (bn c.g11 : Nat) (gt 3)] (gp 2)), et lo (lst [.ref l0, .ref l1] (le + 1 + 1)), et l1 (lst [.ref a10, .ref a11] 2), et l0 (lst [.ref a00, .ref a01] 2)] ++ H) → LfAt s'.heap (lotO c.g00 c.g01 false) a00 → LfAt s'.heap (lotO c.g00 c.g01 true) a01 → LfAt s'.heap (lotO c.g10 c.g11 false) a10 → LfAt s'.heap (lotO c.g10 c.g11 true) a11 → Ts s.heap s'.heap → R (.ok .next) s') : codeAny Y.x.M A (fC Y.p 6 Lw c1 c2 c3 it) R s := by
  have I0 := Inv.pickH (L := [_, _, _, _, _, _, _, _, _]) (H := H) [0, 1, 2, 3, 4, 5, 6, 7, 8] (by decide) I
  cases hx : c.g00 <;> cases hy : c.g01
  · refine go_tail O (by omega) hA I0 [] (by simp) (lw_lot0_00 Y.p Y.b1 Y.b2 s.heap.objs.size s.toks Lw c1 c2 c3 it hs ks us cl 0 ga ea g0 g1 (bn c.g00 : Nat) (bn c.g01 : Nat) (bn c.g10 : Nat) (bn c.g11 : Nat) gt gp ⟨⟨w⟩⟩ wt lo le 0 0) ⟨oc_ieq (by rw [hy]; rfl), oc_ieq (by rw [hx]; rfl), oc_ieq (by rw [hy]; rfl), oc_ieq (by rw [hx]; rfl), trivial⟩ fun s1 I1 T1 _ _ _ => ?_
    have ts1 := ts_of' I0 T1
    have I2 := Inv.pickH (L := [_, _, _, _, _, _, _, _, _, _, _, _, _]) (H := H) [4, 5, 6, 7, 8, 9, 10, 11, 12, 2] (by decide) I1
    have f0 : LfAt s1.heap (lotO c.g00 c.g01 false) (s.heap.objs.size + 22) := by rw [hx, hy]; exact ⟨_, _, I1.ix 1 rfl⟩
    have f1 : LfAt s1.heap (lotO c.g00 c.g01 true) (s.heap.objs.size + 23) := by rw [hx, hy]; exact ⟨_, I1.ix 0 rfl⟩
    refine lots_1 (c := c) (w := w) (ga := ga) (g0 := g0) (g1 := g1) (gp := gp) (gt := gt) (lo := lo) (us := us) (cl := cl) (ea := ea) (wt := wt) (hs := fun i => [hs 0, hs 1, hs 2, hs 3, hs 4, kh Y.p n_signs].getD i 0) (ks := fun i => [ks 0, ks 1, ks 2, ks 3, ks 4, s.toks + 28].getD i 0) (si := s.heap.objs.size + 2) (ht := s.toks) (l0 := s.heap.objs.size + 20) (le := le + 1) (H := [_] ++ H) O hdd hA I2 fun s2 hs2 ks2 si2 ht2 l1 a10 a11 I3 h10 h11 ts2 => ?_
    have I4 := Inv.pickH (L := [_, _, _, _, _, _, _, _, _, _]) (H := H) [0, 1, 2, 3, 4, 5, 6, 7, 8, 9] (by decide) I3
    exact K s2 hs2 ks2 si2 ht2 (s.heap.objs.size + 20) l1 (s.heap.objs.size + 22) (s.heap.objs.size + 23) a10 a11 I4 (f0.mono ts2) (f1.mono ts2) h10 h11 (fun a l h => ts2 _ _ (ts1 _ _ h))
  · refine go_tail O (by omega) hA I0 [] (by simp) (lw_lot0_01 Y.p Y.b1 Y.b2 s.heap.objs.size s.toks Lw c1 c2 c3 it hs ks us cl 0 ga ea g0 g1 (bn c.g00 : Nat) (bn c.g01 : Nat) (bn c.g10 : Nat) (bn c.g11 : Nat) gt gp ⟨⟨w⟩⟩ wt lo le 0 0) ⟨oc_ieq (by rw [hy]; rfl), oc_ieq (by rw [hx]; rfl), oc_ieq (by rw [hy]; rfl), oc_ieq (by rw [hx]; rfl), trivial⟩ fun s1 I1 T1 _ _ _ => ?_
    have ts1 := ts_of' I0 T1
    have I2 := Inv.pickH (L := [_, _, _, _, _, _, _, _, _, _, _, _, _]) (H := H) [4, 5, 6, 7, 8, 9, 10, 11, 12, 2] (by decide) I1
    have f0 : LfAt s1.heap (lotO c.g00 c.g01 false) (s.heap.objs.size + 22) := by rw [hx, hy]; exact ⟨_, _, I1.ix 1 rfl⟩
    have f1 : LfAt s1.heap (lotO c.g00 c.g01 true) (s.heap.objs.size + 23) := by rw [hx, hy]; exact ⟨_, _, I1.ix 0 rfl⟩
    refine lots_1 (c := c) (w := w) (ga := ga) (g0 := g0) (g1 := g1) (gp := gp) (gt := gt) (lo := lo) (us := us) (cl := cl) (ea := ea) (wt := wt) (hs := fun i => [hs 0, hs 1, hs 2, hs 3, hs 4, kh Y.p n_signs].getD i 0) (ks := fun i => [ks 0, ks 1, ks 2, ks 3, ks 4, s.toks + 26].getD i 0) (si := s.heap.objs.size + 2) (ht := s.toks) (l0 := s.heap.objs.size + 20) (le := le + 1) (H := [_] ++ H) O hdd hA I2 fun s2 hs2 ks2 si2 ht2 l1 a10 a11 I3 h10 h11 ts2 => ?_
    have I4 := Inv.pickH (L := [_, _, _, _, _, _, _, _, _, _]) (H := H) [0, 1, 2, 3, 4, 5, 6, 7, 8, 9] (by decide) I3
    exact K s2 hs2 ks2 si2 ht2 (s.heap.objs.size + 20) l1 (s.heap.objs.size + 22) (s.heap.objs.size + 23) a10 a11 I4 (f0.mono ts2) (f1.mono ts2) h10 h11 (fun a l h => ts2 _ _ (ts1 _ _ h))
  · refine go_tail O (by omega) hA I0 [] (by simp) (lw_lot0_10 Y.p Y.b1 Y.b2 s.heap.objs.size s.toks Lw c1 c2 c3 it hs ks us cl 0 ga ea g0 g1 (bn c.g00 : Nat) (bn c.g01 : Nat) (bn c.g10 : Nat) (bn c.g11 : Nat) gt gp ⟨⟨w⟩⟩ wt lo le 0 0) ⟨oc_ieq (by rw [hy]; rfl), oc_ieq (by rw [hx]; rfl), oc_ieq (by rw [hy]; rfl), oc_ieq (by rw [hx]; rfl), trivial⟩ fun s1 I1 T1 _ _ _ => ?_
    have ts1 := ts_of' I0 T1
    have I2 := Inv.pickH (L := [_, _, _, _, _, _, _, _, _, _, _, _, _]) (H := H) [4, 5, 6, 7, 8, 9, 10, 11, 12, 2] (by decide) I1
    have f0 : LfAt s1.heap (lotO c.g00 c.g01 false) (s.heap.objs.size + 22) := by rw [hx, hy]; exact ⟨_, _, I1.ix 1 rfl⟩
    have f1 : LfAt s1.heap (lotO c.g00 c.g01 true) (s.heap.objs.size + 23) := by rw [hx, hy]; exact ⟨_, _, I1.ix 0 rfl⟩
    refine lots_1 (c := c) (w := w) (ga := ga) (g0 := g0) (g1 := g1) (gp := gp) (gt := gt) (lo := lo) (us := us) (cl := cl) (ea := ea) (wt := wt) (hs := fun i => [hs 0, hs 1, hs 2, hs 3, hs 4, kh Y.p n_signs].getD i 0) (ks := fun i => [ks 0, ks 1, ks 2, ks 3, ks 4, s.toks + 26].getD i 0) (si := s.heap.objs.size + 2) (ht := s.toks) (l0 := s.heap.objs.size + 20) (le := le + 1) (H := [_] ++ H) O hdd hA I2 fun s2 hs2 ks2 si2 ht2 l1 a10 a11 I3 h10 h11 ts2 => ?_
    have I4 := Inv.pickH (L := [_, _, _, _, _, _, _, _, _, _]) (H := H) [0, 1, 2, 3, 4, 5, 6, 7, 8, 9] (by decide) I3
    exact K s2 hs2 ks2 si2 ht2 (s.heap.objs.size + 20) l1 (s.heap.objs.size + 22) (s.heap.objs.size + 23) a10 a11 I4 (f0.mono ts2) (f1.mono ts2) h10 h11 (fun a l h => ts2 _ _ (ts1 _ _ h))
  · refine go_tail O (by omega) hA I0 [] (by simp) (lw_lot0_11 Y.p Y.b1 Y.b2 s.heap.objs.size s.toks Lw c1 c2 c3 it hs ks us cl 0 ga ea g0 g1 (bn c.g00 : Nat) (bn c.g01 : Nat) (bn c.g10 : Nat) (bn c.g11 : Nat) gt gp ⟨⟨w⟩⟩ wt lo le 0 0) ⟨oc_ieq (by rw [hy]; rfl), oc_ieq (by rw [hx]; rfl), oc_ieq (by rw [hy]; rfl), oc_ieq (by rw [hx]; rfl), trivial⟩ fun s1 I1 T1 _ _ _ => ?_
    have ts1 := ts_of' I0 T1
    have I2 := Inv.pickH (L := [_, _, _, _, _, _, _, _, _, _, _, _, _]) (H := H) [4, 5, 6, 7, 8, 9, 10, 11, 12, 2] (by decide) I1
    have f0 : LfAt s1.heap (lotO c.g00 c.g01 false) (s.heap.objs.size + 22) := by rw [hx, hy]; exact ⟨_, I1.ix 1 rfl⟩
    have f1 : LfAt s1.heap (lotO c.g00 c.g01 true) (s.heap.objs.size + 23) := by rw [hx, hy]; exact ⟨_, _, I1.ix 0 rfl⟩
    refine lots_1 (c := c) (w := w) (ga := ga) (g0 := g0) (g1 := g1) (gp := gp) (gt := gt) (lo := lo) (us := us) (cl := cl) (ea := ea) (wt := wt) (hs := fun i => [hs 0, hs 1, hs 2, hs 3, hs 4, kh Y.p n_signs].getD i 0) (ks := fun i => [ks 0, ks 1, ks 2, ks 3, ks 4, s.toks + 28].getD i 0) (si := s.heap.objs.size + 2) (ht := s.toks) (l0 := s.heap.objs.size + 20) (le := le + 1) (H := [_] ++ H) O hdd hA I2 fun s2 hs2 ks2 si2 ht2 l1 a10 a11 I3 h10 h11 ts2 => ?_
    have I4 := Inv.pickH (L := [_, _, _, _, _, _, _, _, _, _]) (H := H) [0, 1, 2, 3, 4, 5, 6, 7, 8, 9] (by decide) I3
    exact K s2 hs2 ks2 si2 ht2 (s.heap.objs.size + 20) l1 (s.heap.objs.size + 22) (s.heap.objs.size + 23) a10 a11 I4 (f0.mono ts2) (f1.mono ts2) h10 h11 (fun a l h => ts2 _ _ (ts1 _ _ h))
theorem law_lots (O : Y.x.Ok) (hdd : d ≤ 310) (hu : u ≤ 5900) (hw : Y.w.params = PP Y.p Y.b1 Y.b2) (hA : AB d u A) (hz : w.length ≤ 5) (hch : ∀ x ∈ w, x = 97 ∨ x = 98) {hs : Nat → Int} {ks : Nat → Nat} {E0 E1 ep : Nat}
    (I : Inv Y.x s ([⟨Lw, { cls := .type "frame", data := .dict ⟨[eh hs ks 0 n_script (.ref 660), eh hs ks 1 n_usual (.ref us), eh hs ks 2 n_ends (.ref ea), ⟨hs 3, sv n_word (ks 3), .str ⟨⟨w⟩⟩ wt⟩]⟩ 4 }, true⟩, et c1 (cel (some (.ref cl))), et c2 (cel none), et c3 (cel (some (.ref ga))), et ga (lst [.ref g0, .ref g1] (gp 0)), et g0 (lst [.int (bn c.g00 : Nat) (gt 0), .int (bn c.g01 : Nat) (gt 1)] (gp 1)), et g1 (lst [.int (bn c.g10 : Nat) (gt 2), .int (bn c.g11 : Nat) (gt 3)] (gp 2)), et ea (lst [.ref E0, .ref E1] ep)] ++ H)) (l0 : LfAt s.heap (endO c.e0) E0) (l1 : LfAt s.heap (endO c.e1) E1) (K : LK Y R) :
    wpOwn Y.x.M A (.func (bodyAt Y.p 659) (envL Y.p Lw c1 c2 c3)) (execs (lS Y.p 5 2 ++ (lS Y.p 7 4 ++ (lS Y.p 11 1 ++ (lS Y.p 12 1 ++ (lS Y.p 13 1 ++ lS Y.p 14 1))))) (envL Y.p Lw c1 c2 c3)) (fun f s' => R (.ok (.ret (match f with | .ret v => v | _ => .none))) s') (fun _ _ => False) s := by
  have I0 := Inv.pickH (L := [_, _, _, _, _, _, _, _]) (H := H) [0, 1, 2, 3, 4, 5, 6, 7] (by decide) I
  refine own_step (go_stop O (by omega) hA (L := [_, _, _, _, _, _, _]) (H := [_] ++ H) I0 [] (by simp) (lw_lots Y.p Y.b1 Y.b2 s.heap.objs.size s.toks Lw c1 c2 c3 hs ks us cl 0 ga ea g0 g1 (bn c.g00 : Nat) (bn c.g01 : Nat) (bn c.g10 : Nat) (bn c.g11 : Nat) gt gp ⟨⟨w⟩⟩ wt) trivial fun A' s1 hA' I1 T1 _ _ _ => ?_)
  have ts1 := ts_of' (L := [_, _, _, _, _, _, _]) (H := [_] ++ H) I0 T1
  have I2 := Inv.pickH (L := [_, _, _, _, _, _, _, _, _, _]) (H := H) [2, 3, 4, 5, 6, 7, 8, 0, 1, 9] (by decide) I1
  refine lots_0 (c := c) (w := w) (ga := ga) (g0 := g0) (g1 := g1) (gp := gp) (gt := gt) (lo := s.heap.objs.size) (us := us) (cl := cl) (ea := ea) (wt := wt) (hs := fun i => [hs 0, hs 1, hs 2, hs 3, kh Y.p n_lots].getD i 0) (ks := fun i => [ks 0, ks 1, ks 2, ks 3, s.toks].getD i 0) (le := 0) (H := [_] ++ H) O (by omega) hA' I2 fun s2 hs2 ks2 si ht lo0 lo1 a00 a01 a10 a11 I3 h00 h01 h10 h11 ts2 => ?_
  refine go_back (L := []) I3 [] (by simp) (lots_back Y.p Y.b1 Y.b2 s.heap.objs.size s.toks Lw c1 c2 c3 hs ks us cl 0 ga ea g0 g1 (bn c.g00 : Nat) (bn c.g01 : Nat) (bn c.g10 : Nat) (bn c.g11 : Nat) gt gp ⟨⟨w⟩⟩ wt s2.heap.objs.size s2.toks) trivial fun s3 I4 T4 _ _ _ => ?_
  have ts4 := ts_of' (L := []) I3 T4
  have ts : Ts s.heap s3.heap := fun a l h => ts4 _ _ (ts2 _ _ (ts1 _ _ h))
  have I5 := Inv.pickH (L := [_, _, _, _, _, _, _, _, _, _, _]) (H := H) [0, 1, 2, 3, 7, 9, 8, 10, 4, 5, 6] (by decide) I4
  show wpOwn _ _ _ _ _ _ _
  exact law_mid (lp := fun i => [0 + 1 + 1, 2, 2, ep].getD i 0) (gp := gp) (gt := gt) O (by omega) (by omega) hw hA c w hz hch I5 ⟨h00.mono ts4, h01.mono ts4, h10.mono ts4, h11.mono ts4, l0.mono ts, l1.mono ts, lot_isLot _ _ _, lot_isLot _ _ _, lot_isLot _ _ _, lot_isLot _ _ _, end_isFin _, end_isFin _⟩ K
end
end
section
open PySem PySem.W PySem.W.X PySem.Calls PySem.Spec PyProof.Rows
theorem fmod2 (x : Int) : x.fmod 2 = 0 ∨ x.fmod 2 = 1 := by
  rw [Int.fmod_eq_emod_of_nonneg x (by decide)]; omega
theorem bn_eq (x : Int) : x.fmod 2 = ((bn (x.fmod 2 == 1) : Nat) : Int) := by
  rcases fmod2 x with h | h <;> rw [h] <;> rfl
noncomputable def hb (v : Int) : Nat := if v = 0 then 97 else 98
theorem hb_or (v : Int) : hb v = 97 ∨ hb v = 98 := by unfold hb; split <;> simp
theorem oc_ab {prog : Program} {wd : World} (x : Int) {t u : Tok} : OcOk1 prog wd (.gv 500416356548588640944365259017385332 [sv [97, 98] t, .int (x.fmod 2) u] (fun t => .str ({ cps := #[hb (x.fmod 2)] }) t) 1) := by
  rcases fmod2 x with h | h <;> rw [h]
  · exact oc_item (by decide) (by decide)
  · exact oc_item (by decide) (by decide)
noncomputable def cfOf (c0 : Int) : Cf := ⟨(c0.fdiv 1).fmod 2 == 1, (c0.fdiv (2 ^ 1)).fmod 2 == 1, (c0.fdiv (2 ^ 2)).fmod 2 == 1, (c0.fdiv (2 ^ 3)).fmod 2 == 1, (c0.fdiv (2 ^ 4)).fmod 2 == 1, (c0.fdiv (2 ^ 5)).fmod 2 == 1⟩
theorem fmod6 (x : Int) : x.fmod 6 = 0 ∨ x.fmod 6 = 1 ∨ x.fmod 6 = 2 ∨ x.fmod 6 = 3 ∨ x.fmod 6 = 4 ∨ x.fmod 6 = 5 := by
  rw [Int.fmod_eq_emod_of_nonneg x (by decide)]; omega
section
variable {Y : Cy} {A : Around} {d u : Nat} {R : Result → Shared → Prop} {H : List En} {s : Shared} {c : Cf} {Lw c1 c2 c3 us cl ga g0 g1 ce d0 d1 d2 : Nat} {gp gt : Nat → Nat} {c0 c1v c2v : Int}
theorem law_word (O : Y.x.Ok) (hdd : d ≤ 310) (hu : u ≤ 5900) (hw : Y.w.params = PP Y.p Y.b1 Y.b2) (hA : AB d u A) {hs : Nat → Int} {ks : Nat → Nat} {ea E0 E1 ep : Nat} {b : List Stmt} (hb : b = lS Y.p 4 1)
    (I : Inv Y.x s ([et Lw (fq21 hs ks (.ref 660) (.ref us) (.ref ea) 3), et c1 (cel (some (.ref cl))), et c2 (cel none), et c3 (cel (some (.ref ga))), et cl (lst [.int c0 d0, .int c1v d1, .int c2v d2] ce), et ga (lst [.ref g0, .ref g1] (gp 0)), et g0 (lst [.int (bn c.g00 : Nat) (gt 0), .int (bn c.g01 : Nat) (gt 1)] (gp 1)), et g1 (lst [.int (bn c.g10 : Nat) (gt 2), .int (bn c.g11 : Nat) (gt 3)] (gp 2)), et ea (lst [.ref E0, .ref E1] ep)] ++ H)) (l0 : LfAt s.heap (endO c.e0) E0) (l1 : LfAt s.heap (endO c.e1) E1) (K : LK Y R) :
    wpOwn Y.x.M A (.func (bodyAt Y.p 659) (envL Y.p Lw c1 c2 c3)) (execs (b ++ (lS Y.p 5 2 ++ (lS Y.p 7 4 ++ (lS Y.p 11 1 ++ (lS Y.p 12 1 ++ (lS Y.p 13 1 ++ lS Y.p 14 1)))))) (envL Y.p Lw c1 c2 c3)) (fun f s' => R (.ok (.ret (match f with | .ret v => v | _ => .none))) s') (fun _ _ => False) s := by
  have I0 := Inv.pickH (L := [_, _, _, _, _, _, _, _, _]) (H := H) [0, 1, 2, 3, 4, 5, 6, 7, 8] (by decide) I
  rcases fmod6 c1v with h6 | h6 | h6 | h6 | h6 | h6
  · refine own_step ?_
    subst hb
    refine go_ret O (by omega) hA (L := [_, _, _, _, _]) (H := [_, _, _, _] ++ H) I0 [] (by simp) (lw_word0 Y.p Y.b1 Y.b2 s.heap.objs.size s.toks Lw c1 c2 c3 hs ks us cl ce c0 c1v c2v d0 d1 d2 ga ea  ) ⟨oc_mod (by decide) h6, trivial⟩ fun s1 I1 T1 _ _ _ => ?_
    have ts := ts_of' (L := [_, _, _, _, _]) (H := [_, _, _, _] ++ H) I0 T1
    have I2 := Inv.pickH (L := [_, _, _, _, _, _, _, _, _]) (H := H) [0, 1, 2, 3, 5, 6, 7, 8] (by decide) I1
    show wpOwn _ _ _ _ _ _ _
    exact law_lots (c := c) (w := []) (hs := fun i => [hs 0, hs 1, hs 2, kh Y.p n_word].getD i 0) (ks := fun i => [ks 0, ks 1, ks 2, (s.toks + 7)].getD i 0) (gp := gp) (gt := gt) O hdd hu hw hA (by simp) (by simp [hb_or]) I2 (l0.mono ts) (l1.mono ts) K
  · refine own_step ?_
    subst hb
    refine go_ret O (by omega) hA (L := [_, _, _, _, _]) (H := [_, _, _, _] ++ H) I0 [] (by simp) (lw_word1 Y.p Y.b1 Y.b2 s.heap.objs.size s.toks Lw c1 c2 c3 hs ks us cl ce c0 c1v c2v d0 d1 d2 ga ea ((c2v.fdiv 1).fmod 2) (hb ((c2v.fdiv 1).fmod 2))) ⟨oc_ab _, oc_mod (by decide) rfl, oc_mod (by decide) h6, trivial⟩ fun s1 I1 T1 _ _ _ => ?_
    have ts := ts_of' (L := [_, _, _, _, _]) (H := [_, _, _, _] ++ H) I0 T1
    have I2 := Inv.pickH (L := [_, _, _, _, _, _, _, _, _]) (H := H) [0, 1, 2, 3, 5, 6, 7, 8] (by decide) I1
    show wpOwn _ _ _ _ _ _ _
    exact law_lots (c := c) (w := [hb ((c2v.fdiv 1).fmod 2)]) (hs := fun i => [hs 0, hs 1, hs 2, kh Y.p n_word].getD i 0) (ks := fun i => [ks 0, ks 1, ks 2, (s.toks + 16)].getD i 0) (gp := gp) (gt := gt) O hdd hu hw hA (by simp) (by simp [hb_or]) I2 (l0.mono ts) (l1.mono ts) K
  · refine own_step ?_
    subst hb
    refine go_ret O (by omega) hA (L := [_, _, _, _, _]) (H := [_, _, _, _] ++ H) I0 [] (by simp) (lw_word2 Y.p Y.b1 Y.b2 s.heap.objs.size s.toks Lw c1 c2 c3 hs ks us cl ce c0 c1v c2v d0 d1 d2 ga ea ((c2v.fdiv 1).fmod 2) ((c2v.fdiv (2 ^ 1)).fmod 2) (hb ((c2v.fdiv 1).fmod 2)) (hb ((c2v.fdiv (2 ^ 1)).fmod 2))) ⟨oc_ab _, oc_mod (by decide) rfl, oc_ab _, oc_mod (by decide) rfl, oc_mod (by decide) h6, trivial⟩ fun s1 I1 T1 _ _ _ => ?_
    have ts := ts_of' (L := [_, _, _, _, _]) (H := [_, _, _, _] ++ H) I0 T1
    have I2 := Inv.pickH (L := [_, _, _, _, _, _, _, _, _]) (H := H) [0, 1, 2, 3, 5, 6, 7, 8] (by decide) I1
    show wpOwn _ _ _ _ _ _ _
    exact law_lots (c := c) (w := [hb ((c2v.fdiv 1).fmod 2), hb ((c2v.fdiv (2 ^ 1)).fmod 2)]) (hs := fun i => [hs 0, hs 1, hs 2, kh Y.p n_word].getD i 0) (ks := fun i => [ks 0, ks 1, ks 2, (s.toks + 27)].getD i 0) (gp := gp) (gt := gt) O hdd hu hw hA (by simp) (by simp [hb_or]) I2 (l0.mono ts) (l1.mono ts) K
  · refine own_step ?_
    subst hb
    refine go_ret O (by omega) hA (L := [_, _, _, _, _]) (H := [_, _, _, _] ++ H) I0 [] (by simp) (lw_word3 Y.p Y.b1 Y.b2 s.heap.objs.size s.toks Lw c1 c2 c3 hs ks us cl ce c0 c1v c2v d0 d1 d2 ga ea ((c2v.fdiv 1).fmod 2) ((c2v.fdiv (2 ^ 1)).fmod 2) ((c2v.fdiv (2 ^ 2)).fmod 2) (hb ((c2v.fdiv 1).fmod 2)) (hb ((c2v.fdiv (2 ^ 1)).fmod 2)) (hb ((c2v.fdiv (2 ^ 2)).fmod 2))) ⟨oc_ab _, oc_mod (by decide) rfl, oc_ab _, oc_mod (by decide) rfl, oc_ab _, oc_mod (by decide) rfl, oc_mod (by decide) h6, trivial⟩ fun s1 I1 T1 _ _ _ => ?_
    have ts := ts_of' (L := [_, _, _, _, _]) (H := [_, _, _, _] ++ H) I0 T1
    have I2 := Inv.pickH (L := [_, _, _, _, _, _, _, _, _]) (H := H) [0, 1, 2, 3, 5, 6, 7, 8] (by decide) I1
    show wpOwn _ _ _ _ _ _ _
    exact law_lots (c := c) (w := [hb ((c2v.fdiv 1).fmod 2), hb ((c2v.fdiv (2 ^ 1)).fmod 2), hb ((c2v.fdiv (2 ^ 2)).fmod 2)]) (hs := fun i => [hs 0, hs 1, hs 2, kh Y.p n_word].getD i 0) (ks := fun i => [ks 0, ks 1, ks 2, (s.toks + 37)].getD i 0) (gp := gp) (gt := gt) O hdd hu hw hA (by simp) (by simp [hb_or]) I2 (l0.mono ts) (l1.mono ts) K
  · refine own_step ?_
    subst hb
    refine go_ret O (by omega) hA (L := [_, _, _, _, _]) (H := [_, _, _, _] ++ H) I0 [] (by simp) (lw_word4 Y.p Y.b1 Y.b2 s.heap.objs.size s.toks Lw c1 c2 c3 hs ks us cl ce c0 c1v c2v d0 d1 d2 ga ea ((c2v.fdiv 1).fmod 2) ((c2v.fdiv (2 ^ 1)).fmod 2) ((c2v.fdiv (2 ^ 2)).fmod 2) ((c2v.fdiv (2 ^ 3)).fmod 2) (hb ((c2v.fdiv 1).fmod 2)) (hb ((c2v.fdiv (2 ^ 1)).fmod 2)) (hb ((c2v.fdiv (2 ^ 2)).fmod 2)) (hb ((c2v.fdiv (2 ^ 3)).fmod 2))) ⟨oc_ab _, oc_mod (by decide) rfl, oc_ab _, oc_mod (by decide) rfl, oc_ab _, oc_mod (by decide) rfl, oc_ab _, oc_mod (by decide) rfl, oc_mod (by decide) h6, trivial⟩ fun s1 I1 T1 _ _ _ => ?_
    have ts := ts_of' (L := [_, _, _, _, _]) (H := [_, _, _, _] ++ H) I0 T1
    have I2 := Inv.pickH (L := [_, _, _, _, _, _, _, _, _]) (H := H) [0, 1, 2, 3, 5, 6, 7, 8] (by decide) I1
    show wpOwn _ _ _ _ _ _ _
    exact law_lots (c := c) (w := [hb ((c2v.fdiv 1).fmod 2), hb ((c2v.fdiv (2 ^ 1)).fmod 2), hb ((c2v.fdiv (2 ^ 2)).fmod 2), hb ((c2v.fdiv (2 ^ 3)).fmod 2)]) (hs := fun i => [hs 0, hs 1, hs 2, kh Y.p n_word].getD i 0) (ks := fun i => [ks 0, ks 1, ks 2, (s.toks + 47)].getD i 0) (gp := gp) (gt := gt) O hdd hu hw hA (by simp) (by simp [hb_or]) I2 (l0.mono ts) (l1.mono ts) K
  · refine own_step ?_
    subst hb
    refine go_ret O (by omega) hA (L := [_, _, _, _, _]) (H := [_, _, _, _] ++ H) I0 [] (by simp) (lw_word5 Y.p Y.b1 Y.b2 s.heap.objs.size s.toks Lw c1 c2 c3 hs ks us cl ce c0 c1v c2v d0 d1 d2 ga ea ((c2v.fdiv 1).fmod 2) ((c2v.fdiv (2 ^ 1)).fmod 2) ((c2v.fdiv (2 ^ 2)).fmod 2) ((c2v.fdiv (2 ^ 3)).fmod 2) ((c2v.fdiv (2 ^ 4)).fmod 2) (hb ((c2v.fdiv 1).fmod 2)) (hb ((c2v.fdiv (2 ^ 1)).fmod 2)) (hb ((c2v.fdiv (2 ^ 2)).fmod 2)) (hb ((c2v.fdiv (2 ^ 3)).fmod 2)) (hb ((c2v.fdiv (2 ^ 4)).fmod 2))) ⟨oc_ab _, oc_mod (by decide) rfl, oc_ab _, oc_mod (by decide) rfl, oc_ab _, oc_mod (by decide) rfl, oc_ab _, oc_mod (by decide) rfl, oc_ab _, oc_mod (by decide) rfl, oc_mod (by decide) h6, trivial⟩ fun s1 I1 T1 _ _ _ => ?_
    have ts := ts_of' (L := [_, _, _, _, _]) (H := [_, _, _, _] ++ H) I0 T1
    have I2 := Inv.pickH (L := [_, _, _, _, _, _, _, _, _]) (H := H) [0, 1, 2, 3, 5, 6, 7, 8] (by decide) I1
    show wpOwn _ _ _ _ _ _ _
    exact law_lots (c := c) (w := [hb ((c2v.fdiv 1).fmod 2), hb ((c2v.fdiv (2 ^ 1)).fmod 2), hb ((c2v.fdiv (2 ^ 2)).fmod 2), hb ((c2v.fdiv (2 ^ 3)).fmod 2), hb ((c2v.fdiv (2 ^ 4)).fmod 2)]) (hs := fun i => [hs 0, hs 1, hs 2, kh Y.p n_word].getD i 0) (ks := fun i => [ks 0, ks 1, ks 2, (s.toks + 57)].getD i 0) (gp := gp) (gt := gt) O hdd hu hw hA (by simp) (by simp [hb_or]) I2 (l0.mono ts) (l1.mono ts) K
theorem law_ends (O : Y.x.Ok) (hdd : d ≤ 310) (hu : u ≤ 5900) (hw : Y.w.params = PP Y.p Y.b1 Y.b2) (hA : AB d u A) {hs : Nat → Int} {ks : Nat → Nat} (he0 : ((c0.fdiv (2 ^ 4)).fmod 2 == 1) = c.e0) (he1 : ((c0.fdiv (2 ^ 5)).fmod 2 == 1) = c.e1)
    (I : Inv Y.x s ([et Lw (fq19 hs ks (.ref 660) (.ref us) 2), et c1 (cel (some (.ref cl))), et c2 (cel none), et c3 (cel (some (.ref ga))), et cl (lst [.int c0 d0, .int c1v d1, .int c2v d2] ce), et ga (lst [.ref g0, .ref g1] (gp 0)), et g0 (lst [.int (bn c.g00 : Nat) (gt 0), .int (bn c.g01 : Nat) (gt 1)] (gp 1)), et g1 (lst [.int (bn c.g10 : Nat) (gt 2), .int (bn c.g11 : Nat) (gt 3)] (gp 2))] ++ H)) (K : LK Y R) :
    wpOwn Y.x.M A (.func (bodyAt Y.p 659) (envL Y.p Lw c1 c2 c3)) (execs (lS Y.p 3 1 ++ (lS Y.p 4 1 ++ (lS Y.p 5 2 ++ (lS Y.p 7 4 ++ (lS Y.p 11 1 ++ (lS Y.p 12 1 ++ (lS Y.p 13 1 ++ lS Y.p 14 1))))))) (envL Y.p Lw c1 c2 c3)) (fun f s' => R (.ok (.ret (match f with | .ret v => v | _ => .none))) s') (fun _ _ => False) s := by
  have I0 := Inv.pickH (L := [_, _, _, _, _, _, _, _]) (H := H) [0, 1, 2, 3, 4, 5, 6, 7] (by decide) I
  cases h0 : c.e0 <;> cases h1 : c.e1
  · refine own_step (go_ret O (by omega) hA (L := [_, _, _, _, _]) (H := [_, _, _] ++ H) I0 [] (by simp) (lw_ends00 Y.p Y.b1 Y.b2 s.heap.objs.size s.toks Lw c1 c2 c3 hs ks us cl ce c0 c1v c2v d0 d1 d2 ga) ⟨oc_ieq (he1.trans h1), oc_ieq (he0.trans h0), trivial⟩ fun s1 I1 T1 _ _ _ => ?_)
    have I2 := Inv.pickH (L := [_, _, _, _, _, _, _, _, _, _, _]) (H := H) [3, 4, 5, 6, 7, 8, 9, 10, 2] (by decide) I1
    show wpOwn _ _ _ _ _ _ _
    exact law_word (b := _) (hb := rfl) (c := c) (hs := fun i => [hs 0, hs 1, kh Y.p n_ends].getD i 0) (ks := fun i => [ks 0, ks 1, (s.toks + 27)].getD i 0) (gp := gp) (gt := gt) O hdd hu hw hA I2 (by rw [h0]; exact ⟨_, I1.ix 1 rfl⟩) (by rw [h1]; exact ⟨_, I1.ix 0 rfl⟩) K
  · refine own_step (go_ret O (by omega) hA (L := [_, _, _, _, _]) (H := [_, _, _] ++ H) I0 [] (by simp) (lw_ends01 Y.p Y.b1 Y.b2 s.heap.objs.size s.toks Lw c1 c2 c3 hs ks us cl ce c0 c1v c2v d0 d1 d2 ga) ⟨oc_ieq (he1.trans h1), oc_ieq (he0.trans h0), trivial⟩ fun s1 I1 T1 _ _ _ => ?_)
    have I2 := Inv.pickH (L := [_, _, _, _, _, _, _, _, _, _, _]) (H := H) [3, 4, 5, 6, 7, 8, 9, 10, 2] (by decide) I1
    show wpOwn _ _ _ _ _ _ _
    exact law_word (b := _) (hb := rfl) (c := c) (hs := fun i => [hs 0, hs 1, kh Y.p n_ends].getD i 0) (ks := fun i => [ks 0, ks 1, (s.toks + 28)].getD i 0) (gp := gp) (gt := gt) O hdd hu hw hA I2 (by rw [h0]; exact ⟨_, I1.ix 1 rfl⟩) (by rw [h1]; exact ⟨_, _, I1.ix 0 rfl⟩) K
  · refine own_step (go_ret O (by omega) hA (L := [_, _, _, _, _]) (H := [_, _, _] ++ H) I0 [] (by simp) (lw_ends10 Y.p Y.b1 Y.b2 s.heap.objs.size s.toks Lw c1 c2 c3 hs ks us cl ce c0 c1v c2v d0 d1 d2 ga) ⟨oc_ieq (he1.trans h1), oc_ieq (he0.trans h0), trivial⟩ fun s1 I1 T1 _ _ _ => ?_)
    have I2 := Inv.pickH (L := [_, _, _, _, _, _, _, _, _, _, _]) (H := H) [3, 4, 5, 6, 7, 8, 9, 10, 2] (by decide) I1
    show wpOwn _ _ _ _ _ _ _
    exact law_word (b := _) (hb := rfl) (c := c) (hs := fun i => [hs 0, hs 1, kh Y.p n_ends].getD i 0) (ks := fun i => [ks 0, ks 1, (s.toks + 28)].getD i 0) (gp := gp) (gt := gt) O hdd hu hw hA I2 (by rw [h0]; exact ⟨_, _, I1.ix 1 rfl⟩) (by rw [h1]; exact ⟨_, I1.ix 0 rfl⟩) K
  · refine own_step (go_ret O (by omega) hA (L := [_, _, _, _, _]) (H := [_, _, _] ++ H) I0 [] (by simp) (lw_ends11 Y.p Y.b1 Y.b2 s.heap.objs.size s.toks Lw c1 c2 c3 hs ks us cl ce c0 c1v c2v d0 d1 d2 ga) ⟨oc_ieq (he1.trans h1), oc_ieq (he0.trans h0), trivial⟩ fun s1 I1 T1 _ _ _ => ?_)
    have I2 := Inv.pickH (L := [_, _, _, _, _, _, _, _, _, _, _]) (H := H) [3, 4, 5, 6, 7, 8, 9, 10, 2] (by decide) I1
    show wpOwn _ _ _ _ _ _ _
    exact law_word (b := _) (hb := rfl) (c := c) (hs := fun i => [hs 0, hs 1, kh Y.p n_ends].getD i 0) (ks := fun i => [ks 0, ks 1, (s.toks + 29)].getD i 0) (gp := gp) (gt := gt) O hdd hu hw hA I2 (by rw [h0]; exact ⟨_, _, I1.ix 1 rfl⟩) (by rw [h1]; exact ⟨_, _, I1.ix 0 rfl⟩) K
theorem law_goals (O : Y.x.Ok) (hdd : d ≤ 310) (hu : u ≤ 5900) (hw : Y.w.params = PP Y.p Y.b1 Y.b2) (hA : AB d u A) {hs : Nat → Int} {ks : Nat → Nat}
    (I : Inv Y.x s ([et Lw (fq19 hs ks (.ref 660) (.ref us) 2), et c1 (cel (some (.ref cl))), et c2 (cel none), et c3 (cel none), et cl (lst [.int c0 d0, .int c1v d1, .int c2v d2] ce)] ++ H)) (K : LK Y R) :
    wpOwn Y.x.M A (.func (bodyAt Y.p 659) (envL Y.p Lw c1 c2 c3)) (execs (lS Y.p 2 1 ++ (lS Y.p 3 1 ++ (lS Y.p 4 1 ++ (lS Y.p 5 2 ++ (lS Y.p 7 4 ++ (lS Y.p 11 1 ++ (lS Y.p 12 1 ++ (lS Y.p 13 1 ++ lS Y.p 14 1)))))))) (envL Y.p Lw c1 c2 c3)) (fun f s' => R (.ok (.ret (match f with | .ret v => v | _ => .none))) s') (fun _ _ => False) s := by
  refine own_step (go_ret O (by omega) hA I [] (by simp) (lw_goals Y.p Y.b1 Y.b2 s.heap.objs.size s.toks Lw c1 c2 c3 hs ks us cl ce c0 c1v c2v d0 d1 d2) trivial fun s1 I1 T1 _ _ _ => ?_)
  have I2 := Inv.pickH (L := [_, _, _, _, _, _, _, _]) (H := H) [3, 4, 5, 6, 7, 2, 1, 0] (by decide) I1
  rw [bn_eq (c0.fdiv 1), bn_eq (c0.fdiv (2 ^ 1)), bn_eq (c0.fdiv (2 ^ 2)), bn_eq (c0.fdiv (2 ^ 3))] at I2
  show wpOwn _ _ _ _ _ _ _
  exact law_ends (c := cfOf c0) (c0 := c0) (hs := hs) (ks := ks) (gp := fun i => [2, 2, 2].getD i 0) (gt := fun i => [s.toks + 17, s.toks + 28, s.toks + 43, s.toks + 54].getD i 0) O hdd hu hw hA rfl rfl I2 K
end
end
section
open PySem PySem.W PySem.W.X PySem.Calls PySem.Spec PyProof.Rows
theorem pick3 (a b c : Value) (vs : List Value) : slicePick ⟨a :: b :: c :: vs⟩ none (some 3) none = ⟨[a, b, c]⟩ := by
  unfold slicePick
  have h : sliceBounds none (some 3) none (⟨a :: b :: c :: vs⟩ : Array Value).size = (0, 3, 1) := by
    unfold sliceBounds
    simp
    omega
  rw [h]
  rfl
section
variable {prog : Program} {w : World} {A : Around} {s : Shared} {R : Result → Shared → Prop}
theorem code_slice3 {l sl : Addr} {a b c : Value} {vs : List Value} {n : Nat} {t : Tok} (hl : s.heap.get? l = some (lst (a :: b :: c :: vs) n)) (hs : s.heap.get? sl = some { cls := .type "slice", data := .fields ⟨[.none, .int 3 t, .none]⟩ }) (hz : vs.length ≤ 1000)
    (h : R (.ok (.ret (.ref s.heap.objs.size))) { s with heap := s.heap.push (lst [a, b, c] 0) }) : codeAny (model prog w) A (.call (.builtin "list.__getitem__") ⟨[.ref l, .ref sl], []⟩) R s := by
  have hl' : s.heap.IsList l ⟨a :: b :: c :: vs⟩ := ⟨_, hl, rfl, n, rfl⟩
  refine codeAny_call_builtin slot_list_getitem.plain entry_list_getitem (slot_list_getitem.check _ _ _ _ _ _ _ _ hl'.typeIs (args_list_getitem _ _) (wpAny_mono (Q := fun fin s' => ∃ v, fin = .done (.ret v) ∧ R (.ok (.ret v)) s') (E := fun e s' => R (.error e) s') ?_ (fun fin s' h' => by obtain ⟨v, rfl, hv⟩ := h'; exact hv) fun _ _ h' => h'))
  have hTs : s.TypeIs (.ref sl) "slice" := ⟨_, hs, rfl⟩
  show wpAny _ _ (Builtin.List.listSubscript? (.ref sl) >>= _) _ _ s
  refine wpAny_bind ?_
  unfold Builtin.List.listSubscript?
  refine wpAny_bind (wpAny_specialOf hTs slice_no_index ?_)
  simp only [Option.isNone_none, if_true]
  refine wpAny_pure ?_
  show wpAny _ _ (typeOf (.ref sl) >>= _) _ _ s
  refine wpAny_bind (wpAny_typeOf hTs ?_)
  rw [if_neg (by decide)]
  rw [listSliceParts_eq]
  refine wpAny_bind (wpAny_bind (wpAny_field hs rfl (x := .none) rfl (wpAny_bind (wpAny_listPart IsPart.none ?_))))
  rw [if_neg (by decide)]
  refine wpAny_bind (wpAny_field hs rfl (x := .none) rfl (wpAny_bind (wpAny_listPart IsPart.none ?_)))
  refine wpAny_bind (wpAny_field hs rfl (x := .int 3 t) rfl (wpAny_bind (wpAny_listPart (IsPart.int 3 t) (wpAny_pure ?_))))
  refine wpAny_bind (m := Builtin.List.listItems (.ref l)) ?_
  unfold Builtin.List.listItems
  refine wpAny_bind (wpAny_seqItems hl rfl (wpAny_pure ?_))
  refine wpAny_bind (wpAny_of_eq (sliceIndices_raw none (some 3) none _ (by simp)) ?_)
  have e := pick3 a b c vs
  unfold slicePick at e
  rw [e]
  exact wpAny_bind (wpAny_newObj_type (wpAny_pure ⟨_, rfl, h⟩) (by show 3 ≤ _; decide))
end
end
section
open PySem PySem.W PySem.W.X PySem.Calls PySem.Spec PyProof.Rows
theorem Inv.push {X : Cx} {s : Shared} {L : List En} {o : Obj} (I : Inv X s L) (hf : o.isFreed = false) (hn : notTup o = true) : Inv X { s with heap := s.heap.push o } (⟨s.heap.objs.size, o, true⟩ :: L) := by
  have hin : ∀ e ∈ L, e.a < s.heap.objs.size := fun e he => Heap.lt_size (I.get e he)
  have hsz : (s.heap.push o).objs.size = s.heap.objs.size + 1 := size_push' ..
  refine ⟨⟨?_, fun b hb => ?_, I.good.gens, I.good.drawn, I.good.os⟩, ?_, ?_, ?_, ?_⟩
  · show _ ≤ (s.heap.push o).objs.size
    rw [hsz]; exact Nat.le_trans I.good.size (Nat.le_succ _)
  · show (s.heap.push o).get? b = _
    rw [Heap.get?_push_ne _ _ _ (Nat.ne_of_lt (Nat.lt_of_lt_of_le hb I.good.size))]
    exact I.good.top b hb
  · intro x hx
    rcases List.mem_cons.mp hx with rfl | hx
    · exact Heap.get?_push_size _ hf
    · exact Heap.get?_push_of_some _ (I.get x hx)
  · refine List.pairwise_cons.mpr ⟨fun x hx _ => ?_, I.ap⟩
    exact fun q => absurd (hin x hx) (by rw [← show s.heap.objs.size = x.a from q]; exact Nat.lt_irrefl _)
  · intro x hx hm
    rcases List.mem_cons.mp hx with rfl | hx
    · exact I.good.size
    · exact I.low x hx hm
  · intro x hx hm
    rcases List.mem_cons.mp hx with rfl | hx
    · exact hn
    · exact I.nt x hx hm
theorem body659 (P : Params) : bodyAt P 659 = lS P 0 2 ++ (lS P 2 1 ++ (lS P 3 1 ++ (lS P 4 1 ++ (lS P 5 2 ++ (lS P 7 4 ++ (lS P 11 1 ++ (lS P 12 1 ++ (lS P 13 1 ++ lS P 14 1)))))))) := by kernel_rfl
section
variable {Y : Cy} {A : Around} {d u : Nat} {R : Result → Shared → Prop} {H : List En} {s : Shared}
theorem law_call (O : Y.x.Ok) (hdd : d ≤ 305) (hu : u ≤ 5900) (hw : Y.w.params = PP Y.p Y.b1 Y.b2) (hA : AB d u A) {vs : List Value} {ns : List Int} (hvs : IntsAre vs ns) (hlen : vs.length ≤ 100)
    (I : Inv Y.x s [ef 660 (lst vs 0)]) (K : LK Y R) : codeAny Y.x.M A (.call (.ref 659) ⟨[.ref 660], []⟩) R s := by
  refine go_def O (by omega) hA (L := []) (H := [_]) I (fn659 Y.p) rfl (lw_call Y.p Y.b1 Y.b2 s.heap.objs.size s.toks) trivial fun s1 I1 T1 mu1 hn1 _ => go_func ?_
  have I2 := Inv.pickH (L := [_, _, _, _, _]) (H := []) [3, 2, 1, 0, 4] (by decide) I1
  have key : ∀ b : List Stmt, b = bodyAt Y.p 659 → wpOwn Y.x.M A (.func (bodyAt Y.p 659) (envL Y.p s.heap.objs.size (s.heap.objs.size + 1) (s.heap.objs.size + 2) (s.heap.objs.size + 3))) (execs b (envL Y.p s.heap.objs.size (s.heap.objs.size + 1) (s.heap.objs.size + 2) (s.heap.objs.size + 3))) (fun f s' => R (.ok (.ret (match f with | .ret v => v | _ => .none))) s') (fun _ _ => False) s1 := by
    intro b hb
    rw [body659] at hb
    rw [hb]
    refine own_step ?_
    cases hvs with
    | nil =>
      refine go_ret O (by omega) hA I2 [] (by simp) (lw_cells0 Y.p Y.b1 Y.b2 s1.heap.objs.size s1.toks s.heap.objs.size (s.heap.objs.size + 1) (s.heap.objs.size + 2) (s.heap.objs.size + 3) (fun _ => kh Y.p n_script) (fun _ => s.toks)) trivial fun s2 I3 T3 _ _ _ => ?_
      have I4 := Inv.pickH (L := [_, _, _, _, _, _, _]) (H := []) [2, 3, 4, 5, 0] (by decide) I3
      show wpOwn _ _ _ _ _ _ _
      exact law_goals (hs := fun i => [kh Y.p n_script, kh Y.p n_usual].getD i 0) (ks := fun i => [s.toks, s1.toks + 3].getD i 0) O (by omega) hu hw hA I4 K
    | cons x0 w0 hvs =>
      cases hvs with
      | nil =>
        obtain ⟨T0, k0, o0⟩ := oc_abs (prog := pgm) (w := Y.w) (a := x0) (t := w0)
        refine go_ret O (by omega) hA I2 [] (by simp) (lw_cells1 Y.p Y.b1 Y.b2 s1.heap.objs.size s1.toks s.heap.objs.size (s.heap.objs.size + 1) (s.heap.objs.size + 2) (s.heap.objs.size + 3) (fun _ => kh Y.p n_script) (fun _ => s.toks) x0 w0 T0 id id k0 0 0) ⟨o0, trivial⟩ fun s2 I3 T3 _ _ _ => ?_
        have I4 := Inv.pickH (L := [_, _, _, _, _, _, _]) (H := []) [2, 3, 4, 5, 0] (by decide) I3
        show wpOwn _ _ _ _ _ _ _
        exact law_goals (hs := fun i => [kh Y.p n_script, kh Y.p n_usual].getD i 0) (ks := fun i => [s.toks, s1.toks + 3].getD i 0) O (by omega) hu hw hA I4 K
      | cons x1 w1 hvs =>
        cases hvs with
        | nil =>
          obtain ⟨T0, k0, o0⟩ := oc_abs (prog := pgm) (w := Y.w) (a := x0) (t := w0)
          obtain ⟨T1, k1, o1⟩ := oc_abs (prog := pgm) (w := Y.w) (a := x1) (t := w1)
          refine go_ret O (by omega) hA I2 [] (by simp) (lw_cells2 Y.p Y.b1 Y.b2 s1.heap.objs.size s1.toks s.heap.objs.size (s.heap.objs.size + 1) (s.heap.objs.size + 2) (s.heap.objs.size + 3) (fun _ => kh Y.p n_script) (fun _ => s.toks) x0 x1 w0 w1 T0 T1 id k0 k1 0) ⟨o1, o0, trivial⟩ fun s2 I3 T3 _ _ _ => ?_
          have I4 := Inv.pickH (L := [_, _, _, _, _, _, _]) (H := []) [2, 3, 4, 5, 0] (by decide) I3
          show wpOwn _ _ _ _ _ _ _
          exact law_goals (hs := fun i => [kh Y.p n_script, kh Y.p n_usual].getD i 0) (ks := fun i => [s.toks, s1.toks + 3].getD i 0) O (by omega) hu hw hA I4 K
        | @cons x2 w2 vs ns hvs =>
          obtain ⟨T0, k0, o0⟩ := oc_abs (prog := pgm) (w := Y.w) (a := x0) (t := w0)
          obtain ⟨T1, k1, o1⟩ := oc_abs (prog := pgm) (w := Y.w) (a := x1) (t := w1)
          obtain ⟨T2, k2, o2⟩ := oc_abs (prog := pgm) (w := Y.w) (a := x2) (t := w2)
          have hz : vs.length ≤ 1000 := by simp at hlen; omega
          refine go_stop O (by omega) hA I2 [] (by simp) (lw_long1 Y.p Y.b1 Y.b2 s1.heap.objs.size s1.toks s.heap.objs.size (s.heap.objs.size + 1) (s.heap.objs.size + 2) (s.heap.objs.size + 3) (fun _ => kh Y.p n_script) (fun _ => s.toks) x0 x1 x2 w0 w1 w2 vs) trivial fun A' s2 hA' I3 T3 _ _ _ => ?_
          refine code_slice3 (I3.ix 6 rfl) (I3.ix 0 rfl) hz ?_
          have I4 := Inv.pickH (L := [_, _, _, _, _, _, _, _]) (H := []) [0, 2, 3, 4, 5, 6, 7] (by decide) (I3.push (o := lst [.int x0 w0, .int x1 w1, .int x2 w2] 0) rfl rfl)
          refine go_back_stop I4 [] (by simp) (lw_long2 Y.p Y.b1 Y.b2 s1.heap.objs.size s1.toks s.heap.objs.size (s.heap.objs.size + 1) (s.heap.objs.size + 2) (s.heap.objs.size + 3) (fun _ => kh Y.p n_script) (fun _ => s.toks) x0 x1 x2 w0 w1 w2 vs (s2.heap.push (lst [.int x0 w0, .int x1 w1, .int x2 w2] 0)).objs.size s2.toks s2.heap.objs.size T0 T1 T2 k0 k1 k2) ⟨o2, o1, o0, trivial⟩ fun A2 s3 hA2 I5 T5 _ _ _ => ?_
          refine code_slice3 (I5.ix 8 rfl) (I5.ix 0 rfl) hz ?_
          have I6 := Inv.pickH (L := [_, _, _, _, _, _, _, _, _, _]) (H := []) [0, 2, 4, 5, 6, 7, 8, 9] (by decide) (I5.push (o := lst [.int x0 w0, .int x1 w1, .int x2 w2] 0) rfl rfl)
          refine go_back I6 [] (by simp) (lw_long3 Y.p Y.b1 Y.b2 s1.heap.objs.size s1.toks s.heap.objs.size (s.heap.objs.size + 1) (s.heap.objs.size + 2) (s.heap.objs.size + 3) (fun _ => kh Y.p n_script) (fun _ => s.toks) x0 x1 x2 w0 w1 w2 vs (s2.heap.push (lst [.int x0 w0, .int x1 w1, .int x2 w2] 0)).objs.size s2.toks s2.heap.objs.size T0 T1 T2 k0 k1 k2 (s3.heap.push (lst [.int x0 w0, .int x1 w1, .int x2 w2] 0)).objs.size s3.toks s3.heap.objs.size _ _ _) trivial fun s4 I7 T7 _ _ _ => ?_
          have I8 := Inv.pickH (L := [_, _, _, _, _, _, _, _, _]) (H := []) [4, 5, 6, 7, 0] (by decide) I7
          show wpOwn _ _ _ _ _ _ _
          exact law_goals (hs := fun i => [kh Y.p n_script, kh Y.p n_usual].getD i 0) (ks := fun i => [s.toks, s1.toks + 3].getD i 0) O (by omega) hu hw hA I8 K
  exact key _ rfl
end
end
section
open PySem PySem.W PySem.W.X PySem.Calls PySem.Spec PyProof.Rows
theorem walk_law : Walk kt0 := by
  intro w s ns vs hkt hlim hsz h660 hvs hlen hgens Q E K
  let Y : Cy := ⟨w, s.heap, w.params, w.params.followText "special-get-raises", w.params.followText "comprehension-iter-twice", s.gens, s.drawn, s.os⟩
  have hp : w.params = PP w.params (w.params.followText "special-get-raises") (w.params.followText "comprehension-iter-twice") := PP_eq w.params
  have O : Y.x.Ok := ⟨hp, hkt, hlim, by show cStatics < 661; decide⟩
  have hl : ∀ {vs : List Value} {ns : List Int}, IntsAre vs ns → vs.length = ns.length := fun h => ints_len h
  have I : Inv Y.x s [ef 660 (lst vs 0)] := by
    refine ⟨⟨by show 661 ≤ _; omega, fun _ _ => rfl, rfl, rfl, rfl⟩, fun e he => ?_, List.pairwise_singleton .., fun e he hm => ?_, fun e he hm => ?_⟩
    · rw [List.mem_singleton.mp he]; exact h660
    · rw [List.mem_singleton.mp he] at hm; cases hm
    · rw [List.mem_singleton.mp he] at hm; cases hm
  refine wpAny_call ?_
  refine law_call (Y := Y) (d := 301) (u := 4) O (by decide) (by decide) hp ⟨rfl, Nat.le_refl _, Nat.le_refl _⟩ hvs (by rw [hl hvs]; omega) I fun s' G => ?_
  refine K s' (OldK.of_keep fun b o e => ?_) G.os (G.gens.trans hgens)
  have hb : b < 661 := by have := Heap.lt_size e; rw [hsz] at this; exact this
  exact (G.top b hb).trans e
theorem law_holds : PySem.Challenge.rw_xm0961_01.Holds := topW walk_law
end
end Mine
theorem PySem.Challenge.cw_xm0961_01_holds : PySem.Challenge.rw_xm0961_01.Holds :=
  Mine.law_holds
