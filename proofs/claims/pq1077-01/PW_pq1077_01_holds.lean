import PyProof.Rows.All
import Wide.All
import OpenK.AllK
import Wide.FinOn
import PyProof.Rows.SetFrom
import PyProof.AttrMissSeq
import PyProof.FitsInt
import PySem.Challenge.RW_pq1077_01
open PySem PySem.W PyProof.Rows
set_option Elab.async false
set_option maxRecDepth 100000
set_option backward.match.sparseCases false
set_option linter.unusedVariables false
namespace Mine
noncomputable def runT (stp : SharedT → Thread → Option (SharedT × Thread)) (n₀ : Nat) (ann : Option Value) : Nat → SharedT → Thread → Option SharedT
  | 0, _, _ => none
  | n + 1, s, t => match through t with
    | true => some s
    | false => match stepOk n₀ ann t with
      | false => none
      | true => match stp s t with
        | some (s', t') => runT stp n₀ ann n s' t'
        | none => none
theorem runT_of {tb : String → Option Builtin} {p : Program} {w : World} {n₀ : Nat} {ann : Option Value} : ∀ {n : Nat} {s s' : SharedT} {t : Thread}, runT (stepT (denote tb) p w) n₀ ann n s t = some s' → topRun tb p w n₀ ann n s.abs t = some s'.abs
  | 0, _, _, _, h => by cases h
  | n + 1, s, s', t, h => by
    unfold runT at h
    unfold topRun
    cases he : through t with
    | true => rw [he] at h; cases h; rfl
    | false =>
      rw [he] at h
      cases hk : stepOk n₀ ann t with
      | false => rw [hk] at h; cases h
      | true =>
        rw [hk] at h
        cases hs : stepT (denote tb) p w s t with
        | none => rw [hs] at h; cases h
        | some r => obtain ⟨s₂, t₂⟩ := r; rw [hs] at h; rw [stepT_spec hs]; exact runT_of h
theorem left_of_run {p q : Program} {loose : List Str} {Xt : Shared → Bool} {α : Type} {Yf : Shared → α} {Ya : World → α} {N : Nat} {g0 : Bool} {H₀ : Params → Heap} {gs₀ : Array GenState} {d₀ : Drawn} {k₀ : Nat} {m₀ : Nat} {ann : Option Value} {M : Nat}
    (open_ : ∀ w : World, (fencedOpening treeTable p w N).map (fun s => (s.heap, s.gens, s.drawn, s.toks)) = some (H₀ w.params, gs₀, d₀, k₀))
    (size : ∀ w : World, ((H₀ w.params).isNs mainGlobals && gs₀.size == 0, (H₀ w.params).objs.size, (H₀ w.params).nsMap mainGlobals "__annotations__") = (true, m₀, ann))
    (run : ∀ (w : World) (os : OsState), ∃ s₁, topRun treeTable p w m₀ ann M ⟨H₀ w.params, gs₀, d₀, k₀, os⟩ (topStub p) = some s₁ ∧ (staticsOk (importedModules p.main.body) (H₀ w.params) s₁.heap && namesBound p s₁.heap && gensDone s₁ && laidKept (H₀ w.params) s₁.heap) = true ∧
      openSeen q loose (importedModules p.main.body) Xt g0 s₁ = openGood q loose ∧ Yf s₁ = Ya w) (le : Nat.ble M N = true) : LeftO p q loose Xt Yf Ya N g0 := fun w => by
  obtain ⟨⟨h, gs, d, k, os⟩, e, e'⟩ := Option.map_eq_some_iff.mp (open_ w)
  obtain ⟨rfl, rfl, rfl, rfl⟩ : h = H₀ w.params ∧ gs = gs₀ ∧ d = d₀ ∧ k = k₀ := by simpa using e'
  obtain ⟨z1, z2, z3⟩ : _ ∧ _ ∧ _ := by simpa only [Prod.mk.injEq] using size w
  obtain ⟨s₁, r, l1, l2, l3⟩ := run w os
  have r := topRun_mono (N - M) _ _ _ _ r
  rw [show M + (N - M) = N by have := Nat.le_of_ble_eq_true le; omega] at r
  have t : topFrom treeTable p w N ⟨H₀ w.params, gs, d, k, os⟩ = some s₁ := by
    unfold topFrom
    dsimp only
    rw [z1, z2, z3, r]
    show (match staticsOk (importedModules p.main.body) (H₀ w.params) s₁.heap && namesBound p s₁.heap && gensDone s₁ && laidKept (H₀ w.params) s₁.heap with | true => _ | false => _) = _
    rw [l1]
  unfold openEnds
  rw [e]
  show (topFrom treeTable p w N _).map _ = _
  rw [t]
  exact congrArg some (Prod.ext l2 l3)
noncomputable abbrev pw : Program := PySem.Challenge.pw_pq1077_01
noncomputable def keepIx : List Nat := [1, 2, 3, 4, 5, 7, 8, 10, 11, 12, 13, 14, 16, 17, 18, 20, 21, 23, 25, 26, 27, 28, 29, 30, 31, 32, 33, 34, 35, 36]
noncomputable def qv : Program := { pw with main := { pw.main with body := keepIx.filterMap fun i => pw.main.body[i]? } }
noncomputable def treeOf : List Obj → Nat → BT → BT
  | [], _, t => t
  | o :: r, n, t => treeOf r (n + 1) (t.ins n o)
noncomputable def bootT (P : Params) : BT := treeOf (boot_heap P).objs.toList 0 .nil
noncomputable def s0T (w : World) (os : OsState) : SharedT := ⟨bootT w.params, 11, {}, Array.mk [], boot_drawn, boot_toks, os⟩
theorem s0T_abs (w : World) (os : OsState) : (s0T w os).abs = ⟨boot_heap w.params, Array.mk [], boot_drawn, boot_toks, os⟩ := by kernel_rfl
theorem boot_size (w : World) : ((boot_heap w.params).isNs mainGlobals && (Array.mk [] : Array GenState).size == 0, (boot_heap w.params).objs.size, (boot_heap w.params).nsMap mainGlobals "__annotations__") = (true, 11, some (.ref 6)) := by kernel_rfl
noncomputable def stpQ (w : World) : SharedT → Thread → Option (SharedT × Thread) := PySem.W.Fast.tw10156331382660048174 (PySem.W.Fast.tw11892475500146522536 PySem.W.Fast.tw14364793385576792824) pw w
theorem stpQ_eq (w : World) : stepT (denote treeTable) pw w = stpQ w := by
  unfold stpQ
  rw [PySem.W.Fast.te10156331382660048174, PySem.W.Fast.te11892475500146522536, PySem.W.Fast.te14364793385576792824]
end Mine
namespace Mine
noncomputable def anyO {α : Type} (o : Option α) (f : α → Bool) : Bool := match o with
  | some x => f x
  | none => false
theorem anyE {α : Type} {o : Option α} {f : α → Bool} (h : anyO o f = true) : ∃ x, o = some x ∧ f x = true := by
  cases o with
  | none => exact Bool.noConfusion h
  | some x => exact ⟨x, rfl, h⟩
noncomputable def refV (v : Option Value) : Option Addr := match v with
  | some (.ref c) => some c
  | _ => none
noncomputable def strVl (v : Value) : Option Str := match v with
  | .str x _ => some x
  | _ => none
noncomputable def fldD (d : Data) : Option (Array Value) := match d with
  | .fields vs => some vs
  | _ => none
noncomputable def seqD (d : Data) : Option (Array Value) := match d with
  | .seq vs _ => some vs
  | _ => none
noncomputable def funD (d : Data) : Option FuncData := match d with
  | .func fd => some fd
  | _ => none
noncomputable def clsD (d : Data) : Option ClassData := match d with
  | .cls cd => some cd
  | _ => none
noncomputable def codeB (h : Heap) (cd : Value) (q : Str) : Bool := anyO (refV (some cd)) fun c => anyO (h.get? c) fun o => anyO (fldD o.data) fun vs => anyO vs[1]? fun v => anyO (strVl v) fun x => decide (x = q)
noncomputable def dfltB (h : Heap) (v : Value) (want : List Value) : Bool := match want with
  | [] => v == .none
  | _ :: _ => anyO (refV (some v)) fun T => anyO (h.get? T) fun o => anyO (seqD o.data) fun items => items.toList == want
noncomputable def initB (h : Heap) (want : List Value) (v : Option Value) : Bool := anyO (refV v) fun f => anyO (h.get? f) fun o => anyO (funD o.data) fun fd => o.cls == .type "function" && fd.globals == mainGlobals && fd.closure.isEmpty && fd.builtins == builtinsNs && codeB h fd.code fd.qualname && dfltB h fd.defaults want && fd.kwdefaults == .none
noncomputable def initL (h : Heap) (v : Option Value) : Option (FuncBody × Scope × Arguments) := (refV v).bind fun f => (h.get? f).bind fun o => (funD o.data).map fun fd => (fd.body, fd.scope, fd.params)
noncomputable def clsB (h : Heap) (tail : List Value) (newId : String) (quiet : List Str) (want : List Value) (v : Option Value) : Bool := anyO (refV v) fun c => anyO (h.get? c) fun o => anyO (clsD o.data) fun cd =>
  o.cls == .type "type" && cd.mro == .ref c :: tail && cd.hasDict && !cd.abstract && !cd.hasDel && o.slots.size == 6 && o.slots[4]? == some (some (.builtin newId)) && h.isNs cd.ns && quiet.all (fun a => (h.nsMap cd.ns a).isNone) && initB h want (h.nsMap cd.ns "__init__")
noncomputable def clsL (h : Heap) (v : Option Value) : Option (FuncBody × Scope × Arguments) := (refV v).bind fun c => (h.get? c).bind fun o => (clsD o.data).bind fun cd => initL h (h.nsMap cd.ns "__init__")
noncomputable def fragOf (h : Heap) (as : List Addr) : Frag := as.filterMap fun a => (h.get? a).map fun o => (a, o)
noncomputable def foundV (v : Option CFound) : Option Addr := match v with
  | some (.val v) => refV (some v)
  | _ => none
noncomputable def wfB (h : Heap) (v : Option Value) : Bool := anyO (refV v) fun c => anyO (h.get? c) fun o => anyO (clsD o.data) fun cd => anyO (refV (h.nsMap cd.ns "__init__")) fun f =>
  let K := fragOf h [c, cd.ns, cStatics, f]
  specialIn K (.ref c) "__getattribute__" == some (some (.builtin "type.__getattribute__")) && readsIn K c (.type "type") && decide (foundV (findCls K (.ref c) (.type "type") "__init__") = some f)
noncomputable def gv (s : Shared) (x : String) : Option Value := (classAt s.heap (Str.ofString x)).map .ref
noncomputable def bmX : List Value := [.type "Exception", .type "BaseException", .type "object"]
noncomputable def qx : List Str := ["__setattr__", "__getattribute__", "__getattr__", Str.ofString "why", Str.ofString "at", Str.ofString "code"]
noncomputable def qo : List Str := ["__setattr__", "__getattribute__"]
noncomputable def chainA : List Str := [Str.ofString "base", Str.ofString "handle", Str.ofString "name", Str.ofString "policy", Str.ofString "rules"]
noncomputable def tableA : List Str := [Str.ofString "chains", Str.ofString "family", Str.ofString "flags", Str.ofString "flows", Str.ofString "handle", Str.ofString "last", Str.ofString "name", Str.ofString "objects", Str.ofString "sets", Str.ofString "uses"]
noncomputable def defV (s : Stmt) : Option (Str × Arguments × List Stmt × Scope) := match s with
  | .FunctionDef name args body _ _ _ scope _ _ _ => some (name, args, body, scope)
  | _ => none
noncomputable def clsV (s : Stmt) : Option (Str × List Expr × List Stmt × List Str) := match s with
  | .ClassDef name bases _ body _ _ _ _ _ st _ => some (name, bases, body, st)
  | _ => none
noncomputable def defNames (b : List Stmt) : List Str := (b.filterMap defV).map (·.1)
noncomputable def fnsB (h : Heap) : Bool := (defNames pw.main.body).all fun x => anyO (classAt h x) fun f => anyO (h.get? f) fun o => o.cls == .type "function"
noncomputable def chk (s : Shared) : Bool := (s.toks != 0 && (s.heap.get? sysModules).isSome) && fnsB s.heap && clsB s.heap [.type "object"] "object.__new__" (qo ++ chainA) [.none] (gv s "Chain") && clsB s.heap [.type "object"] "object.__new__" (qo ++ tableA) [] (gv s "Table") &&
  clsB s.heap bmX "Exception.__new__" qx [] (gv s "WallFault") && clsB s.heap ((gv s "WallFault").getD .none :: bmX) "Exception.__new__" qx [] (gv s "Refused") && wfB s.heap (gv s "WallFault")
noncomputable abbrev L3 := Option (FuncBody × Scope × Arguments)
noncomputable def yf (s : Shared) : Bool × L3 × L3 × L3 × L3 := (chk s, clsL s.heap (gv s "Chain"), clsL s.heap (gv s "Table"), clsL s.heap (gv s "WallFault"), clsL s.heap (gv s "Refused"))
noncomputable def initIn (b : List Stmt) : L3 := ((b.filterMap defV).find? fun p => decide (p.1 = Str.ofString "__init__")).map fun p => (.stmts p.2.2.1, p.2.2.2, p.2.1)
noncomputable def clsText (b : List Stmt) (x : Str) : L3 := ((b.filterMap clsV).find? fun p => decide (p.1 = x)).bind fun p => initIn p.2.2.1
noncomputable def ya : Bool × L3 × L3 × L3 × L3 := (true, clsText pw.main.body (Str.ofString "Chain"), clsText pw.main.body (Str.ofString "Table"), clsText pw.main.body (Str.ofString "WallFault"), clsText pw.main.body (Str.ofString "Refused"))
noncomputable def seenQ := PySem.W.Fast.tw4187177175401517315
theorem seenQ_eq : @openSeen = seenQ := PySem.W.Fast.te4187177175401517315
noncomputable def xt (s : Shared) : Bool := xlAt qv [] s && recOk [] s
noncomputable def good (w : World) (s : Shared) : Bool := staticsOk (importedModules pw.main.body) (boot_heap w.params) s.heap && namesBound pw s.heap && gensDone s && laidKept (boot_heap w.params) s.heap
theorem ran (w : World) (os : OsState) : ((runT (stpQ w) 11 (some (.ref 6)) 2100 (s0T w os) (topStub pw)).map fun s => (good w s.abs, seenQ qv [] (importedModules pw.main.body) xt true s.abs, yf s.abs)) = some (true, openGood qv [], ya) := by kernel_rfl
theorem left0 : LeftO pw qv [] xt yf (fun _ => ya) 4138 := by
  refine left_of_run (M := 2100) (boot_open (p := pw) (by kernel_rfl) (by decide) fun s => by kernel_rfl) boot_size (fun w os => ?_) (by decide)
  have h := ran w os
  rw [← stpQ_eq] at h
  obtain ⟨s', h1, h2⟩ := Option.map_eq_some_iff.mp h
  obtain ⟨a, b⟩ := Prod.mk.inj h2
  obtain ⟨b, c⟩ := Prod.mk.inj b
  have r := runT_of h1
  rw [s0T_abs] at r
  exact ⟨s'.abs, r, a, by rw [seenQ_eq]; exact b, c⟩
end Mine
namespace Mine
inductive D where
  | none
  | bool (b : Bool)
  | int (i : Int)
  | str (s : Str)
  | glob (x : Str)
  | bi (id : String)
  | ty (n : String)
  | lst (xs : List D)
  | tup (xs : List D)
  | sd (ks : List Str) (vs : List D)
  | pd (ks : List (List Str)) (vs : List D)
  | obj (C : Str) (fs : List Str) (vs : List D)
  | scr (ns : List Int)
  | rng (n : Int)
  | ref (k : Nat)
inductive Own where
  | t (k : Nat)
  | d (k : Nat)
  | f
  | x
structure Wd where
  own : Addr → Option Own
  ρ : Nat → Addr
  n : Nat
structure Glo where
  prog : Program
  w : World
  h₀ : Heap
  mg : Str → Option Value
  sm : ∃ o, h₀.get? sysModules = some o
noncomputable abbrev sK (G : Glo) := PySem.strKind G.prog G.w
noncomputable abbrev tK (G : Glo) := tupleKind (PySem.strKind G.prog G.w)
noncomputable def KeyOk (W : Wd) (h : Heap) (a : Addr) : Prop := W.own a = none ∧ ∃ it m, IsT h a it m
inductive ObjIs (G : Glo) (W : Wd) (h : Heap) (C : Str) (fs : List Str) (a : Addr) (w : Option Own) (P : List Value → Prop) : Prop
  | mk (c dx : Addr) (o : Obj) (kvs : List (Str × Value)) (mA : Str → Option Value) (o2 : W.own dx = w) (hc : G.mg C = some (.ref c)) (ho : h.get? a = some o) (h1 : o.cls = .ref c) (h2 : ∀ x, o.data ≠ .cls x)
    (h3 : o.dict = some dx) (h4 : dx ≠ a) (hn : h.Ns1 dx mA) (hk : kvs.map (·.1) = fs) (r : P (kvs.map (·.2))) (hm : ∀ f, mA f = valueAt kvs f) : ObjIs G W h C fs a w P
mutual
noncomputable def V (G : Glo) (W : Wd) (h : Heap) : D → Value → Prop
  | .none, v => v = .none
  | .bool b, v => v = .bool b
  | .int i, v => ∃ t : Nat, True ∧ v = .int i t
  | .str x, v => ∃ t : Nat, True ∧ v = .str x t
  | .scr ns, v => ∃ a vs, v = .ref a ∧ W.own a = none ∧ h.IsList a vs ∧ IntsAre vs.toList ns
  | .glob x, v => G.mg x = some v
  | .bi i, v => v = .builtin i
  | .ty n, v => v = .type n
  | .lst ds, v => ∃ a vs n, v = .ref a ∧ W.own a = none ∧ IsL h a vs n ∧ VL G W h ds vs.toList
  | .tup ds, v => ∃ a vs n, v = .ref a ∧ W.own a = none ∧ IsT h a vs n ∧ VL G W h ds vs.toList
  | .sd ks ds, v => ∃ a kvs, v = .ref a ∧ W.own a = none ∧ (a == sysModules) = false ∧ h.DictOf (sK G) a kvs ∧ kvs.map (·.1) = ks ∧ VL G W h ds (kvs.map (·.2))
  | .pd ks ds, v => ∃ a xs, v = .ref a ∧ W.own a = none ∧ (a == sysModules) = false ∧ h.DictOfH (tK G) a xs ∧ (∀ x ∈ xs, KeyOk W h x.2.1) ∧ xs.map (·.1) = ks ∧ VL G W h ds (xs.map (·.2.2))
  | .obj C fs ds, v => ∃ a, v = .ref a ∧ W.own a = none ∧ ObjIs G W h C fs a none fun vs => VL G W h ds vs
  | .rng n, v => ∃ a t u c, v = .ref a ∧ W.own a = none ∧ IsRange h a 0 n 1 t u c
  | .ref k, v => k < W.n ∧ v = .ref (W.ρ k)
noncomputable def VL (G : Glo) (W : Wd) (h : Heap) : List D → List Value → Prop
  | [], [] => True
  | d :: ds, v :: vs => V G W h d v ∧ VL G W h ds vs
  | _, _ => False
end
mutual
noncomputable def belowD (n : Nat) : D → Bool
  | .ref k => decide (k < n)
  | .lst ds => belowL n ds
  | .tup ds => belowL n ds
  | .sd _ ds => belowL n ds
  | .pd _ ds => belowL n ds
  | .obj _ _ ds => belowL n ds
  | _ => true
noncomputable def belowL (n : Nat) : List D → Bool
  | [] => true
  | d :: r => belowD n d && belowL n r
end
structure Le (W : Wd) (h : Heap) (W' : Wd) (h' : Heap) : Prop where
  fz : ∀ a o, W.own a = none → h.get? a = some o → W'.own a = none ∧ h'.get? a = some o
  fr : ∀ a, W.own a = some .f → W'.own a = some .f
  n : W.n ≤ W'.n
  ρ : ∀ k, k < W.n → W'.ρ k = W.ρ k
  xx : ∀ a o, W.own a = some .x → h.get? a = some o → W'.own a = some .x ∧ h'.get? a = some o
structure Lv (W : Wd) (h : Heap) (W' : Wd) (h' : Heap) : Prop where
  fz : ∀ a o, W.own a = none → h.get? a = some o → W'.own a = none ∧ h'.get? a = some o
  n : W.n ≤ W'.n
  ρ : ∀ k, k < W.n → W'.ρ k = W.ρ k
theorem KeyOk.mono {W W' : Wd} {h h' : Heap} {a : Addr} (x : KeyOk W h a) (l : Lv W h W' h') : KeyOk W' h' a := let ⟨o, it, m, q⟩ := x; ⟨(l.fz _ _ o q).1, it, m, (l.fz _ _ o q).2⟩
theorem Le.v {W : Wd} {h : Heap} {W' : Wd} {h' : Heap} (l : Le W h W' h') : Lv W h W' h' := ⟨l.fz, l.n, l.ρ⟩
theorem Le.refl {W : Wd} {h : Heap} : Le W h W h := ⟨fun _ _ a b => ⟨a, b⟩, fun _ h => h, Nat.le_refl _, fun _ _ => rfl, fun _ _ a b => ⟨a, b⟩⟩
theorem Le.trans {W W' W'' : Wd} {h h' h'' : Heap} (x : Le W h W' h') (y : Le W' h' W'' h'') : Le W h W'' h'' :=
  ⟨fun a o p q => let ⟨r, s⟩ := x.fz a o p q; y.fz a o r s, fun a p => y.fr a (x.fr a p), Nat.le_trans x.n y.n, fun k p => (y.ρ k (Nat.lt_of_lt_of_le p x.n)).trans (x.ρ k p), fun a o p q => let ⟨r, s⟩ := x.xx a o p q; y.xx a o r s⟩
theorem dictOf_keeps {G : Glo} {h h' : Heap} {a : Addr} {kvs} (x : h.DictOf (sK G) a kvs) (e : ∀ o, h.get? a = some o → h'.get? a = some o) : h'.DictOf (sK G) a kvs := let ⟨o, es, ep, ho, r⟩ := x; ⟨o, es, ep, e _ ho, r⟩
theorem dictOfH_keeps {G : Glo} {h h' : Heap} {a : Addr} {xs} (x : h.DictOfH (tK G) a xs) (e : ∀ o, h.get? a = some o → h'.get? a = some o)
    (e' : ∀ y ∈ xs, ∀ o, h.get? y.2.1 = some o → h'.get? y.2.1 = some o) : h'.DictOfH (tK G) a xs := by
  obtain ⟨o, es, ep, ho, h1, h2, h3, h4, h5⟩ := x
  refine ⟨o, es, ep, e _ ho, h1, h2, h3, fun y hy => ?_, h5⟩
  obtain ⟨ob, it, n, q1, q2⟩ := h4 y hy
  exact ⟨ob, it, n, e' y hy _ q1, q2⟩
theorem ObjIs.mono {G : Glo} {W W' : Wd} {h h' : Heap} {C : Str} {fs : List Str} {a : Addr} {w w' : Option Own} {P P' : List Value → Prop} (x : ObjIs G W h C fs a w P) (ha : ∀ o, h.get? a = some o → h'.get? a = some o)
    (hd : ∀ dx o, W.own dx = w → h.get? dx = some o → W'.own dx = w' ∧ h'.get? dx = some o) (p : ∀ vs, P vs → P' vs) : ObjIs G W' h' C fs a w' P' := by
  obtain ⟨c, dx, o, kvs, mA, o2, hc, ho, h1, h2, h3, h4, hn, hk, r, hm⟩ := x
  obtain ⟨ob, _, _, hob, _⟩ := id hn
  exact ⟨c, dx, o, kvs, mA, (hd _ _ o2 hob).1, hc, ha _ ho, h1, h2, h3, h4, hn.at fun o e => (hd _ _ o2 e).2, hk, p _ r, hm⟩
structure Lx (W : Wd) (h : Heap) (W' : Wd) (h' : Heap) (c : Prop) (n : Nat) : Prop where
  fz : ∀ a o, W.own a = none → h.get? a = some o → W'.own a = none ∧ h'.get? a = some o
  hr : ∀ k, k < W.n → c ∨ decide (k < n) = true → k < W'.n ∧ W'.ρ k = W.ρ k
theorem or_and {c : Prop} {a b : Bool} (x : c ∨ (a && b) = true) : (c ∨ a = true) ∧ (c ∨ b = true) := by
  cases x with
  | inl h => exact ⟨.inl h, .inl h⟩
  | inr h => exact ⟨.inr (Bool.and_eq_true_iff.mp h).1, .inr (Bool.and_eq_true_iff.mp h).2⟩
section
variable {G : Glo} {W W' : Wd} {h h' : Heap} {c : Prop} {n : Nat}
theorem V.both (l : Lx W h W' h' c n) (d : D) : ∀ v, c ∨ belowD n d = true → V G W h d v → V G W' h' d v := by
  refine D.rec (motive_1 := fun d => ∀ v, c ∨ belowD n d = true → V G W h d v → V G W' h' d v) (motive_2 := fun ds => ∀ vs, c ∨ belowL n ds = true → VL G W h ds vs → VL G W' h' ds vs)
    (fun _ _ x => x) (fun _ _ _ x => x) (fun _ _ _ x => x) (fun _ _ _ x => x) (fun _ _ _ x => x) (fun _ _ _ x => x) (fun _ _ _ x => x) ?_ ?_ ?_ ?_ ?_ ?_ ?_ ?_ ?_ ?_ d
  · intro ds ih v b x
    obtain ⟨a, vs, n, e, o, q, r⟩ := x
    exact ⟨a, vs, n, e, (l.fz _ _ o q).1, (l.fz _ _ o q).2, ih _ b r⟩
  · intro ds ih v b x
    obtain ⟨a, vs, n, e, o, q, r⟩ := x
    exact ⟨a, vs, n, e, (l.fz _ _ o q).1, (l.fz _ _ o q).2, ih _ b r⟩
  · intro ks ds ih v b x
    obtain ⟨a, kvs, e, o, sm, q, kk, r⟩ := x
    obtain ⟨ob, _, _, hob, _⟩ := id q
    exact ⟨a, kvs, e, (l.fz _ _ o hob).1, sm, dictOf_keeps q fun o' e => (l.fz _ _ o e).2, kk, ih _ b r⟩
  · intro ks ds ih v b x
    obtain ⟨a, xs, e, o, sm, q, ow, kk, r⟩ := x
    obtain ⟨ob, _, _, hob, _⟩ := id q
    exact ⟨a, xs, e, (l.fz _ _ o hob).1, sm, dictOfH_keeps q (fun o' e => (l.fz _ _ o e).2) (fun y hy o' e => (l.fz _ _ (ow y hy).1 e).2), fun y hy => let ⟨o, it, m, q⟩ := ow y hy; ⟨(l.fz _ _ o q).1, it, m, (l.fz _ _ o q).2⟩, kk, ih _ b r⟩
  · intro C fs ds ih v b x
    obtain ⟨a, e, o, q⟩ := x
    obtain ⟨_, _, ob, _, _, _, _, ho, _⟩ := id q
    exact ⟨a, e, (l.fz _ _ o ho).1, q.mono (fun _ e => (l.fz _ _ o e).2) (fun _ _ => l.fz _ _) fun vs => ih vs b⟩
  · intro ns v b x
    obtain ⟨a, vs, e, o, q, r⟩ := x
    obtain ⟨ob, hob, _⟩ := id q
    exact ⟨a, vs, e, (l.fz _ _ o hob).1, q.at fun o' e => (l.fz _ _ o e).2, r⟩
  · intro n v b x
    obtain ⟨a, t, u, c, e, o, q⟩ := x
    exact ⟨a, t, u, c, e, (l.fz _ _ o q).1, (l.fz _ _ o q).2⟩
  · intro k v b x
    exact ⟨(l.hr k x.1 b).1, x.2.trans (congrArg Value.ref (l.hr k x.1 b).2.symm)⟩
  · intro vs b x
    cases vs with
    | nil => exact x
    | cons _ _ => exact False.elim x
  · intro d ds ihd ih vs b x
    cases vs with
    | nil => exact False.elim x
    | cons v vs => exact ⟨ihd v (or_and b).1 x.1, ih vs (or_and b).2 x.2⟩
theorem VL.both (l : Lx W h W' h' c n) : ∀ (ds : List D) (vs : List Value), c ∨ belowL n ds = true → VL G W h ds vs → VL G W' h' ds vs := by
  intro ds
  induction ds with
  | nil => intro vs b x; cases vs with
    | nil => exact x
    | cons _ _ => exact False.elim x
  | cons d ds ih => intro vs b x; cases vs with
    | nil => exact False.elim x
    | cons v vs => exact ⟨V.both l d v (or_and b).1 x.1, ih vs (or_and b).2 x.2⟩
end
theorem Lv.x {W W' : Wd} {h h' : Heap} (l : Lv W h W' h') : Lx W h W' h' True 0 := ⟨l.fz, fun k hk _ => ⟨Nat.lt_of_lt_of_le hk l.n, l.ρ k hk⟩⟩
theorem V.monoV {G : Glo} {W W' : Wd} {h h' : Heap} (l : Lv W h W' h') {d : D} {v : Value} (x : V G W h d v) : V G W' h' d v := V.both l.x d v (.inl trivial) x
theorem VL.monoV {G : Glo} {W W' : Wd} {h h' : Heap} (l : Lv W h W' h') {ds : List D} {vs : List Value} (x : VL G W h ds vs) : VL G W' h' ds vs := VL.both l.x ds vs (.inl trivial) x
noncomputable def Wd.low (W : Wd) (n : Nat) : Wd := ⟨W.own, W.ρ, n⟩
theorem Lx.low {W : Wd} {h : Heap} {n : Nat} : Lx W h (W.low n) h False n := ⟨fun _ _ a b => ⟨a, b⟩, fun _ _ b => b.elim False.elim fun e => ⟨of_decide_eq_true e, rfl⟩⟩
theorem V.low {G : Glo} {W : Wd} {h : Heap} {n : Nat} {d : D} {v : Value} (x : V G W h d v) (b : belowD n d = true) : V G (W.low n) h d v := V.both .low d v (.inr b) x
theorem VL.low {G : Glo} {W : Wd} {h : Heap} {n : Nat} {ds : List D} {vs : List Value} (x : VL G W h ds vs) (b : belowL n ds = true) : VL G (W.low n) h ds vs := VL.both .low ds vs (.inr b) x
theorem V.mono {G : Glo} {W W' : Wd} {h h' : Heap} (l : Le W h W' h') {d : D} {v : Value} (x : V G W h d v) : V G W' h' d v := V.monoV l.v x
theorem VL.mono {G : Glo} {W W' : Wd} {h h' : Heap} (l : Le W h W' h') {ds : List D} {vs : List Value} (x : VL G W h ds vs) : VL G W' h' ds vs := VL.monoV l.v x
theorem VL.length {G : Glo} {W : Wd} {h : Heap} : ∀ {ds : List D} {vs : List Value}, VL G W h ds vs → ds.length = vs.length := by
  intro ds
  induction ds with
  | nil => intro vs x; cases vs with
    | nil => rfl
    | cons _ _ => exact False.elim x
  | cons d ds ih => intro vs x; cases vs with
    | nil => exact False.elim x
    | cons v vs => exact congrArg (· + 1) (ih x.2)
theorem VL.get {G : Glo} {W : Wd} {h : Heap} : ∀ {ds : List D} {vs : List Value}, VL G W h ds vs → ∀ {i : Nat} {d : D}, ds[i]? = some d → ∃ v, vs[i]? = some v ∧ V G W h d v := by
  intro ds
  induction ds with
  | nil => intro _ _ _ _ e; cases e
  | cons d ds ih => intro vs x i d' e; cases vs with
    | nil => exact False.elim x
    | cons v vs => cases i with
      | zero => cases e; exact ⟨v, rfl, x.1⟩
      | succ i => exact ih x.2 e
theorem VL.append {G : Glo} {W : Wd} {h : Heap} : ∀ {ds : List D} {vs : List Value} {ds' vs'}, VL G W h ds vs → VL G W h ds' vs' → VL G W h (ds ++ ds') (vs ++ vs') := by
  intro ds
  induction ds with
  | nil => intro vs _ _ x y; cases vs with
    | nil => exact y
    | cons _ _ => exact False.elim x
  | cons d ds ih => intro vs _ _ x y; cases vs with
    | nil => exact False.elim x
    | cons v vs => exact ⟨x.1, ih x.2 y⟩
inductive T where
  | lst (xs : List D)
  | sd (ks : List Str) (vs : List D)
  | pd (ks : List (List Str)) (vs : List D)
  | obj (C : Str) (fs : List Str) (vs : List D)
  | frz (d : D)
noncomputable def OwnT (W : Wd) (k : Nat) : T → Prop
  | .frz _ => W.own (W.ρ k) = none
  | _ => W.own (W.ρ k) = some (.t k)
noncomputable def TRa (G : Glo) (W : Wd) (h : Heap) (k : Nat) (a : Addr) : T → Prop
  | .lst ds => ∃ vs n, IsL h a vs n ∧ VL G W h ds vs.toList
  | .sd ks ds => ∃ kvs, (a == sysModules) = false ∧ h.DictOf (sK G) a kvs ∧ kvs.map (·.1) = ks ∧ VL G W h ds (kvs.map (·.2))
  | .pd ks ds => ∃ xs, (a == sysModules) = false ∧ h.DictOfH (tK G) a xs ∧ (∀ x ∈ xs, KeyOk W h x.2.1) ∧ xs.map (·.1) = ks ∧ VL G W h ds (xs.map (·.2.2))
  | .obj C fs ds => ObjIs G W h C fs a (some (.d k)) fun vs => VL G W h ds vs
  | .frz d => (∃ o, h.get? a = some o) ∧ W.own a = none ∧ V G W h d (.ref a)
noncomputable abbrev TR (G : Glo) (W : Wd) (h : Heap) (k : Nat) (t : T) : Prop := TRa G W h k (W.ρ k) t
noncomputable def belowT (n : Nat) : T → Bool
  | .lst ds => belowL n ds
  | .sd _ ds => belowL n ds
  | .pd _ ds => belowL n ds
  | .obj _ _ ds => belowL n ds
  | .frz d => belowD n d
theorem TRa.both {G : Glo} {W W' : Wd} {h h' : Heap} {c : Prop} {n k : Nat} (l : Lx W h W' h' c n) (own' : ∀ a, W.own a = some (.d k) → W'.own a = some (.d k))
    (e : ∀ a o, W.own a = some (.t k) ∨ W.own a = some (.d k) → h.get? a = some o → h'.get? a = some o) {t : T} (b : c ∨ belowT n t = true) (ow : OwnT W k t) (x : TR G W h k t) : TRa G W' h' k (W.ρ k) t := by
  cases t with
  | frz d =>
    obtain ⟨⟨o, ho⟩, q, r⟩ := x
    exact ⟨⟨o, (l.fz _ _ q ho).2⟩, (l.fz _ _ q ho).1, V.both l d _ b r⟩
  | lst ds =>
    obtain ⟨vs, n, q, r⟩ := x
    exact ⟨vs, n, e _ _ (.inl ow) q, VL.both l ds _ b r⟩
  | sd ks ds =>
    obtain ⟨kvs, sm, q, kk, r⟩ := x
    exact ⟨kvs, sm, dictOf_keeps q fun o eo => e _ _ (.inl ow) eo, kk, VL.both l ds _ b r⟩
  | pd ks ds =>
    obtain ⟨xs, sm, q, own, kk, r⟩ := x
    exact ⟨xs, sm, dictOfH_keeps q (fun o' eo => e _ _ (.inl ow) eo) (fun y hy o' eo => (l.fz _ _ (own y hy).1 eo).2), fun y hy => let ⟨o, it, m, q⟩ := own y hy; ⟨(l.fz _ _ o q).1, it, m, (l.fz _ _ o q).2⟩, kk, VL.both l ds _ b r⟩
  | obj C fs ds => exact ObjIs.mono x (fun o => e _ _ (.inl ow)) (fun dx o q eo => ⟨own' _ q, e _ _ (.inr q) eo⟩) fun vs => VL.both l ds vs b
inductive Ora where
  | b (r : Bool)
  | skip
  | v (d : D)
structure Sh where
  tr : List (Nat × T) := []
  n : Nat := 0
  sym : Bool := false
  os : List Ora := []
structure Rep (G : Glo) (W : Wd) (tr : List (Nat × T)) (h : Heap) : Prop where
  base : ∀ a o, G.h₀.get? a = some o → W.own a = none ∧ h.get? a = some o
  ownd : ∀ a w, W.own a = some w → ∃ o, h.get? a = some o
  trk : ∀ k t, tr.lookup k = some t → k < W.n ∧ OwnT W k t ∧ TR G W h k t
theorem Rep.lt {G : Glo} {W : Wd} {tr} {h : Heap} (R : Rep G W tr h) {a : Addr} {w : Own} (e : W.own a = some w) : a < h.objs.size := let ⟨_, ho⟩ := R.ownd a w e; Heap.lt_size ho
theorem Rep.fresh {G : Glo} {W : Wd} {tr} {h : Heap} (R : Rep G W tr h) : W.own h.objs.size = none := by
  cases e : W.own h.objs.size with
  | none => rfl
  | some w => exact absurd (R.lt e) (Nat.lt_irrefl _)
noncomputable def Sm (o o' : Obj) : Prop := o' = o ∨ ((∃ es ep, o.data = .dict es ep) ∧ ∃ sl, o' = { o with slots := sl })
theorem Sm.refl {o : Obj} : Sm o o := .inl rfl
theorem Sm.trans {o o' o'' : Obj} (x : Sm o o') (y : Sm o' o'') : Sm o o'' := by
  rcases x with rfl | ⟨d, sl, rfl⟩
  · exact y
  · rcases y with rfl | ⟨_, sl', rfl⟩
    · exact .inr ⟨d, sl, rfl⟩
    · exact .inr ⟨d, sl', rfl⟩
theorem Sm.data {o o' : Obj} (x : Sm o o') : o'.data = o.data := by rcases x with rfl | ⟨_, sl, rfl⟩ <;> rfl
theorem Sm.cls {o o' : Obj} (x : Sm o o') : o'.cls = o.cls := by rcases x with rfl | ⟨_, sl, rfl⟩ <;> rfl
theorem Sm.eq {o o' : Obj} (x : Sm o o') (n : ∀ es ep, o.data ≠ .dict es ep) : o' = o := by
  rcases x with rfl | ⟨⟨es, ep, e⟩, _⟩
  · rfl
  · exact absurd e (n es ep)
noncomputable def Sa (h' : Heap) (a : Addr) (o : Obj) : Prop := ∃ o', h'.get? a = some o' ∧ Sm o o'
theorem Sa.of {h' : Heap} {a : Addr} {o : Obj} (e : h'.get? a = some o) : Sa h' a o := ⟨o, e, .refl⟩
theorem Sa.at {h' : Heap} {a : Addr} {o : Obj} (x : Sa h' a o) (n : ∀ es ep, o.data ≠ .dict es ep) : h'.get? a = some o := by
  obtain ⟨o', e, r⟩ := x
  rw [r.eq n] at e; exact e
theorem Sa.trans {h' h'' : Heap} {a : Addr} {o : Obj} (x : Sa h' a o) (y : ∀ o', h'.get? a = some o' → Sa h'' a o') : Sa h'' a o := by
  obtain ⟨o', e, r⟩ := x
  obtain ⟨o'', e', r'⟩ := y o' e
  exact ⟨o'', e', r.trans r'⟩
theorem ns_sa {h h' : Heap} {a : Addr} {m : Str → Option Value} (x : h.Ns a m) (k : ∀ o, h.get? a = some o → Sa h' a o) : h'.Ns a m := by
  obtain ⟨o, es, ep, ho, hd, r⟩ := x
  obtain ⟨o', e, s⟩ := k o ho
  exact ⟨o', es, ep, e, s.data.trans hd, r⟩
noncomputable def Kp (W : Wd) (h h' : Heap) : Prop := ∀ a o, W.own a = some .f → h.get? a = some o → Sa h' a o
theorem Kp.refl {W : Wd} {h : Heap} : Kp W h h := fun _ _ _ e => .of e
theorem Kp.trans {W W' : Wd} {h h' h'' : Heap} (l : Le W h W' h') (x : Kp W h h') (y : Kp W' h' h'') : Kp W h h'' := fun a o p q => (x a o p q).trans fun o' e => y a o' (l.fr a p) e
theorem Le.push {W : Wd} {h : Heap} (o : Obj) : Le W h W (h.push o) := ⟨fun _ _ p q => ⟨p, Heap.get?_push_of_some _ q⟩, fun _ p => p, Nat.le_refl _, fun _ _ => rfl, fun _ _ p q => ⟨p, Heap.get?_push_of_some _ q⟩⟩
theorem Kp.push {W : Wd} {h : Heap} (o : Obj) : Kp W h (h.push o) := fun _ _ _ q => .of (Heap.get?_push_of_some _ q)
theorem TR.monoV {G : Glo} {W W' : Wd} {h h' : Heap} (l : Lv W h W' h') {k : Nat} (hk : k < W.n) (own' : ∀ a, W.own a = some (.d k) → W'.own a = some (.d k))
    (e : ∀ a o, W.own a = some (.t k) ∨ W.own a = some (.d k) → h.get? a = some o → h'.get? a = some o) {t : T} (ow : OwnT W k t) (x : TR G W h k t) : TR G W' h' k t :=
  Eq.mpr (congrArg (fun a => TRa G W' h' k a t) (l.ρ k hk)) (TRa.both l.x own' e (.inl trivial) ow x)
theorem TR.mono {G : Glo} {W W' : Wd} {h h' : Heap} (l : Le W h W' h') {k : Nat} (hk : k < W.n) (own' : ∀ a, W.own a = some (.d k) → W'.own a = some (.d k))
    (e : ∀ a o, W.own a = some (.t k) ∨ W.own a = some (.d k) → h.get? a = some o → h'.get? a = some o) {t : T} (ow : OwnT W k t) (x : TR G W h k t) : TR G W' h' k t := TR.monoV l.v hk own' e ow x
theorem Rep.chg {G : Glo} {W W' : Wd} {tr tr'} {h h' : Heap} (R : Rep G W tr h) (l : Lv W h W' h') (od : ∀ a w, W'.own a = some w → ∃ o, h'.get? a = some o)
    (tk : ∀ j u, tr'.lookup j = some u → (tr.lookup j = some u ∧ ∀ a, W.own a = some (.t j) ∨ W.own a = some (.d j) → W'.own a = W.own a ∧ ∀ o, h.get? a = some o → h'.get? a = some o) ∨ (j < W'.n ∧ OwnT W' j u ∧ TR G W' h' j u)) : Rep G W' tr' h' where
  base := fun a o e => l.fz a o (R.base a o e).1 (R.base a o e).2
  ownd := od
  trk := fun j u e => by
    cases tk j u e with
    | inr x => exact x
    | inl x =>
      obtain ⟨e, k⟩ := x
      obtain ⟨q1, q2, q3⟩ := R.trk j u e
      have own : OwnT W' j u := by
        cases u with
        | frz d => exact (congrArg W'.own (l.ρ j q1)).trans (let ⟨o, ho⟩ := q3.1; (l.fz _ _ q2 ho).1)
        | _ => exact (congrArg W'.own (l.ρ j q1)).trans ((k _ (.inl q2)).1.trans q2)
      exact ⟨Nat.lt_of_lt_of_le q1 l.n, own, TR.monoV l q1 (fun a x => (k a (.inr x)).1.trans x) (fun a o x => (k a x).2 o) q2 q3⟩
theorem Rep.grow {G : Glo} {W : Wd} {tr} {h h' : Heap} (R : Rep G W tr h) (k : ∀ a o, h.get? a = some o → h'.get? a = some o) : Rep G W tr h' :=
  R.chg ⟨fun _ _ p q => ⟨p, k _ _ q⟩, Nat.le_refl _, fun _ _ => rfl⟩ (fun a w e => let ⟨ob, q⟩ := R.ownd a w e; ⟨ob, k _ _ q⟩) fun j u e => .inl ⟨e, fun a _ => ⟨rfl, k a⟩⟩
theorem Rep.push {G : Glo} {W : Wd} {tr} {h : Heap} (R : Rep G W tr h) (o : Obj) : Rep G W tr (h.push o) := R.grow fun _ _ q => Heap.get?_push_of_some _ q
theorem Le.grow {W : Wd} {h h' : Heap} (k : ∀ a o, h.get? a = some o → h'.get? a = some o) : Le W h W h' := ⟨fun _ _ p q => ⟨p, k _ _ q⟩, fun _ p => p, Nat.le_refl _, fun _ _ => rfl, fun _ _ p q => ⟨p, k _ _ q⟩⟩
theorem Kp.grow {W : Wd} {h h' : Heap} (k : ∀ a o, h.get? a = some o → h'.get? a = some o) : Kp W h h' := fun _ _ _ q => .of (k _ _ q)
noncomputable def Wd.new (W : Wd) (a : Addr) : Wd := ⟨fun b => if b = a then some (.t W.n) else W.own b, fun k => if k = W.n then a else W.ρ k, W.n + 1⟩
theorem Le.new {W : Wd} {h h' : Heap} {a : Addr} (ha : ∀ o, h.get? a ≠ some o) (fr : W.own a = none) (k : ∀ b o, h.get? b = some o → h'.get? b = some o) : Le W h (W.new a) h' where
  fz := fun b o p q => by
    have : b ≠ a := fun e => ha o (e ▸ q)
    exact ⟨by simp [Wd.new, this, p], k _ _ q⟩
  fr := fun b p => by
    have : b ≠ a := fun e => by rw [e, fr] at p; cases p
    simp [Wd.new, this, p]
  n := Nat.le_succ _
  ρ := fun j hj => by simp [Wd.new, Nat.ne_of_lt hj]
  xx := fun b o p q => by
    have : b ≠ a := fun e => ha o (e ▸ q)
    exact ⟨by simp [Wd.new, this, p], k _ _ q⟩
theorem Rep.new {G : Glo} {W : Wd} {tr} {h h' : Heap} (R : Rep G W tr h) {a : Addr} (ha : ∀ o, h.get? a ≠ some o) (k : ∀ b o, h.get? b = some o → h'.get? b = some o)
    {ob : Obj} (hob : h'.get? a = some ob) {t : T} (ht : TR G (W.new a) h' W.n t) (nf : ∀ d, t ≠ .frz d := by intro _ e; cases e) : Rep G (W.new a) ((W.n, t) :: tr) h' := by
  have ne : ∀ b w, W.own b = some w → b ≠ a := fun b w e z => let ⟨o, q⟩ := R.ownd b w e; ha o (z ▸ q)
  have fr : W.own a = none := Option.eq_none_iff_forall_ne_some.mpr fun w e => ne a w e rfl
  refine R.chg (Le.new ha fr k).v (fun b w e => ?_) fun j t' e => ?_
  · by_cases hb : b = a
    · exact ⟨ob, hb ▸ hob⟩
    · obtain ⟨o, q⟩ := R.ownd b w ((if_neg hb).symm.trans e)
      exact ⟨o, k _ _ q⟩
  · by_cases hj : j = W.n
    · subst hj
      rw [List.lookup_cons_self] at e
      cases e
      have e : (W.new a).own ((W.new a).ρ W.n) = some (.t W.n) := (congrArg (W.new a).own (if_pos rfl)).trans (if_pos rfl)
      exact .inr ⟨Nat.lt_succ_self _, by cases t with | frz d => exact absurd rfl (nf d) | _ => exact e, ht⟩
    · rw [List.lookup_cons, beq_false_of_ne hj] at e
      refine .inl ⟨e, fun b z => ⟨if_neg ?_, k b⟩⟩
      cases z with
      | inl z => exact ne b _ z
      | inr z => exact ne b _ z
theorem V.newRef {G : Glo} {W : Wd} {h : Heap} {a : Addr} : V G (W.new a) h (.ref W.n) (.ref a) := by
  exact ⟨Nat.lt_succ_self _, by simp [Wd.new]⟩
noncomputable def setT (tr : List (Nat × T)) (k : Nat) (t : T) : List (Nat × T) := tr.map fun p => if p.1 = k then (k, t) else p
theorem lookup_setT {k : Nat} {t : T} {tr : List (Nat × T)} {j : Nat} : (setT tr k t).lookup j = if j = k then (tr.lookup k).map (fun _ => t) else tr.lookup j := by
  induction tr with
  | nil => by_cases hj : j = k <;> simp [hj, setT]
  | cons p tr ih =>
    obtain ⟨i, u⟩ := p
    show List.lookup j ((if i = k then (k, t) else (i, u)) :: setT tr k t) = _
    by_cases hi : i = k
    · subst hi
      rw [if_pos rfl, List.lookup_cons, ih]
      by_cases hj : j = i
      · subst hj; rw [beq_self_eq_true, List.lookup_cons_self]; exact (if_pos rfl).symm
      · rw [beq_false_of_ne hj, if_neg hj, if_neg hj, List.lookup_cons, beq_false_of_ne hj]
    · rw [if_neg hi, List.lookup_cons, List.lookup_cons, List.lookup_cons, ih, beq_false_of_ne (Ne.symm hi)]
      by_cases hj : j = i
      · subst hj; rw [beq_self_eq_true]; exact (if_neg hi).symm
      · rw [beq_false_of_ne hj]
theorem Rep.updP {G : Glo} {W : Wd} {tr} {h h' : Heap} (R : Rep G W tr h) {k : Nat} {t t' : T} (e : tr.lookup k = some t) (kp : ∀ b o, W.own b ≠ some (.t k) → W.own b ≠ some (.d k) → h.get? b = some o → h'.get? b = some o)
    (ex : ∀ b o, h.get? b = some o → ∃ o', h'.get? b = some o') (ht : Le W h W h' → TR G W h' k t') (ow : OwnT W k t → OwnT W k t') : Rep G W (setT tr k t') h' ∧ Le W h W h' ∧ Kp W h h' := by
  have ne : ∀ {b w w'}, W.own b = w → w ≠ some w' → W.own b ≠ some w' := fun hb h1 e => h1 (hb.symm.trans e)
  have l : Le W h W h' := ⟨fun b o p q => ⟨p, kp b o (ne p nofun) (ne p nofun) q⟩, fun _ p => p, Nat.le_refl _, fun _ _ => rfl, fun b o p q => ⟨p, kp b o (ne p nofun) (ne p nofun) q⟩⟩
  refine ⟨R.chg l.v (fun b w q => let ⟨o, z⟩ := R.ownd b w q; ex b o z) fun j u q => ?_, l, fun b o p q => .of (kp b o (ne p nofun) (ne p nofun) q)⟩
  rw [lookup_setT] at q
  by_cases hj : j = k
  · subst hj
    rw [if_pos rfl, e] at q
    cases q
    obtain ⟨q1, q2, _⟩ := R.trk j t e
    exact .inr ⟨q1, ow q2, ht l⟩
  · rw [if_neg hj] at q
    refine .inl ⟨q, fun b z => ⟨rfl, fun o y => ?_⟩⟩
    cases z with
    | inl z => exact kp b o (ne z fun e => hj (Own.t.inj (Option.some.inj e))) (ne z nofun) y
    | inr z => exact kp b o (ne z nofun) (ne z fun e => hj (Own.d.inj (Option.some.inj e))) y
theorem Rep.upd {G : Glo} {W : Wd} {tr} {h h' : Heap} (R : Rep G W tr h) {k : Nat} {t t' : T} (e : tr.lookup k = some t) {a : Addr} (ha : W.own a = some (.t k) ∨ W.own a = some (.d k))
    (sb : Heap.SameBut a h h') {ob : Obj} (hob : h'.get? a = some ob) (ht : Le W h W h' → TR G W h' k t') (ow : OwnT W k t → OwnT W k t' := by exact id) : Rep G W (setT tr k t') h' ∧ Le W h W h' ∧ Kp W h h' := by
  refine R.updP e (fun b o n1 n2 q => (sb.2 b fun z => ?_).trans q) (fun b o q => ?_) ht ow
  · subst z; cases ha with
    | inl ha => exact n1 ha
    | inr ha => exact n2 ha
  · by_cases hb : b = a
    · exact ⟨ob, hb ▸ hob⟩
    · exact ⟨o, (sb.2 b hb).trans q⟩
structure At (G : Glo) (W : Wd) (sh : Sh) (s : Shared) : Prop where
  rep : Rep G W sh.tr s.heap
  n : W.n = sh.n
  tk : s.toks ≠ 0
noncomputable def Aft (G : Glo) (W : Wd) (s : Shared) (K : D → Sh → Prop) (Q : Value → Shared → Prop) : Prop :=
  ∀ d sh' W' h' v tk, K d sh' → Le W s.heap W' h' → Kp W s.heap h' → Rep G W' sh'.tr h' → W'.n = sh'.n → V G W' h' d v → s.toks ≤ tk → Q v { s with heap := h', toks := tk }
theorem Aft.here {G : Glo} {W : Wd} {sh : Sh} {s : Shared} {K : D → Sh → Prop} {Q : Value → Shared → Prop} (q : Aft G W s K Q) (x : At G W sh s) {d : D} (k : K d sh) {v : Value} {tk : Nat}
    (hv : V G W s.heap d v) (ht : s.toks ≤ tk) : Q v { s with toks := tk } := q d sh W s.heap v tk k Le.refl Kp.refl x.rep x.n hv ht
theorem Aft.grown {G : Glo} {W : Wd} {sh : Sh} {s : Shared} {K : D → Sh → Prop} {Q : Value → Shared → Prop} (q : Aft G W s K Q) (x : At G W sh s) {d : D} (k : K d sh) {v : Value} {tk : Nat} {h' : Heap}
    (g : ∀ a o, s.heap.get? a = some o → h'.get? a = some o) (hv : V G W h' d v) (ht : s.toks ≤ tk) : Q v { s with heap := h', toks := tk } :=
  q d sh W h' v tk k (Le.grow g) (Kp.grow g) (x.rep.grow g) x.n hv ht
theorem V.int {G : Glo} {W : Wd} {h : Heap} {i : Int} {t : Nat} {p : Prop} (_ : p) : V G W h (.int i) (.int i t) := by exact ⟨t, trivial, rfl⟩
theorem V.str {G : Glo} {W : Wd} {h : Heap} {x : Str} {t : Nat} {p : Prop} (_ : p) : V G W h (.str x) (.str x t) := by exact ⟨t, trivial, rfl⟩
theorem V.bool {G : Glo} {W : Wd} {h : Heap} {b : Bool} : V G W h (.bool b) (.bool b) := by rfl
theorem V.vnone {G : Glo} {W : Wd} {h : Heap} : V G W h .none .none := by rfl
inductive DecT (b : Bool) (sh : Sh) (K : Bool → Sh → Prop) : Prop
  | mk (r : Bool) (h : b = r) (k : K r sh) : DecT b sh K
noncomputable def dec (b : Bool) (sh : Sh) (K : Bool → Sh → Prop) : Prop :=
  match sh.sym with
  | false => K b sh
  | true => DecT b sh K
noncomputable def need (c : Prop) [Decidable c] (sh : Sh) (k : Prop) : Prop :=
  match sh.sym with
  | false => match decide c with
    | true => k
    | false => False
  | true => c ∧ k
theorem need_out {c : Prop} [Decidable c] {sh : Sh} {k : Prop} (h : need c sh k) : c ∧ k := by
  obtain ⟨tr, n, sym, os⟩ := sh
  cases sym with
  | true => exact h
  | false =>
    have h : (match decide c with | true => k | false => False) := h
    by_cases e : c
    · rw [decide_eq_true e] at h; exact ⟨e, h⟩
    · rw [decide_eq_false e] at h; exact h.elim
theorem dec_out {b : Bool} {sh : Sh} {K : Bool → Sh → Prop} (h : dec b sh K) : K b sh := by
  obtain ⟨tr, n, sym, os⟩ := sh
  cases sym with
  | false => exact h
  | true => obtain ⟨_, rfl, h⟩ := h; exact h
theorem notF {b : Bool} (h : (!b) = false) : b = true := by cases b <;> first | rfl | exact h.symm
theorem notT {b : Bool} (h : (!b) = true) : b = false := by cases b <;> first | rfl | exact h.symm
inductive IfE (c p q : Prop) : Prop
  | t (e : c) (k : p) : IfE c p q
  | f (k : q) : IfE c p q
theorem ifE {c : Prop} [Decidable c] {p q : Prop} (h : match decide c with | true => p | false => q) : IfE c p q := by
  by_cases e : c
  · rw [decide_eq_true e] at h; exact .t e h
  · rw [decide_eq_false e] at h; exact .f h
inductive SomeE {α : Type} (o : Option α) (f : α → Prop) : Prop
  | mk (x : α) (e : o = some x) (k : f x) : SomeE o f
noncomputable def withO {α : Type} (o : Option α) (f : α → Prop) : Prop := match o with
  | some x => f x
  | Option.none => False
theorem someE {α : Type} {o : Option α} {f : α → Prop} (h : withO o f) : SomeE o f := by
  cases o with
  | none => exact False.elim h
  | some x => exact ⟨x, rfl, h⟩
theorem trueE {b : Bool} {p : Prop} (h : match b with | true => p | false => False) : b = true ∧ p := by
  cases b with
  | false => exact False.elim h
  | true => exact ⟨rfl, h⟩
theorem falseE {b : Bool} {p : Prop} (h : match b with | true => False | false => p) : b = false ∧ p := by
  cases b with
  | true => exact False.elim h
  | false => exact ⟨rfl, h⟩
inductive LkE {α : Type} (o : Option α) (K : α → Prop) (p : Prop) : Prop
  | s (d : α) (e : o = some d) (k : K d) : LkE o K p
  | n (e : o = Option.none) (k : p) : LkE o K p
noncomputable def orO {α : Type} (o : Option α) (f : α → Prop) (p : Prop) : Prop := match o with
  | some x => f x
  | Option.none => p
theorem lkE {α : Type} {o : Option α} {K : α → Prop} {p : Prop} (h : orO o K p) : LkE o K p := by
  cases o with
  | none => exact .n rfl h
  | some d => exact .s d rfl h
end Mine
namespace Mine
theorem intBits_le {a : Int} (h : a.natAbs < 2 ^ 64) : Builtin.Int.intBits a ≤ 64 := by
  unfold Builtin.Int.intBits
  split
  · omega
  · rename_i q
    have : a.natAbs ≠ 0 := fun e => by simp at q; omega
    have := (Nat.log2_lt this).mpr h
    omega
theorem pylong_no {x y : Int} (h : y.natAbs < 2 ^ 60) : Builtin.divisionGoesByPylong x y = false := by
  unfold Builtin.divisionGoesByPylong
  have : (if y == 0 then 0 else y.natAbs.log2 / 30 + 1) ≤ 300 := by
    split
    · omega
    · rename_i q
      have h0 : y.natAbs ≠ 0 := fun e => by simp at q; omega
      have := (Nat.log2_lt h0).mpr h
      omega
  simp only [Bool.and_eq_false_imp, decide_eq_true_eq]
  intro q
  exact absurd q (by simpa using this)
noncomputable def intB (op : Operator) (x y : Int) (sh : Sh) (K : D → Sh → Prop) : Prop := match op with
  | .Add => K (.int (x + y)) sh
  | .Sub => K (.int (x - y)) sh
  | .Mult => need (y.natAbs < 2 ^ 64) sh (K (.int (x * y)) sh)
  | .FloorDiv => need (0 < y ∧ y.natAbs < 2 ^ 60) sh (K (.int (Int.fdiv x y)) sh)
  | .Mod => need (0 < y) sh (K (.int (Int.fmod x y)) sh)
  | _ => False
noncomputable def tupB (xs ys : List D) (sh : Sh) (K : D → Sh → Prop) : Prop := match xs with
  | [] => False
  | x :: xs => match ys with
    | [] => False
    | y :: ys => need (xs.length + ys.length ≤ 1000) sh (K (.tup ((x :: xs) ++ (y :: ys))) sh)
noncomputable def isAdd (op : Operator) : Bool := match op with
  | .Add => true
  | _ => false
theorem isAdd_out {op : Operator} (h : isAdd op = true) : op = .Add := by
  cases op <;> first | rfl | exact Bool.noConfusion h
noncomputable def binD (op : Operator) (a b : D) (sh : Sh) (K : D → Sh → Prop) : Prop := match a with
  | .int x => (match b with
    | .int y => intB op x y sh K
    | _ => False)
  | .str x => (match b with
    | .str y => (match isAdd op with
      | true => need (x.length + y.length ≤ 1000000) sh (K (.str (x ++ y)) sh)
      | false => False)
    | _ => False)
  | .tup xs => (match b with
    | .tup ys => (match isAdd op with
      | true => tupB xs ys sh K
      | false => False)
    | _ => False)
  | _ => False
variable {G : Glo} {A : Around} {E : Value → Shared → Prop} {W : Wd} {sh : Sh} {s : Shared} {K : D → Sh → Prop} {Q : Value → Shared → Prop}
theorem str_empty_of {x : Str} (h : (x.length == 0) = true) : x = Str.empty := by
  obtain ⟨c⟩ := x
  have : c.size = 0 := by simpa [PySem.Str.length] using h
  have : c = #[] := Array.eq_empty_of_size_eq_zero this
  subst this; rfl
inductive TupAt (G : Glo) (W : Wd) (h : Heap) (ds : List D) (v : Value) : Prop
  | mk (a : Addr) (vs : Array Value) (n : _) (e : v = .ref a) (o : W.own a = none) (t : PySem.IsT h a vs n) (r : VL G W h ds vs.toList) : TupAt G W h ds v
theorem V.toIsT {ds : List D} {v : Value} {h : Heap} (x : V G W h (.tup ds) v) : TupAt G W h ds v := by
  obtain ⟨a, vs, n, e, o, t, r⟩ := x
  exact ⟨a, vs, n, e, o, t, r⟩
theorem V.tupNew {ds : List D} {vs : List Value} {h : Heap} (fr : W.own h.objs.size = none) (x : VL G W h ds vs) : V G W (h.push { cls := .type "tuple", data := .seq vs.toArray }) (.tup ds) (.ref h.objs.size) := by
  exact ⟨_, vs.toArray, 0, rfl, fr, Heap.get?_push_size _ rfl, by simpa using VL.mono (Le.push _) x⟩
theorem V.lstNew {ds : List D} {vs : List Value} {h : Heap} (fr : W.own h.objs.size = none) (x : VL G W h ds vs) : V G W (h.push { cls := .type "list", data := .seq vs.toArray }) (.lst ds) (.ref h.objs.size) := by
  exact ⟨_, vs.toArray, 0, rfl, fr, Heap.get?_push_size _ rfl, by simpa using VL.mono (Le.push _) x⟩
theorem push_keeps {h : Heap} (o : Obj) : ∀ a ob, h.get? a = some ob → (h.push o).get? a = some ob := fun _ _ e => Heap.get?_push_of_some _ e
theorem intB_ok {op : Operator} {a b : Int} {x y : Value} (h : intB op a b sh K) (at_ : At G W sh s) (hx : V G W s.heap (.int a) x) (hy : V G W s.heap (.int b) y) (q : Aft G W s K Q) :
    wpAny (model G.prog G.w) A (binaryOp op x y) Q E s := by
  have tk := at_.tk
  obtain ⟨t, _, rfl⟩ := hx; obtain ⟨u, _, rfl⟩ := hy
  cases op with
  | Add => exact add_int (q.here at_ h (V.int tk) (Nat.le_succ _))
  | Sub => exact sub_int (q.here at_ h (V.int tk) (Nat.le_succ _))
  | Mult =>
    obtain ⟨c, h⟩ := need_out h
    exact mul_int (q.here at_ h (V.int tk) (Nat.le_succ _)) (IntMulOk.of_right (intBits_le c))
  | FloorDiv =>
    obtain ⟨c, h⟩ := need_out h
    exact floordiv_int (by omega) (q.here at_ h (V.int tk) (Nat.le_succ _)) (.inl (pylong_no c.2))
  | Mod =>
    obtain ⟨c, h⟩ := need_out h
    exact mod_int' (by omega) (q.here at_ h (V.int tk) (Nat.le_succ _))
  | _ => exact False.elim h
theorem addS_ok {xs ys : Str} {x y : Value} (h : need (xs.length + ys.length ≤ 1000000) sh (K (.str (xs ++ ys)) sh)) (at_ : At G W sh s) (hx : V G W s.heap (.str xs) x) (hy : V G W s.heap (.str ys) y) (q : Aft G W s K Q) :
    wpAny (model G.prog G.w) A (binaryOp .Add x y) Q E s := by
  have tk := at_.tk
  obtain ⟨t, ht, rfl⟩ := hx; obtain ⟨u, hu, rfl⟩ := hy
  obtain ⟨c, h'⟩ := need_out h
  refine PySem.P.add_str ?_
  split
  · rename_i e
    have : xs ++ ys = ys := by rw [str_empty_of e]; exact PySem.Str.empty_append ys
    rw [this] at h'
    exact q.here at_ h' (V.str hu) (Nat.le_refl _)
  · split
    · rename_i e
      have : xs ++ ys = xs := by rw [str_empty_of e]; exact PySem.Str.append_empty xs
      rw [this] at h'
      exact q.here at_ h' (V.str ht) (Nat.le_refl _)
    · exact ⟨by rw [PySem.Str.length_append, sizeLine_eq]; omega, q.here at_ h' (V.str tk) (Nat.le_succ _)⟩
theorem addT_ok {xs ys : List D} {x y : Value} (h : tupB xs ys sh K) (at_ : At G W sh s) (hx : V G W s.heap (.tup xs) x) (hy : V G W s.heap (.tup ys) y) (q : Aft G W s K Q) :
    wpAny (model G.prog G.w) A (binaryOp .Add x y) Q E s := by
  cases xs with
  | nil => exact False.elim h
  | cons d xs =>
    cases ys with
    | nil => exact False.elim h
    | cons e ys =>
      obtain ⟨c, h⟩ := need_out h
      obtain ⟨a1, v1, n1, rfl, o1, t1, r1⟩ := hx.toIsT
      obtain ⟨a2, v2, n2, rfl, o2, t2, r2⟩ := hy.toIsT
      have l1 := r1.length
      have l2 := r2.length
      simp only [List.length_cons, Array.length_toList] at l1 l2
      refine PySem.P.add_tuple t1 t2 (by intro e; simp at e; subst e; simp at l1) (by intro e; simp at e; subst e; simp at l2) ?_ (by rw [sizeLine_eq]; omega)
      have e : ({ cls := .type "tuple", data := .seq (v1 ++ v2) } : Obj) = { cls := .type "tuple", data := .seq (v1.toList ++ v2.toList).toArray } := by
        simp
      rw [e]
      exact q.grown at_ h (push_keeps _) (V.tupNew at_.rep.fresh (VL.append r1 r2)) (Nat.le_refl _)
theorem bin_ok {op : Operator} {a b : D} {x y : Value} (h : binD op a b sh K) (at_ : At G W sh s) (hx : V G W s.heap a x) (hy : V G W s.heap b y) (q : Aft G W s K Q) :
    wpAny (model G.prog G.w) A (binaryOp op x y) Q E s := by
  cases a with
  | int i =>
    cases b with
    | int j => exact intB_ok h at_ hx hy q
    | _ => exact False.elim h
  | str xs =>
    cases b with
    | str ys =>
      have h : (match isAdd op with | true => need (xs.length + ys.length ≤ 1000000) sh (K (.str (xs ++ ys)) sh) | false => False) := h
      cases e : isAdd op with
      | true => rw [e] at h; cases isAdd_out e; exact addS_ok h at_ hx hy q
      | false => rw [e] at h; exact False.elim h
    | _ => exact False.elim h
  | tup xs =>
    cases b with
    | tup ys =>
      have h : (match isAdd op with | true => tupB xs ys sh K | false => False) := h
      cases e : isAdd op with
      | true => rw [e] at h; cases isAdd_out e; exact addT_ok h at_ hx hy q
      | false => rw [e] at h; exact False.elim h
    | _ => exact False.elim h
  | _ => exact False.elim h
end Mine
namespace Mine
mutual
noncomputable def py : D → Option PyData
  | .none => some .none
  | .bool b => some (.bool b)
  | .int i => some (.int i)
  | .str x => some (.str x)
  | .lst xs => (pyL xs).map .list
  | .tup xs => (pyL xs).map .tuple
  | _ => Option.none
noncomputable def pyL : List D → Option (List PyData)
  | [] => some []
  | x :: r => (py x).bind fun p => (pyL r).map (p :: ·)
end
noncomputable def pyFL (f : D → Option PyData) : List D → Option (List PyData)
  | [] => some []
  | x :: r => (f x).bind fun p => (pyFL f r).map (p :: ·)
noncomputable def pyR (o : Option T) (f : List D → Option PyData) : Option PyData := match o with
  | some (.lst xs) => f xs
  | some (.frz d) => py d
  | _ => Option.none
noncomputable def pyF (tr : List (Nat × T)) : Nat → D → Option PyData
  | 0, _ => Option.none
  | m + 1, d => match d with
    | .ref k => pyR (tr.lookup k) fun xs => (pyFL (pyF tr m) xs).map .list
    | .lst xs => (pyFL (pyF tr m) xs).map .list
    | .tup xs => (pyFL (pyF tr m) xs).map .tuple
    | d => py d
noncomputable def pyT (tr : List (Nat × T)) (d : D) : Option PyData := pyF tr 6 d
variable {G : Glo} {A : Around} {E : Value → Shared → Prop} {W : Wd} {sh : Sh} {s : Shared} {K : D → Sh → Prop} {Q : Value → Shared → Prop}
theorem nos {α : Type} {p : α} {C : Prop} (e : Option.none = some p) : C := nomatch e
inductive PyR (o : Option T) (f : List D → Option PyData) (p : PyData) : Prop
  | l (xs : List D) (h : o = some (.lst xs)) (e : f xs = some p) : PyR o f p
  | z (d : D) (h : o = some (.frz d)) (e : py d = some p) : PyR o f p
theorem pyR_out {o : Option T} {f : List D → Option PyData} {p : PyData} (e : pyR o f = some p) : PyR o f p := by
  cases o with
  | none => exact nos e
  | some t => cases t with
    | lst xs => exact .l xs rfl e
    | frz d => exact .z d rfl e
    | _ => exact nos e
theorem bind_map {α β γ : Type} {o : Option α} {o2 : Option β} {f : α → β → γ} {r : γ} (e : (o.bind fun x => o2.map (f x)) = some r) : ∃ x y, o = some x ∧ o2 = some y ∧ r = f x y := by
  cases o with
  | none => exact nos e
  | some x => cases o2 with
    | none => exact nos e
    | some y => exact ⟨x, y, rfl, rfl, (Option.some.inj e).symm⟩
theorem map_out {α β : Type} {o : Option α} {f : α → β} {r : β} (e : o.map f = some r) : ∃ x, o = some x ∧ r = f x := by
  cases o with
  | none => exact nos e
  | some x => exact ⟨x, rfl, (Option.some.inj e).symm⟩
theorem reads_all {h : Heap} {f : D → Option PyData} : ∀ {ds : List D}, (∀ d ∈ ds, ∀ v p, V G W h d v → f d = some p → ∃ as, Reads h v p as) → ∀ {vs : List Value} {ps : List PyData}, VL G W h ds vs → pyFL f ds = some ps → ∃ as, ReadsAll h vs ps as := by
  intro ds
  induction ds with
  | nil => intro _ vs ps x e; cases vs with
    | nil => cases e; exact ⟨_, .nil⟩
    | cons _ _ => exact False.elim x
  | cons d ds ih => intro hf vs ps x e; cases vs with
    | nil => exact False.elim x
    | cons v vs =>
      obtain ⟨p, qs, e1, e3, rfl⟩ := bind_map e
      obtain ⟨as, r1⟩ := hf d (List.mem_cons_self ..) v p x.1 e1
      obtain ⟨bs, r2⟩ := ih (fun d hd => hf d (List.mem_cons_of_mem _ hd)) x.2 e3
      exact ⟨_, .cons r1 r2⟩
theorem pyL_eq : ∀ ds, pyL ds = pyFL py ds := by
  intro ds
  induction ds with
  | nil => rfl
  | cons d ds ih => show (py d).bind _ = _; rw [ih]; rfl
theorem reads_of {h : Heap} {d : D} : ∀ {v : Value} {p : PyData}, V G W h d v → py d = some p → ∃ as, Reads h v p as := by
  refine D.rec (motive_1 := fun d => ∀ {v : Value} {p : PyData}, V G W h d v → py d = some p → ∃ as, Reads h v p as) (motive_2 := fun ds => ∀ d ∈ ds, ∀ v p, V G W h d v → py d = some p → ∃ as, Reads h v p as)
    ?_ ?_ ?_ ?_ (fun _ _ _ _ e => nos e) (fun _ _ _ _ e => nos e) (fun _ _ _ _ e => nos e) ?_ ?_ (fun _ _ _ _ _ _ e => nos e) (fun _ _ _ _ _ _ e => nos e) (fun _ _ _ _ _ _ _ e => nos e) (fun _ _ _ _ e => nos e) (fun _ _ _ _ e => nos e) (fun _ _ _ _ e => nos e) ?_ ?_ d
  · intro v p x e; cases e; cases x; exact ⟨_, .none⟩
  · intro b v p x e; cases e; cases x; exact ⟨_, .bool b⟩
  · intro i v p x e; cases e; obtain ⟨t, _, rfl⟩ := x; exact ⟨_, .int i t⟩
  · intro i v p x e; cases e; obtain ⟨t, _, rfl⟩ := x; exact ⟨_, .str i t⟩
  · intro ds ih v p x e
    obtain ⟨a, vs, n, rfl, o, q, r⟩ := x
    obtain ⟨ps, ep, rfl⟩ := map_out e
    rw [pyL_eq] at ep
    obtain ⟨as, ra⟩ := reads_all ih r ep
    exact ⟨_, .list q rfl rfl ra⟩
  · intro ds ih v p x e
    obtain ⟨a, vs, n, rfl, o, q, r⟩ := x
    obtain ⟨ps, ep, rfl⟩ := map_out e
    rw [pyL_eq] at ep
    obtain ⟨as, ra⟩ := reads_all ih r ep
    exact ⟨_, .tuple q rfl rfl ra⟩
  · intro d hd; cases hd
  · intro d ds ihd ih d' hd
    cases hd with
    | head => exact fun _ _ => ihd
    | tail _ hd => exact ih d' hd
theorem readsF_of {tr} {h : Heap} (R : Rep G W tr h) (m : Nat) : ∀ (d : D) (v : Value) (p : PyData), V G W h d v → pyF tr m d = some p → ∃ as, Reads h v p as := by
  induction m with
  | zero => intro d v p _ e; exact nos e
  | succ m ih =>
    intro d v p x e
    cases d with
    | ref k =>
      obtain ⟨_, rfl⟩ := x
      cases pyR_out e with
      | l xs e' e =>
        obtain ⟨ps, ep, rfl⟩ := map_out e
        obtain ⟨_, _, vs, n, q, r⟩ := R.trk _ _ e'
        obtain ⟨as, ra⟩ := reads_all (fun d _ => ih d) r ep
        exact ⟨_, .list q rfl rfl ra⟩
      | z d e' e => exact reads_of (R.trk _ _ e').2.2.2.2 e
    | lst xs =>
      obtain ⟨a, vs, n, rfl, o, q, r⟩ := x
      obtain ⟨ps, ep, rfl⟩ := map_out e
      obtain ⟨as, ra⟩ := reads_all (fun d _ => ih d) r ep
      exact ⟨_, .list q rfl rfl ra⟩
    | tup xs =>
      obtain ⟨a, vs, n, rfl, o, q, r⟩ := x
      obtain ⟨ps, ep, rfl⟩ := map_out e
      obtain ⟨as, ra⟩ := reads_all (fun d _ => ih d) r ep
      exact ⟨_, .tuple q rfl rfl ra⟩
    | _ => exact reads_of x e
theorem readsT_of {tr} {h : Heap} (R : Rep G W tr h) {d : D} {v : Value} {p : PyData} (x : V G W h d v) (e : pyT tr d = some p) : ∃ as, Reads h v p as := readsF_of R 6 d v p x e
noncomputable def sdR (o : Option T) : Option (List Str × List D) := match o with
  | some (.sd ks vs) => some (ks, vs)
  | some (.frz (.sd ks vs)) => some (ks, vs)
  | _ => Option.none
noncomputable def sdT (tr : List (Nat × T)) (d : D) : Option (List Str × List D) := match d with
  | .sd ks vs => some (ks, vs)
  | .ref k => sdR (tr.lookup k)
  | _ => Option.none
inductive SdAt (G : Glo) (W : Wd) (h : Heap) (ks : List Str) (vs : List D) (v : Value) : Prop
  | mk (a : Addr) (kvs : List (Str × Value)) (e : v = .ref a) (sm : (a == sysModules) = false) (d : h.DictOf (sK G) a kvs) (m : kvs.map (·.1) = ks) (r : VL G W h vs (kvs.map (·.2))) : SdAt G W h ks vs v
theorem sdV {h : Heap} {v : Value} {ks vs} (x : V G W h (.sd ks vs) v) : SdAt G W h ks vs v := by
  obtain ⟨a, kvs, e, _, sm, d, m, r⟩ := x
  exact ⟨a, kvs, e, sm, d, m, r⟩
theorem sdR_out {o : Option T} {kv : List Str × List D} (e : sdR o = some kv) : o = some (.sd kv.1 kv.2) ∨ o = some (.frz (.sd kv.1 kv.2)) := by
  cases o with
  | none => exact nos e
  | some t => cases t with
    | sd ks vs => cases e; exact .inl rfl
    | frz d => cases d with
      | sd ks vs => cases e; exact .inr rfl
      | _ => exact nos e
    | _ => exact nos e
theorem sdT_of {tr} {h : Heap} (R : Rep G W tr h) {d : D} {v : Value} {ks vs} (x : V G W h d v) (e : sdT tr d = some (ks, vs)) : SdAt G W h ks vs v := by
  cases d with
  | sd ks' vs' => cases e; exact sdV x
  | ref k => cases sdR_out e with
    | inl e' =>
      obtain ⟨_, _, kvs, sm, d, m, r⟩ := R.trk _ _ e'
      exact ⟨_, kvs, x.2, sm, d, m, r⟩
    | inr e' =>
      obtain ⟨a, kvs, ea, sm, d, m, r⟩ := sdV (R.trk _ _ e').2.2.2.2
      exact ⟨a, kvs, x.2.trans ea, sm, d, m, r⟩
  | _ => exact nos e
noncomputable def look (ks : List Str) (vs : List D) (k : Str) : Option D := match ks with
  | [] => Option.none
  | x :: ks => match vs with
    | [] => Option.none
    | v :: vs => if x = k then some v else look ks vs k
inductive LkV (G : Glo) (W : Wd) (h : Heap) : Option D → Option Value → Prop
  | n : LkV G W h Option.none Option.none
  | s (d : D) (v : Value) (x : V G W h d v) : LkV G W h (some d) (some v)
theorem valueAt_cons {x k : Str} {v : Value} {r : List (Str × Value)} : valueAt ((x, v) :: r) k = if x = k then some v else valueAt r k := by
  unfold valueAt
  by_cases q : x = k <;> simp [q]
theorem look_valueAt {h : Heap} (k : Str) : ∀ (kvs : List (Str × Value)) {ks : List Str} {vs : List D}, kvs.map (·.1) = ks → VL G W h vs (kvs.map (·.2)) → LkV G W h (look ks vs k) (valueAt kvs k) := by
  intro kvs
  induction kvs with
  | nil => rintro _ vs rfl r; exact .n
  | cons p kvs ih => rintro _ vs rfl r; cases vs with
    | nil => exact False.elim r
    | cons d vs =>
      rw [show valueAt (p :: kvs) k = if p.1 = k then some p.2 else valueAt kvs k from valueAt_cons]
      show LkV G W h (if p.1 = k then some d else look (kvs.map (·.1)) vs k) _
      by_cases q : p.1 = k
      · rw [if_pos q, if_pos q]; exact .s d p.2 r.1
      · rw [if_neg q, if_neg q]; exact ih rfl r.2
theorem look_some {h : Heap} {kvs : List (Str × Value)} {ks : List Str} {vs : List D} (e : kvs.map (·.1) = ks) (r : VL G W h vs (kvs.map (·.2))) {k : Str} {d : D} (q : look ks vs k = some d) :
    ∃ v, valueAt kvs k = some v ∧ V G W h d v := by
  have l := look_valueAt k kvs e r
  rw [q] at l
  generalize valueAt kvs k = o at l
  cases l with
  | s _ v x => exact ⟨v, rfl, x⟩
theorem look_none {h : Heap} {kvs : List (Str × Value)} {ks : List Str} {vs : List D} (e : kvs.map (·.1) = ks) (r : VL G W h vs (kvs.map (·.2))) {k : Str} (q : look ks vs k = Option.none) : valueAt kvs k = Option.none := by
  have l := look_valueAt k kvs e r
  rw [q] at l
  generalize valueAt kvs k = o at l
  cases l; rfl
theorem look_isSome {h : Heap} {kvs : List (Str × Value)} {ks : List Str} {vs : List D} (e : kvs.map (·.1) = ks) (r : VL G W h vs (kvs.map (·.2))) (k : Str) : (valueAt kvs k).isSome = (look ks vs k).isSome := by
  have l := look_valueAt k kvs e r
  generalize valueAt kvs k = o at l
  generalize look ks vs k = o' at l
  cases l <;> rfl
noncomputable def eqP (o o' : Option PyData) : Option (PyData × PyData) := match o with
  | some p => (match o' with
    | some q => (match SeqAt.shaped p && SeqAt.shaped q with | true => some (p, q) | false => Option.none)
    | Option.none => Option.none)
  | Option.none => Option.none
inductive EqP (o o' : Option PyData) (x : PyData × PyData) : Prop
  | mk (h : o = some x.1) (h' : o' = some x.2) (c : SeqAt.shaped x.1 = true) (c' : SeqAt.shaped x.2 = true) : EqP o o' x
theorem eqP_out {o o' : Option PyData} {x : PyData × PyData} (e : eqP o o' = some x) : EqP o o' x := by
  cases o with
  | none => exact nos e
  | some p => cases o' with
    | none => exact nos e
    | some q =>
      have e : (match SeqAt.shaped p && SeqAt.shaped q with | true => some (p, q) | false => Option.none) = some x := e
      cases c : SeqAt.shaped p && SeqAt.shaped q with
      | false => rw [c] at e; exact nos e
      | true =>
        rw [c] at e; cases e
        exact ⟨rfl, rfl, (Bool.and_eq_true_iff.mp c).1, (Bool.and_eq_true_iff.mp c).2⟩
noncomputable def rowsEq (ks : List Str) (vs : List D) (kb : List Str) (vb : List D) : Option Bool := match ks with
  | [] => (match vs with | [] => some true | _ :: _ => Option.none)
  | k :: ks => match vs with
    | [] => Option.none
    | v :: vs => match look kb vb k with
      | Option.none => some false
      | some y => (eqP (py v) (py y)).bind fun pq => (rowsEq ks vs kb vb).map (PyData.eqv pq.1 pq.2 && ·)
theorem rows_hits {kb : List (Str × Value)} {ksb vb} (eb : kb.map (·.1) = ksb) (rb : VL G W s.heap vb (kb.map (·.2))) (hu : A.in1.units + 64 < cLine) :
    ∀ {ka : List (Str × Value)} {ks vs r}, ka.map (·.1) = ks → VL G W s.heap vs (ka.map (·.2)) → rowsEq ks vs ksb vb = some r → KeqHits A.in1 s kb ka r := by
  intro ka
  induction ka with
  | nil => rintro _ vs r rfl z e; cases vs with
    | nil => cases e; exact .nil
    | cons _ _ => exact False.elim z
  | cons p ka ih => rintro _ vs r rfl z e; cases vs with
    | nil => exact False.elim z
    | cons d vs =>
      have e : (match look ksb vb p.1 with
        | Option.none => some false
        | some y => (eqP (py d) (py y)).bind fun pq => (rowsEq (ka.map (·.1)) vs ksb vb).map (PyData.eqv pq.1 pq.2 && ·)) = some r := e
      cases q : look ksb vb p.1 with
      | none => rw [q] at e; cases e; exact .miss (look_none eb rb q)
      | some y =>
        rw [q] at e
        obtain ⟨pq, b, ep, hb, rfl⟩ := bind_map e
        obtain ⟨e1, e2, c1, c2⟩ := eqP_out ep
        obtain ⟨u, hu', hv⟩ := look_some eb rb q
        obtain ⟨as, r1⟩ := reads_of z.1 e1
        obtain ⟨bs, r2⟩ := reads_of hv e2
        exact .hit hu' (keq_at r1 r2 c1 c2 hu) (ih rfl z.2 hb)
noncomputable def strOf (d : D) : Option Str := match d with
  | .str x => some x
  | _ => Option.none
theorem strOf_out {d : D} {x : Str} (e : strOf d = some x) : d = .str x := by
  cases d with
  | str y => exact congrArg D.str (Option.some.inj e)
  | _ => exact nos e
noncomputable def strsOf : List D → Option (List Str)
  | [] => some []
  | d :: r => (strOf d).bind fun x => (strsOf r).map (x :: ·)
theorem strsAre_of {h : Heap} : ∀ {ds : List D} {vs : List Value} {xs}, VL G W h ds vs → strsOf ds = some xs → StrsAre vs xs := by
  intro ds
  induction ds with
  | nil => intro vs xs z e; cases vs with
    | nil => cases e; exact .nil
    | cons _ _ => exact False.elim z
  | cons d ds ih => intro vs xs z e; cases vs with
    | nil => exact False.elim z
    | cons v vs =>
      obtain ⟨x, ys, e1, e2, rfl⟩ := bind_map e
      obtain rfl := strOf_out e1
      obtain ⟨⟨t, _, rfl⟩, z2⟩ := z
      exact .cons _ _ (ih z2 e2)
noncomputable def isNone : D → Option Bool
  | .none => some true
  | .bool _ | .int _ | .str _ | .lst _ | .tup _ | .sd _ _ | .pd _ _ | .obj _ _ _ | .ref _ => some false
  | _ => Option.none
theorem ref_some {v : Value} {a : Addr} {b : Bool} (x : v = .ref a) (e : some false = some b) : (v == .none) = b := by cases e; subst x; rfl
theorem isNone_of {h : Heap} {d : D} {v : Value} {b : Bool} (x : V G W h d v) (e : isNone d = some b) : (v == .none) = b := by
  cases d with
  | none => cases e; cases x; rfl
  | bool _ => cases e; cases x; rfl
  | int _ => cases e; obtain ⟨t, _, rfl⟩ := x; rfl
  | str _ => cases e; obtain ⟨t, _, rfl⟩ := x; rfl
  | lst _ => obtain ⟨_, _, _, x, _⟩ := x; exact ref_some x e
  | tup _ => obtain ⟨_, _, _, x, _⟩ := x; exact ref_some x e
  | sd _ _ => obtain ⟨_, _, x, _⟩ := x; exact ref_some x e
  | pd _ _ => obtain ⟨_, _, x, _⟩ := x; exact ref_some x e
  | obj _ _ _ => obtain ⟨_, x, _⟩ := x; exact ref_some x e
  | ref _ => exact ref_some x.2 e
  | _ => exact nos e
noncomputable def eqS (o o' : Option (List Str × List D)) : Option Bool := match o with
  | some a => (match o' with
    | some b => (match a.1.length == b.1.length with | true => rowsEq a.1 a.2 b.1 b.2 | false => some false)
    | Option.none => Option.none)
  | Option.none => Option.none
noncomputable def eqX (tr : List (Nat × T)) (a b : D) : Option Bool := match eqP (pyT tr a) (pyT tr b) with
  | some pq => some (PyData.eqv pq.1 pq.2)
  | Option.none => eqS (sdT tr a) (sdT tr b)
noncomputable def intOf (d : D) : Option Int := match d with
  | .int x => some x
  | _ => Option.none
theorem intOf_out {d : D} {x : Int} (e : intOf d = some x) : d = .int x := by
  cases d with
  | int y => exact congrArg D.int (Option.some.inj e)
  | _ => exact nos e
noncomputable def eqOf (tr : List (Nat × T)) (a b : D) : Option Bool := match a with
  | .int x => (match b with | .int y => some (x == y) | b => eqX tr (.int x) b)
  | .str x => (match b with | .str y => some (x == y) | b => eqX tr (.str x) b)
  | a => eqX tr a b
noncomputable def intsB (a b : D) (f : Int → Int → Bool) : Option Bool := (intOf a).bind fun x => (intOf b).map (f x)
noncomputable def inS (tr : List (Nat × T)) (x : Str) (b : D) : Option Bool := match b with
  | .str y => some (!(Builtin.Str.occurrences y x 0 y.length 1).isEmpty)
  | .tup ys => (strsOf ys).map fun zs => zs.any (· == x)
  | b => (sdT tr b).map fun kv => (look kv.1 kv.2 x).isSome
noncomputable def inL (xs : List D) (b : D) : Option Bool := match b with
  | .lst ys => (eqP (py (.tup xs)) (py (.lst ys))).bind fun pq => match pq.2 with
    | .list ps => some (ps.any fun q => PyData.eqv q pq.1)
    | _ => Option.none
  | _ => Option.none
noncomputable def cmpB (tr : List (Nat × T)) (op : CmpOp) (a b : D) : Option Bool := match op with
  | .Eq => eqOf tr a b
  | .NotEq => (eqOf tr a b).map (!·)
  | .Lt => intsB a b fun x y => decide (x < y)
  | .LtE => intsB a b fun x y => decide (x ≤ y)
  | .Gt => intsB a b fun x y => decide (y < x)
  | .GtE => intsB a b fun x y => decide (y ≤ x)
  | .Is => (match b with | .none => isNone a | _ => Option.none)
  | .IsNot => (match b with | .none => (isNone a).map (!·) | _ => Option.none)
  | .In => (match a with
    | .str x => inS tr x b
    | _ => Option.none)
  | .NotIn => match a with
    | .str x => (inS tr x b).map (!·)
    | .tup xs => (inL xs b).map (!·)
    | _ => Option.none
inductive CmpT (o : Option Bool) (sh : Sh) (K : D → Sh → Prop) : Prop
  | mk (r : Bool) (h : o = some r) (k : K (.bool r) sh) : CmpT o sh K
noncomputable def cmpK (o : Option Bool) (sh : Sh) (K : D → Sh → Prop) : Prop := match o with
  | some r => K (.bool r) sh
  | Option.none => False
noncomputable def cmpD (op : CmpOp) (a b : D) (sh : Sh) (K : D → Sh → Prop) : Prop := match sh.sym with
  | false => cmpK (cmpB sh.tr op a b) sh K
  | true => CmpT (cmpB sh.tr op a b) sh K
theorem cmpK_out {o : Option Bool} {sh : Sh} {K : D → Sh → Prop} (h : cmpK o sh K) : CmpT o sh K := by
  cases o with
  | none => exact False.elim h
  | some r => exact ⟨r, rfl, h⟩
theorem cmpD_out {op : CmpOp} {a b : D} {sh : Sh} {K : D → Sh → Prop} (h : cmpD op a b sh K) : CmpT (cmpB sh.tr op a b) sh K := by
  obtain ⟨tr, n, sym, os⟩ := sh
  cases sym with
  | false => exact cmpK_out h
  | true => exact h
theorem isTuple_isTup {h : Heap} {a : Addr} {vs : Array Value} {n : Nat} (x : PySem.IsT h a vs n) : IsTup h a vs := ⟨_, x, rfl, n, rfl⟩
noncomputable def EqW (G : Glo) (A : Around) (E : Value → Shared → Prop) (s : Shared) (x y : Value) (r : Bool) : Prop :=
  (∀ {Q : Value → Shared → Prop}, Q (.bool r) s → wpAny (model G.prog G.w) A (compareOp .Eq x y) Q E s) ∧ (∀ {Q : Value → Shared → Prop}, Q (.bool (!r)) s → wpAny (model G.prog G.w) A (compareOp .NotEq x y) Q E s)
theorem eqS_ok {ka kb : List Str} {va vb : List D} {x y : Value} {r : Bool} (hx : SdAt G W s.heap ka va x) (hy : SdAt G W s.heap kb vb y) (hu : A.units + 70 < cLine) (e : eqS (some (ka, va)) (some (kb, vb)) = some r) : EqW G A E s x y r := by
  obtain ⟨a1, k1, rfl, sm1, d1, rfl, l1⟩ := hx
  obtain ⟨a2, k2, rfl, sm2, d2, m2, l2⟩ := hy
  have s2 : k2.length = kb.length := by rw [← m2, List.length_map]
  have e : (match (k1.map (·.1)).length == kb.length with | true => rowsEq (k1.map (·.1)) va kb vb | false => some false) = some r := e
  rw [List.length_map, ← s2] at e
  have hu1 : A.in1.units + 64 < cLine := by show A.units + 1 + 64 < cLine; lia
  have hu2 : A.units + 3 < cLine := by lia
  cases c : k1.length == k2.length with
  | true =>
    rw [c] at e
    have hits := rows_hits (A := A) (s := s) m2 l2 hu1 rfl l1 e
    exact ⟨fun h => keq_eq sm1 sm2 d1 d2 (by lia) (fun _ => hits) (by rw [c]; exact h), fun h => keq_ne sm1 sm2 d1 d2 (by lia) (fun _ => hits) (by rw [c]; exact h)⟩
  | false =>
    rw [c] at e
    cases e
    have c2 : k1.length = k2.length → KeqHits A.in1 s k2 k1 false := fun q => absurd q (ne_of_beq_false c)
    exact ⟨fun h => keq_eq sm1 sm2 d1 d2 (by lia) c2 (by rw [c]; exact h), fun h => keq_ne sm1 sm2 d1 d2 (by lia) c2 (by rw [c]; exact h)⟩
theorem eqX_ok {a b : D} {x y : Value} {r : Bool} (R : Rep G W sh.tr s.heap) (hx : V G W s.heap a x) (hy : V G W s.heap b y) (hu : A.units + 70 < cLine) (e : eqX sh.tr a b = some r) : EqW G A E s x y r := by
  have e : (match eqP (pyT sh.tr a) (pyT sh.tr b) with
    | some pq => some (PyData.eqv pq.1 pq.2)
    | Option.none => eqS (sdT sh.tr a) (sdT sh.tr b)) = some r := e
  cases c : eqP (pyT sh.tr a) (pyT sh.tr b) with
  | some pq =>
    rw [c] at e
    cases e
    obtain ⟨e1, e2, c1, c2⟩ := eqP_out c
    obtain ⟨as, r1⟩ := readsT_of R hx e1
    obtain ⟨bs, r2⟩ := readsT_of R hy e2
    exact ⟨fun h => eq_dataH r1 r2 c1 c2 (by lia) h, fun h => ne_dataH r1 r2 c1 c2 (by lia) h⟩
  | none =>
    rw [c] at e
    cases e1 : sdT sh.tr a with
    | none => rw [e1] at e; exact nos e
    | some ka => cases e2 : sdT sh.tr b with
      | none => rw [e1, e2] at e; exact nos e
      | some kb => rw [e1, e2] at e; exact eqS_ok (sdT_of R hx e1) (sdT_of R hy e2) hu e
theorem eqOf_ok {a b : D} {x y : Value} {r : Bool} (R : Rep G W sh.tr s.heap) (hx : V G W s.heap a x) (hy : V G W s.heap b y) (hu : A.units + 70 < cLine) (e : eqOf sh.tr a b = some r) : EqW G A E s x y r := by
  cases a with
  | int i => cases b with
    | int j =>
      cases e
      obtain ⟨t, _, rfl⟩ := hx; obtain ⟨u, _, rfl⟩ := hy
      exact ⟨fun h => eq_int h, fun h => ne_int h⟩
    | _ => exact eqX_ok R hx hy hu e
  | str i => cases b with
    | str j =>
      cases e
      obtain ⟨t, _, rfl⟩ := hx; obtain ⟨u, _, rfl⟩ := hy
      exact ⟨fun h => eq_str h, fun h => ne_str h⟩
    | _ => exact eqX_ok R hx hy hu e
  | _ => exact eqX_ok R hx hy hu e
theorem mapOf_look {h : Heap} {a : Addr} {kvs} (d : h.DictOf (sK G) a kvs) : h.MapOf (sK G) a (valueAt kvs) := d.mapOf
inductive Ints (a b : D) (f : Int → Int → Bool) (r : Bool) : Prop
  | mk (x y : Int) (h : a = .int x) (h' : b = .int y) (e : r = f x y) : Ints a b f r
theorem ints_out {a b : D} {f : Int → Int → Bool} {r : Bool} (e : intsB a b f = some r) : Ints a b f r :=
  let ⟨x, y, e1, e2, e3⟩ := bind_map e; ⟨x, y, intOf_out e1, intOf_out e2, e3⟩
inductive InW (G : Glo) (A : Around) (E : Value → Shared → Prop) (Q : Value → Shared → Prop) (s : Shared) (x y : Value) (r : Bool) : Prop
  | mk (i : (∀ tk, s.toks ≤ tk → Q (.bool r) { s with toks := tk }) → wpAny (model G.prog G.w) A (compareOp .In x y) Q E s)
    (n : (∀ tk, s.toks ≤ tk → Q (.bool !r) { s with toks := tk }) → wpAny (model G.prog G.w) A (compareOp .NotIn x y) Q E s) : InW G A E Q s x y r
theorem inSd_ok {x : Str} {b : D} {y : Value} {t : Nat} {r : Bool} (R : Rep G W sh.tr s.heap) (hy : V G W s.heap b y) (e : ((sdT sh.tr b).map fun kv => (look kv.1 kv.2 x).isSome) = some r) : InW G A E Q s (.str x t) y r := by
  obtain ⟨⟨ks, vs⟩, e1, rfl⟩ := map_out e
  obtain ⟨a1, k1, rfl, sm1, d1, m1, l1⟩ := sdT_of R hy e1
  refine ⟨fun fin => wpAny_in_of (strKind_is _ _ _ _) sm1 (mapOf_look d1) ?_, fun fin => wpAny_notIn_of (strKind_is _ _ _ _) sm1 (mapOf_look d1) ?_⟩
  · rw [look_isSome m1 l1]; exact fin _ (Nat.le_succ _)
  · rw [look_isSome m1 l1]; exact fin _ (Nat.le_succ _)
theorem inS_ok {x : Str} {b : D} {y : Value} {t : Nat} {r : Bool} (R : Rep G W sh.tr s.heap) (hy : V G W s.heap b y) (e : inS sh.tr x b = some r) : InW G A E Q s (.str x t) y r := by
  cases b with
  | str z =>
    cases e
    obtain ⟨u, _, rfl⟩ := hy
    exact ⟨fun fin => in_str (fin s.toks (Nat.le_refl _)), fun fin => notIn_str (fin s.toks (Nat.le_refl _))⟩
  | tup zs =>
    obtain ⟨zs, e1, rfl⟩ := map_out e
    obtain ⟨a2, v2, n2, rfl, o2, t2, r2⟩ := hy.toIsT
    exact ⟨fun fin => in_tuple_strs (isTuple_isTup t2) (strsAre_of r2 e1) (fin s.toks (Nat.le_refl _)), fun fin => notin_tuple_strs (isTuple_isTup t2) (strsAre_of r2 e1) (fin s.toks (Nat.le_refl _))⟩
  | _ => exact inSd_ok R hy e
theorem inL_ok {xs : List D} {b : D} {x y : Value} {r : Bool} (hx : V G W s.heap (.tup xs) x) (hy : V G W s.heap b y) (hu : A.units + 70 < cLine) (e : inL xs b = some r) (fin : Q (.bool !r) s) : wpAny (model G.prog G.w) A (compareOp .NotIn x y) Q E s := by
  cases b with
  | lst ys =>
    obtain ⟨pq, ep, e⟩ := Option.bind_eq_some_iff.mp e
    obtain ⟨e1, e2, c1, c2⟩ := eqP_out ep
    obtain ⟨p, q⟩ := pq
    obtain ⟨as, r1⟩ := reads_of hx e1
    obtain ⟨bs, r2⟩ := reads_of hy e2
    obtain ⟨ps, e3, rfl⟩ := map_out e2
    cases e
    obtain ⟨a2, v2, n2, rfl, o2, t2, z2⟩ := hy
    refine SeqAt.notIn_list_reads r2 r1 (SeqAt.canLay_of_shaped c2) (SeqAt.canLay_of_shaped c1) ?_ fin
    have d1 := SeqAt.depth_of_shaped c1
    have := Nat.min_le_right (PyData.depthAll ps) p.depth
    lia
  | _ => exact nos e
theorem cmp_ok {op : CmpOp} {a b : D} {x y : Value} (h : cmpD op a b sh K) (at_ : At G W sh s) (hx : V G W s.heap a x) (hy : V G W s.heap b y) (hu : A.units + 70 < cLine) (q : Aft G W s K Q) :
    wpAny (model G.prog G.w) A (compareOp op x y) Q E s := by
  obtain ⟨r, e, k⟩ := cmpD_out h
  have fin : ∀ tk, s.toks ≤ tk → Q (.bool r) { s with toks := tk } := fun tk ht => q.here at_ k V.bool ht
  clear q h k
  have fin0 : Q (.bool r) s := fin s.toks (Nat.le_refl _)
  cases op with
  | Eq => exact (eqOf_ok at_.rep hx hy hu e).1 fin0
  | NotEq =>
    obtain ⟨r', e1, rfl⟩ := map_out e
    exact (eqOf_ok at_.rep hx hy hu e1).2 fin0
  | Lt => obtain ⟨i, j, rfl, rfl, rfl⟩ := ints_out e; obtain ⟨t, _, rfl⟩ := hx; obtain ⟨u, _, rfl⟩ := hy; exact lt_int fin0
  | LtE => obtain ⟨i, j, rfl, rfl, rfl⟩ := ints_out e; obtain ⟨t, _, rfl⟩ := hx; obtain ⟨u, _, rfl⟩ := hy; exact le_int fin0
  | Gt => obtain ⟨i, j, rfl, rfl, rfl⟩ := ints_out e; obtain ⟨t, _, rfl⟩ := hx; obtain ⟨u, _, rfl⟩ := hy; exact gt_int fin0
  | GtE => obtain ⟨i, j, rfl, rfl, rfl⟩ := ints_out e; obtain ⟨t, _, rfl⟩ := hx; obtain ⟨u, _, rfl⟩ := hy; exact ge_int fin0
  | Is => cases b with
    | none => cases hy; exact is_none_gen ((isNone_of hx e).symm ▸ fin0)
    | _ => exact nos e
  | IsNot => cases b with
    | none =>
      cases hy
      obtain ⟨r', e1, rfl⟩ := map_out e
      exact isNot_none ((isNone_of hx e1).symm ▸ fin0)
    | _ => exact nos e
  | In => cases a with
    | str i => obtain ⟨t, _, rfl⟩ := hx; exact (inS_ok at_.rep hy e).1 fin
    | _ => exact nos e
  | NotIn => cases a with
    | str i =>
      obtain ⟨r', e1, rfl⟩ := map_out e
      obtain ⟨t, _, rfl⟩ := hx
      exact (inS_ok at_.rep hy e1).2 fin
    | tup xs =>
      obtain ⟨r', e1, rfl⟩ := map_out e
      exact inL_ok hx hy hu e1 fin0
    | _ => exact nos e
end Mine
namespace Mine
inductive OrcT (o : Option D) (sh : Sh) (K : D → Sh → Prop) : Prop
  | mk (d : D) (h : o = some d) (k : K d sh) : OrcT o sh K
noncomputable def orcK (r : Option D) (sh : Sh) (K : D → Sh → Prop) : Prop := match r with
  | some d => K d sh
  | Option.none => False
noncomputable def orc (con : Bool) (r : Option D) (sh : Sh) (K : D → Sh → Prop) : Prop :=
  match sh.sym && !con with
  | false => orcK r sh K
  | true => OrcT r sh K
variable {G : Glo} {A : Around} {E : Value → Shared → Prop} {W : Wd} {sh : Sh} {s : Shared} {K : D → Sh → Prop} {Q : Value → Shared → Prop}
theorem orcK_out {r : Option D} (h : orcK r sh K) : OrcT r sh K := by
  cases r with
  | none => exact False.elim h
  | some d => exact ⟨d, rfl, h⟩
theorem orc_out {con : Bool} {r : Option D} (h : orc con r sh K) : OrcT r sh K := by
  obtain ⟨tr, n, sym, os⟩ := sh
  cases sym with
  | false => exact orcK_out h
  | true => cases con with
    | true => exact orcK_out h
    | false => exact h
noncomputable def inR (i : Int) : Bool := match i with
  | .ofNat n => Nat.blt n 4611686018427387904
  | .negSucc _ => false
theorem inR_out {i : Int} (h : inR i = true) : 0 ≤ i ∧ i < 2 ^ 62 := by
  cases i with
  | ofNat n => exact ⟨Int.natCast_nonneg n, Int.ofNat_lt.mpr (Nat.le_of_ble_eq_true h)⟩
  | negSucc n => exact Bool.noConfusion h
theorem inR_in {i : Int} (h : 0 ≤ i ∧ i < 2 ^ 62) : inR i = true := by
  cases i with
  | ofNat n => exact Nat.ble_eq_true_of_le (Int.ofNat_lt.mp h.2)
  | negSucc n => exact absurd h.1 (Int.not_le.mpr (Int.negSucc_lt_zero n))
noncomputable def nth (xs : List D) (i : Int) : Option D := match inR i with
  | true => xs[i.toNat]?
  | false => Option.none
theorem onR {α : Type} {i : Int} {o : Option α} {d : α} (h : (match inR i with | true => o | false => Option.none) = some d) : (0 ≤ i ∧ i < 2 ^ 62) ∧ o = some d := by
  cases c : inR i with
  | true => rw [c] at h; exact ⟨inR_out c, h⟩
  | false => rw [c] at h; exact nos h
noncomputable def nthS (x : Str) (i : Int) : Option D := match inR i with
  | true => (x.cps[i.toNat]?).map (fun c => .str ⟨#[c]⟩)
  | false => Option.none
noncomputable def nthI (xs : List Int) (i : Int) : Option D := match inR i with
  | true => (xs[i.toNat]?).map .int
  | false => Option.none
noncomputable def lookP (ks : List (List Str)) (vs : List D) (k : List Str) : Option D := match ks with
  | [] => Option.none
  | x :: ks => match vs with
    | [] => Option.none
    | v :: vs => if x = k then some v else lookP ks vs k
noncomputable def lstR (o : Option T) : Option (List D) := match o with
  | some (.lst xs) => some xs
  | some (.frz (.lst xs)) => some xs
  | _ => Option.none
noncomputable def lstT (tr : List (Nat × T)) (d : D) : Option (List D) := match d with
  | .lst xs => some xs
  | .ref k => lstR (tr.lookup k)
  | _ => Option.none
noncomputable def pdR (o : Option T) : Option (List (List Str) × List D) := match o with
  | some (.pd ks vs) => some (ks, vs)
  | some (.frz (.pd ks vs)) => some (ks, vs)
  | _ => Option.none
noncomputable def pdT (tr : List (Nat × T)) (d : D) : Option (List (List Str) × List D) := match d with
  | .pd ks vs => some (ks, vs)
  | .ref k => pdR (tr.lookup k)
  | _ => Option.none
noncomputable def itemL (tr : List (Nat × T)) (a : D) (k : Int) : Option D := (lstT tr a).bind fun xs => nth xs k
noncomputable def itemI (tr : List (Nat × T)) (a : D) (k : Int) : Option D := match a with
  | .tup xs => nth xs k
  | .str x => nthS x k
  | .scr xs => nthI xs k
  | a => itemL tr a k
noncomputable def itemOf (tr : List (Nat × T)) (a i : D) : Option D := match i with
  | .int k => itemI tr a k
  | .str k => (sdT tr a).bind fun kv => look kv.1 kv.2 k
  | .tup ks => (pdT tr a).bind fun kv => (strsOf ks).bind fun k => lookP kv.1 kv.2 k
  | _ => Option.none
noncomputable def getD (con : Bool) (a i : D) (sh : Sh) (K : D → Sh → Prop) : Prop := orc con (itemOf sh.tr a i) sh K
inductive LstAt (G : Glo) (W : Wd) (h : Heap) (xs : List D) (v : Value) : Prop
  | mk (a : Addr) (vs : Array Value) (n : _) (e : v = .ref a) (t : IsL h a vs n) (r : VL G W h xs vs.toList) : LstAt G W h xs v
theorem lstV {h : Heap} {v : Value} {xs} (x : V G W h (.lst xs) v) : LstAt G W h xs v := by
  obtain ⟨a, vs, n, e, _, t, r⟩ := x
  exact ⟨a, vs, n, e, t, r⟩
theorem lstR_out {o : Option T} {xs : List D} (e : lstR o = some xs) : o = some (.lst xs) ∨ o = some (.frz (.lst xs)) := by
  cases o with
  | none => exact nos e
  | some t => cases t with
    | lst ys => cases e; exact .inl rfl
    | frz d => cases d with
      | lst ys => cases e; exact .inr rfl
      | _ => exact nos e
    | _ => exact nos e
theorem lstT_of {tr} {h : Heap} (R : Rep G W tr h) {d : D} {v : Value} {xs} (x : V G W h d v) (e : lstT tr d = some xs) : LstAt G W h xs v := by
  cases d with
  | lst ys => cases e; exact lstV x
  | ref k => cases lstR_out e with
    | inl e' =>
      obtain ⟨_, _, vs, n, t, r⟩ := R.trk _ _ e'
      exact ⟨_, vs, n, x.2, t, r⟩
    | inr e' =>
      obtain ⟨a, vs, n, ea, t, r⟩ := lstV (R.trk _ _ e').2.2.2.2
      exact ⟨a, vs, n, x.2.trans ea, t, r⟩
  | _ => exact nos e
inductive PdAt (G : Glo) (W : Wd) (h : Heap) (ks : List (List Str)) (vs : List D) (v : Value) : Prop
  | mk (a : Addr) (xs : List (List Str × Addr × Value)) (e : v = .ref a) (sm : (a == sysModules) = false) (d : h.DictOfH (tK G) a xs) (k : ∀ x ∈ xs, KeyOk W h x.2.1) (m : xs.map (·.1) = ks) (r : VL G W h vs (xs.map (·.2.2))) : PdAt G W h ks vs v
theorem pdV {h : Heap} {v : Value} {ks vs} (x : V G W h (.pd ks vs) v) : PdAt G W h ks vs v := by
  obtain ⟨a, kvs, e, _, sm, d, k, m, r⟩ := x
  exact ⟨a, kvs, e, sm, d, k, m, r⟩
theorem pdR_out {o : Option T} {kv : List (List Str) × List D} (e : pdR o = some kv) : o = some (.pd kv.1 kv.2) ∨ o = some (.frz (.pd kv.1 kv.2)) := by
  cases o with
  | none => exact nos e
  | some t => cases t with
    | pd ks vs => cases e; exact .inl rfl
    | frz d => cases d with
      | pd ks vs => cases e; exact .inr rfl
      | _ => exact nos e
    | _ => exact nos e
theorem pdT_of {tr} {h : Heap} (R : Rep G W tr h) {d : D} {v : Value} {ks vs} (x : V G W h d v) (e : pdT tr d = some (ks, vs)) : PdAt G W h ks vs v := by
  cases d with
  | pd ks' vs' => cases e; exact pdV x
  | ref k => cases pdR_out e with
    | inl e' =>
      obtain ⟨_, _, xs, sm, d, k, m, r⟩ := R.trk _ _ e'
      exact ⟨_, xs, x.2, sm, d, k, m, r⟩
    | inr e' =>
      obtain ⟨a, xs, ea, sm, d, k, m, r⟩ := pdV (R.trk _ _ e').2.2.2.2
      exact ⟨a, xs, x.2.trans ea, sm, d, k, m, r⟩
  | _ => exact nos e
inductive LkP (G : Glo) (W : Wd) (h : Heap) : Option D → Option (Addr × Value) → Prop
  | n : LkP G W h Option.none Option.none
  | s (d : D) (p : Addr × Value) (x : V G W h d p.2) : LkP G W h (some d) (some p)
theorem atKey_cons {p : List Str × Addr × Value} {k : List Str} {r : List (List Str × Addr × Value)} : atKey (p :: r) k = if p.1 = k then some p.2 else atKey r k := by
  unfold atKey
  by_cases q : p.1 = k <;> simp [q]
theorem lookP_at {h : Heap} (k : List Str) : ∀ (xs : List (List Str × Addr × Value)) {ks : List (List Str)} {vs : List D}, xs.map (·.1) = ks → VL G W h vs (xs.map (·.2.2)) → LkP G W h (lookP ks vs k) (atKey xs k) := by
  intro xs
  induction xs with
  | nil => rintro _ vs rfl r; exact .n
  | cons p xs ih => rintro _ vs rfl r; cases vs with
    | nil => exact False.elim r
    | cons d vs =>
      rw [atKey_cons]
      show LkP G W h (if p.1 = k then some d else lookP (xs.map (·.1)) vs k) _
      by_cases q : p.1 = k
      · rw [if_pos q, if_pos q]; exact .s d p.2 r.1
      · rw [if_neg q, if_neg q]; exact ih rfl r.2
theorem lookP_some {h : Heap} {xs : List (List Str × Addr × Value)} {ks} {vs : List D} (e : xs.map (·.1) = ks) (r : VL G W h vs (xs.map (·.2.2))) {k : List Str} {d : D} (q : lookP ks vs k = some d) :
    ∃ p, atKey xs k = some p ∧ V G W h d p.2 := by
  have l := lookP_at k xs e r
  rw [q] at l
  generalize atKey xs k = o at l
  cases l with
  | s _ p x => exact ⟨p, rfl, x⟩
theorem itemsAre_of {h : Heap} : ∀ {ds : List D} {vs : List Value} {xs : List Str}, VL G W h ds vs → strsOf ds = some xs → PySem.ItemsAre (sK G) xs vs := by
  intro ds vs xs z e
  have := strsAre_of z e
  clear z e
  induction this with
  | nil => exact .nil
  | cons x t _ ih => exact .cons (strKind_is _ _ _ _) ih
theorem isKey_of {h : Heap} {ds : List D} {v : Value} {xs : List Str} (x : V G W h (.tup ds) v) (e : strsOf ds = some xs) : ∃ a, v = .ref a ∧ KeyOk W h a ∧ IsTupleKey (sK G) h xs a := by
  obtain ⟨a, vs, n, rfl, o, t, r⟩ := x.toIsT
  exact ⟨a, rfl, ⟨o, _, _, t⟩, _, vs, n, t, rfl, rfl, itemsAre_of r e⟩
theorem seqIndex_of {i : Int} {n : Nat} (h0 : 0 ≤ i) (h : i.toNat < n) : seqIndex? i n = some i.toNat := by
  unfold seqIndex?
  have h' : i < (n : Int) := Int.toNat_of_nonneg h0 ▸ Int.ofNat_lt.mpr h
  rw [if_neg (Int.not_lt.mpr h0)]
  exact if_pos (by rw [decide_eq_true h0, decide_eq_true h']; rfl)
theorem sub_eq (slice : Expr) (o i : Value) : ∃ ops, subscripted slice false o i = operate ops (getItem o i) := by
  cases slice with
  | Slice l u p _ => cases p <;> exact ⟨_, rfl⟩
  | _ => exact ⟨_, rfl⟩
theorem intsAre_get {vs : List Value} {ns : List Int} (h : IntsAre vs ns) : ∀ {i : Nat} {x : Int}, ns[i]? = some x → ∃ t, vs[i]? = some (.int x t) := by
  induction h with
  | nil => intro i x e; simp at e
  | cons n t _ ih =>
    intro i x e
    cases i with
    | zero => simp at e; subst e; exact ⟨t, by simp⟩
    | succ i =>
      obtain ⟨u, q⟩ := ih (by simpa using e)
      exact ⟨u, by simpa using q⟩
theorem get_lst {value slice : Expr} {a : D} {i : Int} {t : Nat} {x : Value} {d : D} (hx : V G W s.heap a x) (at_ : At G W sh s) (e : itemL sh.tr a i = some d) (k : K d sh) (q : Aft G W s K Q) :
    wpAny (model G.prog G.w) A (subscriptTail value slice x (.int i t)) Q E s := by
  obtain ⟨ops, hs⟩ := sub_eq slice x (.int i t)
  obtain ⟨xs, e1, e2⟩ := Option.bind_eq_some_iff.mp e
  obtain ⟨c, e⟩ := onR e2
  obtain ⟨a1, v1, n1, rfl, t1, r1⟩ := lstT_of at_.rep hx e1
  obtain ⟨v, ev, hv⟩ := r1.get e
  rw [Array.getElem?_toList] at ev
  exact tail_any ⟨_, t1, rfl⟩ PySem.F.slot_list_getitem.lookup (wpAny_getItem_list ⟨_, t1, rfl, _, rfl⟩ c.1 (Int.lt_trans c.2 (by decide)) ev (q.here at_ k hv (Nat.le_refl _))) hs
theorem get_ok {con : Bool} {value slice : Expr} {a i : D} {x y : Value} (h : getD con a i sh K) (at_ : At G W sh s) (hx : V G W s.heap a x) (hy : V G W s.heap i y) (hu : A.units + 70 < cLine) (q : Aft G W s K Q) :
    wpAny (model G.prog G.w) A (subscriptTail value slice x y) Q E s := by
  obtain ⟨d, e, k⟩ := orc_out h
  clear h
  cases i with
  | int i =>
    obtain ⟨u, _, rfl⟩ := hy
    obtain ⟨ops, hs⟩ := sub_eq slice x (.int i u)
    cases a with
    | tup xs =>
      obtain ⟨c, e⟩ := onR e
      obtain ⟨a1, v1, n1, rfl, o1, t1, r1⟩ := hx.toIsT
      obtain ⟨v, ev, hv⟩ := r1.get e
      rw [Array.getElem?_toList] at ev
      exact tail_any ⟨_, t1, rfl⟩ PySem.F.slot_tuple_getitem.lookup (PySem.P.getItem_tuple t1 (by lia) (by lia) (seqIndex_of c.1 (Array.getElem?_eq_some_iff.mp ev).1) ev (q.here at_ k hv (Nat.le_refl _))) hs
    | str xs =>
      obtain ⟨c, e⟩ := onR e
      obtain ⟨cp, ec, rfl⟩ := map_out e
      obtain ⟨t, _, rfl⟩ := hx
      refine tail_any (typeIs_str _ _ _) PySem.F.slot_str_getitem.lookup (PySem.P.getItem_str (by simp; lia) ?_ (q.here at_ k (V.str trivial) (Nat.le_succ _))) hs
      rw [seqIndex_of c.1 (n := PySem.Str.length _) (Array.getElem?_eq_some_iff.mp ec).1]
      exact ec
    | scr xs =>
      obtain ⟨c, e⟩ := onR e
      obtain ⟨x, ec, rfl⟩ := map_out e
      obtain ⟨a1, vs, rfl, o1, t1, r1⟩ := hx
      obtain ⟨t, ev⟩ := intsAre_get r1 ec
      rw [Array.getElem?_toList] at ev
      exact tail_any t1.typeIs PySem.F.slot_list_getitem.lookup (wpAny_getItem_list t1 c.1 (Int.lt_trans c.2 (by decide)) ev (q.here at_ k (V.int trivial) (Nat.le_refl _))) hs
    | _ => exact get_lst hx at_ e k q
  | str i =>
    obtain ⟨ops, hs⟩ := sub_eq slice x y
    obtain ⟨⟨ks, vs⟩, e1, e2⟩ := Option.bind_eq_some_iff.mp e
    obtain ⟨a1, k1, rfl, sm1, d1, m1, l1⟩ := sdT_of at_.rep hx e1
    obtain ⟨t, _, rfl⟩ := hy
    obtain ⟨v, ev, hv⟩ := look_some m1 l1 e2
    exact tail_any d1.typeIs PySem.F.slot_dict_getitem.lookup (wpAny_getItem_of (strKind_is _ _ _ _) d1.mapOf ev (q.here at_ k hv (Nat.le_succ _))) hs
  | tup i =>
    obtain ⟨ops, hs⟩ := sub_eq slice x y
    obtain ⟨⟨ks, vs⟩, e1, e2⟩ := Option.bind_eq_some_iff.mp e
    obtain ⟨kk, e3, e4⟩ := Option.bind_eq_some_iff.mp e2
    obtain ⟨a1, xs, rfl, sm1, d1, ow, m1, l1⟩ := pdT_of at_.rep hx e1
    obtain ⟨b, rfl, ob, ik⟩ := isKey_of hy e3
    obtain ⟨p, ep, hv⟩ := lookP_some m1 l1 e4
    exact tail_any d1.typeIs PySem.F.slot_dict_getitem.lookup (wpAny_getItem_heap (tupleKind_room_in1 (by lia)) ik d1 ep (q.here at_ k hv (Nat.le_add_right _ _))) hs
  | _ => exact nos e
end Mine
namespace Mine
noncomputable def pairOf (d : D) : Option (Str × D) := match d with
  | .tup [.str k, v] => some (k, v)
  | _ => Option.none
noncomputable def pairsOf : List D → Option (List Str × List D)
  | [] => some ([], [])
  | d :: r => (pairOf d).bind fun p => (pairsOf r).map fun kv => (p.1 :: kv.1, p.2 :: kv.2)
noncomputable def lenL (a : D) (sh : Sh) (K : D → Sh → Prop) : Prop := withO (lstT sh.tr a) fun xs => need (xs.length < 1000000) sh (K (.int xs.length) sh)
noncomputable def lenB (a : D) (sh : Sh) (K : D → Sh → Prop) : Prop := match a with
  | .str x => need (x.length < 1000000) sh (K (.int x.length) sh)
  | .tup xs => need (xs.length < 1000000) sh (K (.int xs.length) sh)
  | .scr xs => need (xs.length < 1000000) sh (K (.int xs.length) sh)
  | a => lenL a sh K
noncomputable def strB (x : String) (a : Str) (sh : Sh) (K : D → Sh → Prop) : Prop := match decide (x = "str.lower") with
  | true => need (a.length ≤ 1000) sh (K (.str (Txt.lower a)) sh)
  | false => match decide (x = "str.upper") with
    | true => need (a.length ≤ 1000) sh (K (.str (Txt.upper a)) sh)
    | false => match decide (x = "str.split") with
      | true => need (a.length ≤ 1000 ∧ (Builtin.Str.spaceWords a (a.length + 1)).length ≤ 1000) sh (K (.lst ((PySem.wordsOf a).map .str)) sh)
      | false => False
noncomputable def bi1 (x : String) (a : D) (sh : Sh) (K : D → Sh → Prop) : Prop := match decide (x = "len") with
  | true => lenB a sh K
  | false => match a with
    | .int i => (match decide (x = "abs") with
      | true => K (.int (if i < 0 then -i else i)) sh
      | false => False)
    | .str y => strB x y sh K
    | _ => False
noncomputable def appK (o : Option T) (b : D) (sh : Sh) (k : Nat) (K : D → Sh → Prop) : Prop := match o with
  | some (.lst xs) => need (xs.length ≤ 100000) sh (K .none { sh with tr := setT sh.tr k (.lst (xs ++ [b])) })
  | _ => False
noncomputable def bi2 (x : String) (a b : D) (sh : Sh) (K : D → Sh → Prop) : Prop := match a with
  | .str y => (match b with
    | .str z => (match decide (x = "str.find") with
      | true => K (.int (Txt.find y z)) sh
      | false => False)
    | _ => False)
  | .ref k => (match decide (x = "list.append") with
    | true => appK (sh.tr.lookup k) b sh k K
    | false => False)
  | _ => False
noncomputable def getS (a : D) (k : Str) (d : D) (sh : Sh) (K : D → Sh → Prop) : Prop := withO (sdT sh.tr a) fun kv => orc false (some ((look kv.1 kv.2 k).getD d)) sh K
noncomputable def getP (a : D) (ks : List D) (d : D) (sh : Sh) (K : D → Sh → Prop) : Prop := withO (pdT sh.tr a) fun kv => withO (strsOf ks) fun k => orc false (some ((lookP kv.1 kv.2 k).getD d)) sh K
noncomputable def bi3 (x : String) (a b d : D) (sh : Sh) (K : D → Sh → Prop) : Prop := match decide (x = "dict.get") with
  | true => (match b with
    | .str k => getS a k d sh K
    | .tup ks => getP a ks d sh K
    | _ => False)
  | false => False
noncomputable def tupT (a : D) (sh : Sh) (K : D → Sh → Prop) : Prop := withO (lstT sh.tr a) fun xs => need (xs.length < 1000000) sh (K (.tup xs) sh)
noncomputable def dictT (a : D) (sh : Sh) (K : D → Sh → Prop) : Prop := withO (sdT sh.tr a) fun kv => need (kv.1.length ≤ 1000000) sh (K (.sd kv.1 kv.2) sh)
noncomputable def ty1 (x : String) (a : D) (sh : Sh) (K : D → Sh → Prop) : Prop := match decide (x = "tuple") with
  | true => tupT a sh K
  | false => match decide (x = "dict") with
    | true => dictT a sh K
    | false => match a with
      | .int i => (match decide (x = "str") with
        | true => need (i.natAbs < 2 ^ 64) sh (K (.str (Str.ofString (toString i))) sh)
        | false => match decide (x = "range") with
          | true => K (.rng i) sh
          | false => False)
      | _ => False
noncomputable def biB (x : String) (args : List D) (sh : Sh) (K : D → Sh → Prop) : Prop := match args with
  | [] => False
  | a :: r => match r with
    | [] => bi1 x a sh K
    | b :: r => match r with
      | [] => bi2 x a b sh K
      | d :: r => match r with
        | [] => bi3 x a b d sh K
        | _ :: _ => False
noncomputable def tyB (x : String) (args : List D) (sh : Sh) (K : D → Sh → Prop) : Prop := match args with
  | [] => False
  | a :: r => match r with
    | [] => ty1 x a sh K
    | _ :: _ => False
noncomputable def callB (f : D) (args : List D) (sh : Sh) (K : D → Sh → Prop) : Prop := match f with
  | .bi x => biB x args sh K
  | .ty x => tyB x args sh K
  | _ => False
variable {G : Glo} {A : Around} {E : Value → Shared → Prop} {W : Wd} {sh : Sh} {s : Shared} {K : D → Sh → Prop} {Q : Value → Shared → Prop}
theorem tl {n : Nat} (h : n ≤ 16777216) : Builtin.Str.tooLong n = false := by
  unfold Builtin.Str.tooLong
  rw [sizeLine_eq]
  simpa using h
theorem VL.size {h : Heap} {ds : List D} {vs : Array Value} (x : VL G W h ds vs.toList) : ds.length = vs.size := by
  exact x.length.trans Array.length_toList
theorem VL.one {h : Heap} {d : D} {vs : List Value} (x : VL G W h [d] vs) : ∃ v, vs = [v] ∧ V G W h d v := by
  cases vs with
  | nil => exact False.elim x
  | cons v vs =>
    cases vs with
    | nil => exact ⟨v, rfl, x.1⟩
    | cons w vs => exact False.elim x.2
theorem VL.two {h : Heap} {d e : D} {vs : List Value} (x : VL G W h [d, e] vs) : ∃ v w, vs = [v, w] ∧ V G W h d v ∧ V G W h e w := by
  cases vs with
  | nil => exact False.elim x
  | cons v vs =>
    obtain ⟨w, rfl, y⟩ := VL.one x.2
    exact ⟨v, w, rfl, x.1, y⟩
theorem VL.three {h : Heap} {d e f : D} {vs : List Value} (x : VL G W h [d, e, f] vs) : ∃ v w u, vs = [v, w, u] ∧ V G W h d v ∧ V G W h e w ∧ V G W h f u := by
  cases vs with
  | nil => exact False.elim x
  | cons v vs =>
    obtain ⟨w, u, rfl, y, z⟩ := VL.two x.2
    exact ⟨v, w, u, rfl, x.1, y, z⟩
theorem vl_strs {h : Heap} (xs : List Str) : ∀ t : Nat, VL G W h (xs.map .str) (PySem.strsFrom t xs) := by
  induction xs with
  | nil => exact fun _ => trivial
  | cons x xs ih => exact fun t => ⟨V.str trivial, ih _⟩
theorem intsAre_len {vs : List Value} {ns : List Int} (h : IntsAre vs ns) : vs.length = ns.length := by
  induction h with
  | nil => rfl
  | cons _ _ _ ih => simp [ih]
theorem abs_exact {a : Int} {t : Tok} {Q : Value → Shared → Prop} (h : ∀ u tk, s.toks ≤ tk → True → Q (.int (if a < 0 then -a else a) u) { s with toks := tk }) :
    wpAny (model G.prog G.w) A (call (.builtin "abs") [.int a t]) Q E s := by
  refine PySem.Calls.call_function_entry kind_abs plain_abs entry_abs (args_abs _) ?_
  unfold Builtin.«abs»
  refine wpAny_bind (m := PySem.oneArg "abs" _) (wpAny_pure ?_)
  refine wpAny_bind (m := callSpecial? (.int a t) (Str.ofString "__abs__")) (wpAny_callSpecial?_slot (name := Str.ofString "__abs__") (typeIs_int s a t) slot_int_abs
    (wpAny_call_entry slot_int_abs (typeIs_int s a t) entry_int_abs ?_ (args_int_abs _)))
  show wpAny _ _ (if a < 0 then _ else _) _ _ s
  by_cases hneg : a < 0
  · have h' := h s.toks (s.toks + 1) (Nat.le_succ _) trivial
    rw [if_pos hneg] at h' ⊢
    exact wpAny_ret_mkInt (wpAny_pure ⟨_, rfl, h'⟩)
  · have h' := h t s.toks (Nat.le_refl _) trivial
    rw [if_neg hneg] at h' ⊢
    exact wpAny_pure ⟨_, rfl, wpAny_pure ⟨_, rfl, h'⟩⟩
theorem Rep.notSM {tr} {h : Heap} (R : Rep G W tr h) : (h.objs.size == sysModules) = false := by
  obtain ⟨o, e⟩ := G.sm
  exact beq_false_of_ne (Nat.ne_of_gt (Heap.lt_size (R.base _ _ e).2))
theorem strSub_whole (x : Str) : Builtin.Str.strSub x 0 x.length = x := by
  obtain ⟨c⟩ := x
  simp [Builtin.Str.strSub, PySem.Str.length]
theorem lenS {n : Nat} (c : n < 1000000) : (n : Int) < 2 ^ 63 := Int.ofNat_lt.mpr (Nat.lt_trans c (by decide))
theorem lenT (k : Nat) : k ≤ k + 1 + 1 := Nat.le_add_right k 2
theorem lenL_ok {a : D} {v : Value} (h : lenL a sh K) (at_ : At G W sh s) (hv : V G W s.heap a v) (q : Aft G W s K Q) : wpAny (model G.prog G.w) A (call (.builtin "len") [v]) Q E s := by
  obtain ⟨xs, e, h⟩ := someE h
  obtain ⟨c, h⟩ := need_out h
  obtain ⟨a, vs, n, rfl, t, r⟩ := lstT_of at_.rep hv e
  refine PySem.Calls.call_len_list ⟨_, t, rfl, _, rfl⟩ (r.size ▸ lenS c) ?_
  rw [← r.size]
  exact q.here at_ h (V.int trivial) (lenT _)
theorem lenB_ok {a : D} {v : Value} (h : lenB a sh K) (at_ : At G W sh s) (hv : V G W s.heap a v) (q : Aft G W s K Q) : wpAny (model G.prog G.w) A (call (.builtin "len") [v]) Q E s := by
  cases a with
  | str x =>
    obtain ⟨c, h⟩ := need_out h
    obtain ⟨t, _, rfl⟩ := hv
    exact PySem.P.len_str (Int.not_le.mpr (lenS c)) (q.here at_ h (V.int trivial) (lenT _))
  | tup xs =>
    obtain ⟨c, h⟩ := need_out h
    obtain ⟨a, vs, n, rfl, o, t, r⟩ := hv.toIsT
    refine PySem.P.len_tuple t (Int.not_le.mpr (r.size ▸ lenS c)) ?_
    rw [← r.size]
    exact q.here at_ h (V.int trivial) (lenT _)
  | scr xs =>
    obtain ⟨c, h⟩ := need_out h
    obtain ⟨a, vs, rfl, o, t, r⟩ := hv
    have l : xs.length = vs.size := (intsAre_len r).symm.trans Array.length_toList
    refine PySem.Calls.call_len_list t (l ▸ lenS c) ?_
    rw [← l]
    exact q.here at_ h (V.int trivial) (lenT _)
  | lst xs => exact lenL_ok h at_ hv q
  | ref k => exact lenL_ok h at_ hv q
  | _ => exact False.elim h
theorem split_ok {x : Str} {t : Tok} (c : x.length ≤ 1000 ∧ (Builtin.Str.spaceWords x (x.length + 1)).length ≤ 1000) (h : K (.lst ((PySem.wordsOf x).map .str)) sh) (at_ : At G W sh s) (q : Aft G W s K Q) :
    wpAny (model G.prog G.w) A (call (.builtin "str.split") [.str x t]) Q E s := by
  refine call_meets PySem.F.slot_str_split (typeIs_str _ _ _) PySem.F.entry_str_split (PySem.F.args_str_split_1 _) (PySem.meets_str_split_space _ t (by rw [sizeLine_eq]; lia) (by rw [sizeLine_eq]; lia)) ?_
  split
  · rename_i e
    have e' : PySem.wordsOf x = [x] := by
      unfold PySem.wordsOf
      rw [eq_of_beq e]
      simp [strSub_whole]
    rw [e'] at h
    exact q.grown at_ h (push_keeps _) (V.lstNew (vs := [.str x t]) at_.rep.fresh ⟨V.str trivial, trivial⟩) (Nat.le_refl _)
  · exact q.grown at_ h (push_keeps _) (V.lstNew at_.rep.fresh (vl_strs _ _)) (Nat.le_add_right _ _)
theorem strB_ok {x : String} {y : Str} {v : Value} (h : strB x y sh K) (at_ : At G W sh s) (hv : V G W s.heap (.str y) v) (q : Aft G W s K Q) : wpAny (model G.prog G.w) A (call (.builtin x) [v]) Q E s := by
  obtain ⟨t, _, rfl⟩ := hv
  cases ifE h with
  | t e h =>
    subst e
    obtain ⟨c, h⟩ := need_out h
    exact PySem.SC.lower (tl (by have := fact_lower y; lia)) (q.here at_ h (V.str trivial) (Nat.le_succ _))
  | f h => cases ifE h with
    | t e h =>
      subst e
      obtain ⟨c, h⟩ := need_out h
      exact PySem.SC.upper (tl (by have := fact_upper y; lia)) (q.here at_ h (V.str trivial) (Nat.le_succ _))
    | f h => cases ifE h with
      | t e h =>
        subst e
        obtain ⟨c, h⟩ := need_out h
        exact split_ok c h at_ q
      | f h => exact False.elim h
theorem bi1_ok {x : String} {a : D} {v : Value} (h : bi1 x a sh K) (at_ : At G W sh s) (hv : V G W s.heap a v) (q : Aft G W s K Q) : wpAny (model G.prog G.w) A (call (.builtin x) [v]) Q E s := by
  cases ifE h with
  | t e h => subst e; exact lenB_ok h at_ hv q
  | f h => cases a with
    | int i => cases ifE h with
      | t e h =>
        subst e
        obtain ⟨t, _, rfl⟩ := hv
        exact abs_exact fun u tk' l e => q.here at_ h (V.int trivial) l
      | f h => exact False.elim h
    | str y => exact strB_ok h at_ hv q
    | _ => exact False.elim h
inductive AppE (o : Option T) (b : D) (sh : Sh) (k : Nat) (K : D → Sh → Prop) : Prop
  | mk (xs : List D) (e : o = some (.lst xs)) (c : xs.length ≤ 100000) (h : K .none { sh with tr := setT sh.tr k (.lst (xs ++ [b])) }) : AppE o b sh k K
theorem app_out {o : Option T} {b : D} {k : Nat} (h : appK o b sh k K) : AppE o b sh k K := by
  cases o with
  | none => exact False.elim h
  | some t => cases t with
    | lst xs => obtain ⟨c, h⟩ := need_out h; exact ⟨xs, rfl, c, h⟩
    | _ => exact False.elim h
theorem app_ok {k : Nat} {b : D} {v w : Value} (h : appK (sh.tr.lookup k) b sh k K) (at_ : At G W sh s) (hv : V G W s.heap (.ref k) v) (hw : V G W s.heap b w) (q : Aft G W s K Q) : wpAny (model G.prog G.w) A (call (.builtin "list.append") [v, w]) Q E s := by
  obtain ⟨xs, e, c, h⟩ := app_out h
  obtain ⟨hk, rfl⟩ := hv
  obtain ⟨q1, q2, vs, n, q3, q4⟩ := at_.rep.trk _ _ e
  refine append_at q3 (fun h' sb ho => ?_) (by rw [sizeLine_eq, ← q4.size]; lia)
  obtain ⟨R', le, kp⟩ := at_.rep.upd (t' := T.lst (xs ++ [b])) e (.inl q2) sb ho fun le =>
    ⟨vs.push w, n + 1, ho, (Array.toList_push (xs := vs) (x := w)).symm ▸ VL.append (VL.mono le q4) (ds' := [b]) (vs' := [w]) ⟨V.mono le hw, trivial⟩⟩
  exact q .none _ W h' .none s.toks h le kp R' at_.n V.vnone (Nat.le_refl _)
theorem bi2_ok {x : String} {a b : D} {v w : Value} (h : bi2 x a b sh K) (at_ : At G W sh s) (hv : V G W s.heap a v) (hw : V G W s.heap b w) (q : Aft G W s K Q) : wpAny (model G.prog G.w) A (call (.builtin x) [v, w]) Q E s := by
  cases a with
  | str y => cases b with
    | str z => cases ifE h with
      | t e h =>
        subst e
        obtain ⟨t, _, rfl⟩ := hv; obtain ⟨u, _, rfl⟩ := hw
        exact PySem.SC.find (q.here at_ h (V.int trivial) (Nat.le_succ _))
      | f h => exact False.elim h
    | _ => exact False.elim h
  | ref k => cases ifE h with
    | t e h => subst e; exact app_ok h at_ hv hw q
    | f h => exact False.elim h
  | _ => exact False.elim h
theorem getS_ok {a d : D} {y : Str} {v w u : Value} (h : getS a y d sh K) (at_ : At G W sh s) (hv : V G W s.heap a v) (hw : V G W s.heap (.str y) w) (hu' : V G W s.heap d u) (q : Aft G W s K Q) : wpAny (model G.prog G.w) A (call (.builtin "dict.get") [v, w, u]) Q E s := by
  obtain ⟨kv, e, h⟩ := someE h
  obtain ⟨d', e', k⟩ := orc_out h
  cases e'
  obtain ⟨a1, k1, rfl, sm1, d1, m1, l1⟩ := sdT_of at_.rep hv e
  obtain ⟨t, _, rfl⟩ := hw
  refine call_meetsIn PySem.F.slot_dict_get d1.typeIs PySem.F.entry_dict_get (PySem.F.args_dict_get_3 _ _ _) (PySem.meets_dict_get_default _ _ (strKind_is _ _ _ _) sm1 _) ⟨_, d1.mapOf, ?_⟩
  have l := look_valueAt y k1 m1 l1
  generalize valueAt k1 y = o at l ⊢
  generalize look kv.1 kv.2 y = o' at k l
  cases l with
  | n => exact q.here at_ k hu' (Nat.le_succ s.toks)
  | s d2 v2 z => exact q.here at_ k z (Nat.le_succ s.toks)
theorem getP_ok {a d : D} {ks : List D} {v w u : Value} (h : getP a ks d sh K) (at_ : At G W sh s) (hv : V G W s.heap a v) (hw : V G W s.heap (.tup ks) w) (hu' : V G W s.heap d u) (hu : A.units + 70 < cLine) (q : Aft G W s K Q) : wpAny (model G.prog G.w) A (call (.builtin "dict.get") [v, w, u]) Q E s := by
  obtain ⟨kv, e1, h⟩ := someE h
  obtain ⟨kk, e2, h⟩ := someE h
  obtain ⟨d', e', k⟩ := orc_out h
  cases e'
  obtain ⟨a1, xs, rfl, sm1, d1, ow, m1, l1⟩ := pdT_of at_.rep hv e1
  obtain ⟨b, rfl, ob, ik⟩ := isKey_of hw e2
  refine call_meetsIn PySem.F.slot_dict_get d1.typeIs PySem.F.entry_dict_get (PySem.F.args_dict_get_3 _ _ _) (PySem.meetsH_dict_get_default _ _ _ sm1 _) ⟨tupleKind_room_in1 (by lia), _, _, ik, d1, ?_⟩
  have l := lookP_at kk xs m1 l1
  generalize atKey xs kk = o at l ⊢
  generalize lookP kv.1 kv.2 kk = o' at k l
  cases l with
  | n => exact q.here at_ k hu' (Nat.le_add_right s.toks ((tK G).draws kk))
  | s d2 v2 z => exact q.here at_ k z (Nat.le_add_right s.toks ((tK G).draws kk))
theorem bi3_ok {x : String} {a b d : D} {v w u : Value} (h : bi3 x a b d sh K) (at_ : At G W sh s) (hv : V G W s.heap a v) (hw : V G W s.heap b w) (hu' : V G W s.heap d u) (hu : A.units + 70 < cLine) (q : Aft G W s K Q) : wpAny (model G.prog G.w) A (call (.builtin x) [v, w, u]) Q E s := by
  cases ifE h with
  | t e h =>
    subst e
    cases b with
    | str y => exact getS_ok h at_ hv hw hu' q
    | tup ks => exact getP_ok h at_ hv hw hu' hu q
    | _ => exact False.elim h
  | f h => exact False.elim h
theorem tupT_ok {a : D} {v : Value} (h : tupT a sh K) (at_ : At G W sh s) (hv : V G W s.heap a v) (q : Aft G W s K Q) : wpAny (model G.prog G.w) A (call (.type "tuple") [v]) Q E s := by
  obtain ⟨xs, e, h⟩ := someE h
  obtain ⟨c, h⟩ := need_out h
  obtain ⟨a, vs, n, rfl, t, r⟩ := lstT_of at_.rep hv e
  refine call_tuple_list ⟨_, t, rfl, _, rfl⟩ (fun h' kk => ?_) (by rw [sizeLine_eq, ← r.size]; lia)
  exact q.grown at_ h (fun a o eo => push_keeps _ _ _ (kk _ _ eo)) (V.tupNew (vs := vs.toList) (at_.rep.grow kk).fresh (VL.mono (Le.grow kk) r)) (Nat.le_refl _)
theorem dictT_ok {a : D} {v : Value} (h : dictT a sh K) (at_ : At G W sh s) (hv : V G W s.heap a v) (q : Aft G W s K Q) : wpAny (model G.prog G.w) A (call (.type "dict") [v]) Q E s := by
  obtain ⟨kv, e, h⟩ := someE h
  obtain ⟨c, h⟩ := need_out h
  obtain ⟨a1, k1, rfl, sm1, d1, m1, l1⟩ := sdT_of at_.rep hv e
  have l : k1.length = kv.1.length := by rw [← m1, List.length_map]
  refine kt_call_dict sm1 d1 (by rw [sizeLine_eq]; lia) fun h' dn sb => ?_
  have kk : ∀ a o, s.heap.get? a = some o → h'.get? a = some o := fun a o eo => (sb.2 a (Nat.ne_of_lt (Heap.lt_size eo))).trans (push_keeps _ _ _ eo)
  exact q.grown (tk := s.toks) at_ h kk ⟨_, k1, rfl, at_.rep.fresh, at_.rep.notSM, dn, m1, VL.mono (Le.grow kk) l1⟩ (Nat.le_refl _)
theorem ty1_ok {x : String} {a : D} {v : Value} (h : ty1 x a sh K) (at_ : At G W sh s) (hv : V G W s.heap a v) (q : Aft G W s K Q) : wpAny (model G.prog G.w) A (call (.type x) [v]) Q E s := by
  cases ifE h with
  | t e h => subst e; exact tupT_ok h at_ hv q
  | f h => cases ifE h with
    | t e h => subst e; exact dictT_ok h at_ hv q
    | f h => cases a with
      | int i =>
        obtain ⟨t, _, rfl⟩ := hv
        cases ifE h with
        | t e h =>
          subst e
          obtain ⟨c, h⟩ := need_out h
          exact PySem.P.str_of_int (shown (N := 2 ^ 64) (by lia) (by lia) (by decide)) (q.here at_ h (V.str trivial) (Nat.le_succ _))
        | f h => cases ifE h with
          | t e h =>
            subst e
            exact PySem.call_range_1 (q.grown at_ h (push_keeps _) ⟨_, _, _, _, rfl, at_.rep.fresh, PySem.IsRange.new ..⟩ (by lia))
          | f h => exact False.elim h
      | _ => exact False.elim h
theorem callB_ok {f : D} {args : List D} {fv : Value} {vs : List Value} (h : callB f args sh K) (at_ : At G W sh s) (hf : V G W s.heap f fv) (hvs : VL G W s.heap args vs) (hu : A.units + 70 < cLine) (q : Aft G W s K Q) :
    wpAny (model G.prog G.w) A (call fv vs) Q E s := by
  cases f with
  | bi x =>
    cases hf
    cases args with
    | nil => exact False.elim h
    | cons a r => cases r with
      | nil => obtain ⟨v, rfl, hv⟩ := hvs.one; exact bi1_ok h at_ hv q
      | cons b r => cases r with
        | nil => obtain ⟨v, w, rfl, hv, hw⟩ := hvs.two; exact bi2_ok h at_ hv hw q
        | cons d r => cases r with
          | nil => obtain ⟨v, w, u, rfl, hv, hw, hu'⟩ := hvs.three; exact bi3_ok h at_ hv hw hu' hu q
          | cons _ _ => exact False.elim h
  | ty x =>
    cases hf
    cases args with
    | nil => exact False.elim h
    | cons a r => cases r with
      | nil => obtain ⟨v, rfl, hv⟩ := hvs.one; exact ty1_ok h at_ hv q
      | cons b r => exact False.elim h
  | _ => exact False.elim h
end Mine
namespace Mine
structure Fn where
  params : List Str
  dflt : List D
  body : List Stmt
  sc : List (Str × NameKind)
structure Cf where
  gl : Str → Option D
  fn : Str → Option Fn
  cls : Str → Option (Fn × List Str)
structure Loc where
  sc : List (Str × NameKind)
  lo : List (Str × D)
noncomputable def lk (lo : List (Str × D)) (x : Str) : Option D := match lo with
  | [] => Option.none
  | (y, d) :: r => match decide (y = x) with
    | true => some d
    | false => lk r x
noncomputable def put (lo : List (Str × D)) (x : Str) (d : D) : List (Str × D) := match lo with
  | [] => [(x, d)]
  | (y, e) :: r => match decide (y = x) with
    | true => (x, d) :: r
    | false => (y, e) :: put r x d
theorem lk_put {x : Str} {d : D} {lo : List (Str × D)} {y : Str} : lk (put lo x d) y = if x = y then some d else lk lo y := by
  have one : ∀ (z : Str) (e : D) (r : List (Str × D)), lk ((z, e) :: r) y = if z = y then some e else lk r y := fun z e r => by
    show (match decide (z = y) with | true => some e | false => lk r y) = _
    by_cases h : z = y
    · rw [decide_eq_true h, if_pos h]
    · rw [decide_eq_false h, if_neg h]
  induction lo with
  | nil => exact one x d []
  | cons p r ih =>
    obtain ⟨z, e⟩ := p
    show lk (match decide (z = x) with | true => (x, d) :: r | false => (z, e) :: put r x d) y = _
    rw [one z e r]
    by_cases hz : z = x
    · rw [decide_eq_true hz, hz]
      refine (one x d r).trans ?_
      by_cases h : x = y
      · rw [if_pos h, if_pos h]
      · rw [if_neg h, if_neg h, if_neg h]
    · rw [decide_eq_false hz]
      refine (one z e _).trans ?_
      by_cases h : z = y
      · rw [if_pos h, if_pos h, if_neg fun q => hz (h.trans q.symm)]
      · rw [if_neg h, if_neg h, ih]
inductive Fl where
  | next
  | brk
  | cont
  | ret (d : D)
noncomputable abbrev KE := D → Sh → Prop
noncomputable abbrev KB := Fl → List (Str × D) → Sh → Prop
noncomputable abbrev KX := Str → Str → Sh → Prop
noncomputable def noX : KX := fun _ _ _ => False
structure Ev where
  E : Expr → Loc → Sh → KE → Prop
  T : Expr → Loc → Sh → (Bool → Sh → Prop) → Prop
  B : List Stmt → Loc → Sh → KB → KX → Prop
  C : D → List D → Sh → KE → KX → Prop
noncomputable def Hold (G : Glo) (W : Wd) (h : Heap) (env : Env) (m : Str → Option Value) (x : Str) (d : D) : Prop :=
  (env.scope.names.lookup x = some .local ∧ ∃ v, m x = some v ∧ V G W h d v) ∨
  ((env.scope.names.lookup x = some .cell ∨ env.scope.names.lookup x = some .free) ∧ ∃ c v, env.cells.lookup x = some c ∧ h.IsCell c (some v) ∧ V G W h d v)
structure Is (G : Glo) (W : Wd) (h : Heap) (env : Env) (ρ : Loc) : Prop where
  kind : env.scope.kind = .function
  names : env.scope.names = ρ.sc
  glob : env.globals = mainGlobals
  blt : env.builtins = builtinsNs
  own : W.own env.locals = some .f
  cown : ∀ x c, env.cells.lookup x = some c → W.own c = some .f ∧ ∃ v, h.IsCell c v
  inj : env.cells.Pairwise fun x y => x.2 ≠ y.2
  cex : ∀ x, env.scope.names.lookup x = some .cell → ∃ c, env.cells.lookup x = some c
  ns : ∃ m, h.Ns env.locals m ∧ ∀ x d, lk ρ.lo x = some d → Hold G W h env m x d
theorem isCell_at {h h' : Heap} {c : Addr} {v : Option Value} (x : h.IsCell c v) (k : ∀ o, h.get? c = some o → Sa h' c o) : h'.IsCell c v := let ⟨o, e, r⟩ := x; ⟨o, (k _ e).at (by rw [r]; intro _ _ q; cases q), r⟩
theorem Is.mono {G : Glo} {W W' : Wd} {h h' : Heap} {env : Env} {ρ : Loc} (x : Is G W h env ρ) (l : Le W h W' h') (k : Kp W h h') : Is G W' h' env ρ where
  kind := x.kind
  names := x.names
  glob := x.glob
  blt := x.blt
  own := l.fr _ x.own
  cown := fun y c e => ⟨l.fr _ (x.cown y c e).1, let ⟨v, q⟩ := (x.cown y c e).2; ⟨v, isCell_at q fun o eo => k c o (x.cown y c e).1 eo⟩⟩
  inj := x.inj
  cex := x.cex
  ns := by
    obtain ⟨m, hn, hm⟩ := x.ns
    refine ⟨m, ns_sa hn fun o e => k _ _ x.own e, fun y d e => ?_⟩
    rcases hm y d e with ⟨h1, v, h2, h3⟩ | ⟨h1, c, v, h2, h3, h4⟩
    · exact .inl ⟨h1, v, h2, V.mono l h3⟩
    · exact .inr ⟨h1, c, v, h2, isCell_at h3 fun o eo => k c o (x.cown y c h2).1 eo, V.mono l h4⟩
noncomputable def FrOk (W : Wd) (h : Heap) (l : List Env) : Prop :=
  ∀ e ∈ l, e.scope.kind = .function ∧ ∃ L, e.frame = some L ∧ W.own L = some .f ∧ ∃ o es ep, h.get? L = some o ∧ o.data = .dict es ep
theorem FrOk.mono {W W' : Wd} {h h' : Heap} {l : List Env} (x : FrOk W h l) (le : Le W h W' h') (k : Kp W h h') : FrOk W' h' l := fun e he => by
  obtain ⟨a, L, b, c, o, es, ep, d, f⟩ := x e he
  obtain ⟨o', e', r⟩ := k _ _ c d
  exact ⟨a, L, b, le.fr _ c, o', es, ep, e', r.data.trans f⟩
structure Rm (W : Wd) (h : Heap) (A : Around) (n : Nat) : Prop where
  depth : A.depth + 3 * n + 10 < recursionLimit
  units : A.units + 8 * n + 200 < cLine
  hand : A.handled = none
  fr : ∃ l, A.frames = some l ∧ FrOk W h l
theorem Rm.mono {W W' : Wd} {h h' : Heap} {A : Around} {n : Nat} (x : Rm W h A n) (le : Le W h W' h') (k : Kp W h h') : Rm W' h' A n :=
  ⟨x.depth, x.units, x.hand, let ⟨l, a, b⟩ := x.fr; ⟨l, a, b.mono le k⟩⟩
theorem Rm.less {W : Wd} {h : Heap} {A : Around} {n m : Nat} (x : Rm W h A n) (le : m ≤ n) : Rm W h A m :=
  ⟨Nat.lt_of_le_of_lt (Nat.add_le_add_right (Nat.add_le_add_left (Nat.mul_le_mul_left 3 le) _) 10) x.depth, Nat.lt_of_le_of_lt (Nat.add_le_add_right (Nat.add_le_add_left (Nat.mul_le_mul_left 8 le) _) 200) x.units, x.hand, x.fr⟩
theorem Rm.u70 {W : Wd} {h : Heap} {A : Around} {n : Nat} (x : Rm W h A n) : A.units + 70 < cLine := Nat.lt_of_le_of_lt (Nat.le_trans (Nat.add_le_add (Nat.le_add_right _ _) (by decide)) (Nat.le_refl (A.units + 8 * n + 200))) x.units
structure S0 (G : Glo) (W : Wd) (sh : Sh) (A : Around) (n : Nat) (s : Shared) : Prop where
  rm : Rm W s.heap A n
  at_ : At G W sh s
structure S1 (G : Glo) (W : Wd) (sh : Sh) (A : Around) (n : Nat) (env : Env) (ρ : Loc) (s : Shared) : Prop where
  rm : Rm W s.heap A n
  at_ : At G W sh s
  is : Is G W s.heap env ρ
theorem S1.s0 {G W sh A n env ρ s} (x : S1 G W sh A n env ρ s) : S0 G W sh A n s := ⟨x.rm, x.at_⟩
noncomputable def Af {α β : Type} (G : Glo) (R : Wd → Heap → α → β → Prop) (W : Wd) (s : Shared) (K : α → Sh → Prop) (Q : β → Shared → Prop) : Prop :=
  ∀ d sh' W' h' v tk, K d sh' → Le W s.heap W' h' → Kp W s.heap h' → Rep G W' sh'.tr h' → W'.n = sh'.n → R W' h' d v → s.toks ≤ tk → Q v { s with heap := h', toks := tk }
noncomputable abbrev RB : Wd → Heap → Bool → Bool → Prop := fun _ _ b c => b = c
theorem Af.step {α β : Type} {G : Glo} {R : Wd → Heap → α → β → Prop} {W W' : Wd} {s : Shared} {K : α → Sh → Prop} {Q : β → Shared → Prop} {h' : Heap} {tk : Nat} (q : Af G R W s K Q)
    (l : Le W s.heap W' h') (k : Kp W s.heap h') (t : s.toks ≤ tk) : Af G R W' { s with heap := h', toks := tk } K Q :=
  fun d sh'' W'' h'' v tk' kd l' k' r n hv t' => q d sh'' W'' h'' v tk' kd (l.trans l') (k.trans l k') r n hv (Nat.le_trans t t')
theorem At.step {G : Glo} {W W' : Wd} {sh sh' : Sh} {s : Shared} {h' : Heap} {tk : Nat} (x : At G W sh s) (r : Rep G W' sh'.tr h') (n : W'.n = sh'.n) (t : s.toks ≤ tk) : At G W' sh' { s with heap := h', toks := tk } :=
  ⟨r, n, fun e => x.tk (Nat.le_zero.mp (Nat.le_trans t (Nat.le_of_eq e)))⟩
theorem S1.step {G : Glo} {W W' : Wd} {sh sh' : Sh} {A n env ρ} {s : Shared} {h' : Heap} {tk : Nat} (x : S1 G W sh A n env ρ s) (l : Le W s.heap W' h') (k : Kp W s.heap h') (r : Rep G W' sh'.tr h') (nn : W'.n = sh'.n) (t : s.toks ≤ tk) :
    S1 G W' sh' A n env ρ { s with heap := h', toks := tk } := ⟨x.rm.mono l k, x.at_.step r nn t, x.is.mono l k⟩
theorem S0.step {G : Glo} {W W' : Wd} {sh sh' : Sh} {A n} {s : Shared} {h' : Heap} {tk : Nat} (x : S0 G W sh A n s) (l : Le W s.heap W' h') (k : Kp W s.heap h') (r : Rep G W' sh'.tr h') (nn : W'.n = sh'.n) (t : s.toks ≤ tk) :
    S0 G W' sh' A n { s with heap := h', toks := tk } := ⟨x.rm.mono l k, x.at_.step r nn t⟩
theorem Af.here {α β : Type} {G : Glo} {R : Wd → Heap → α → β → Prop} {W : Wd} {sh : Sh} {s : Shared} {K : α → Sh → Prop} {Q : β → Shared → Prop} (q : Af G R W s K Q) (x : At G W sh s) {d : α} (k : K d sh) {v : β} {tk : Nat}
    (hv : R W s.heap d v) (ht : s.toks ≤ tk) : Q v { s with toks := tk } := q d sh W s.heap v tk k Le.refl Kp.refl x.rep x.n hv ht
theorem Af.now {α β : Type} {G : Glo} {R : Wd → Heap → α → β → Prop} {W : Wd} {sh : Sh} {s : Shared} {K : α → Sh → Prop} {Q : β → Shared → Prop} (q : Af G R W s K Q) (x : At G W sh s) {d : α} (k : K d sh) {v : β}
    (hv : R W s.heap d v) : Q v s := q.here (tk := s.toks) x k hv (Nat.le_refl _)
inductive EFE (W : Wd) (k : Nat) (fl : Value) (h : Heap) (e c d t : Addr) : Prop
  | mk (oe : _) (vs : _) (e0 : h.get? e = some oe) (e1 : oe.cls = .ref c) (e2 : oe.dict = some d) (e3 : oe.data = .fields vs) (e4 : vs.size = 6) (e5 : vs[0]? = some (.ref t)) (e6 : (vs[1]? = some .none ∨ ∃ T oT ts, vs[1]? = some (.ref T) ∧ T ≠ e ∧ W.own T = some (.t k) ∧ h.get? T = some oT ∧ oT.data = .fields ts ∧ 3 < ts.size ∧ ts[3]? = some fl)) : EFE W k fl h e c d t
structure EF (W : Wd) (k : Nat) (fl : Value) (h : Heap) (e c d t : Addr) : Prop where
  ex : EFE W k fl h e c d t
inductive Made (G : Glo) (W : Wd) (h : Heap) (e : Addr) (code why : Str) : Prop
  | mk (c : _) (t : _) (d : _) (k : _) (m : _) (e0 : G.mg (Str.ofString "Refused") = some (.ref c)) (e1 : W.n ≤ k) (e2 : W.own e = some (.t k)) (e3 : EF W k .none h e c d t) (e4 : W.own d = none) (e5 : h.Ns d m) (e6 : (∃ u, m (Str.ofString "code") = some (.str code u))) (e7 : ∃ u, m (Str.ofString "why") = some (.str why u)) : Made G W h e code why
noncomputable def KpB (env : Env) (W : Wd) (h h' : Heap) : Prop := ∀ a o, W.own a = some .f → a ≠ env.locals → (∀ x c, env.cells.lookup x = some c → a ≠ c) → h.get? a = some o → Sa h' a o
theorem Kp.b {env : Env} {W : Wd} {h h' : Heap} (k : Kp W h h') : KpB env W h h' := fun a o p _ _ q => k a o p q
theorem KpB.trans {env : Env} {W W' : Wd} {h h' h'' : Heap} (l : Le W h W' h') (x : KpB env W h h') (y : KpB env W' h' h'') : KpB env W h h'' := fun a o p q r z => (x a o p q r z).trans fun o' e => y a o' (l.fr a p) q r e
noncomputable def FlOk (G : Glo) (W : Wd) (h : Heap) : Fl → Flow → Prop
  | .next, f => f = .next
  | .brk, f => f = .brk
  | .cont, f => f = .cont
  | .ret d, f => ∃ v, f = .ret v ∧ V G W h d v
noncomputable def AfB (G : Glo) (W : Wd) (env : Env) (sc : List (Str × NameKind)) (s : Shared) (K : KB) (Q : Flow → Shared → Prop) : Prop :=
  ∀ fl lo sh' W' h' f tk, K fl lo sh' → Le W s.heap W' h' → KpB env W s.heap h' → Rep G W' sh'.tr h' → W'.n = sh'.n → Is G W' h' env ⟨sc, lo⟩ → FlOk G W' h' fl f → s.toks ≤ tk → Q f { s with heap := h', toks := tk }
noncomputable def AfX (G : Glo) (P : Wd → Heap → Addr → Str → Str → Prop) (W : Wd) (s : Shared) (X : KX) (E : Value → Shared → Prop) : Prop :=
  ∀ code why sh' W' h' e tk, X code why sh' → Le W s.heap W' h' → Rep G W' sh'.tr h' → W'.n = sh'.n → P W' h' e code why → s.toks ≤ tk → E (.ref e) { s with heap := h', toks := tk }
noncomputable def TopA (A : Around) (env : Env) : Prop := (∃ outer, A.frames = some (env :: outer)) ∧ env.frame = some env.locals
noncomputable def Room (A : Around) (n : Nat) : Prop := A.depth + 3 * n + 10 < recursionLimit ∧ A.units + 8 * n + 200 < cLine
noncomputable def TopN (A : Around) (env : Env) (n : Nat) : Prop := TopA A env ∧ Room A (n + 1)
noncomputable def SE (G : Glo) (r : Ev) (n : Nat) : Prop := ∀ (e : Expr) (ρ : Loc) (sh : Sh) (K : KE) (A : Around) (env : Env) (W : Wd) (s : Shared) (Q : Value → Shared → Prop) (E : Value → Shared → Prop),
  r.E e ρ sh K → S1 G W sh A n env ρ s → Af G (V G) W s K Q → wpAny (model G.prog G.w) A (eval e env) Q E s
noncomputable def ST (G : Glo) (r : Ev) (n : Nat) : Prop := ∀ (e : Expr) (ρ : Loc) (sh : Sh) (K : Bool → Sh → Prop) (A : Around) (env : Env) (W : Wd) (s : Shared) (Q : Bool → Shared → Prop) (E : Value → Shared → Prop),
  r.T e ρ sh K → S1 G W sh A n env ρ s → Af G RB W s K Q → wpAny (model G.prog G.w) A (isTrue e env (eval e env)) Q E s
noncomputable def SC (G : Glo) (r : Ev) (n : Nat) : Prop := ∀ (f : D) (args : List D) (sh : Sh) (K : KE) (X : KX) (A : Around) (W : Wd) (s : Shared) (fv : Value) (vs : List Value) (Q : Value → Shared → Prop) (E : Value → Shared → Prop),
  r.C f args sh K X → S0 G W sh A n s → V G W s.heap f fv → VL G W s.heap args vs → Af G (V G) W s K Q → AfX G (fun W' h' e c y => Kp W s.heap h' ∧ Made G W' h' e c y) W s X E → wpAny (model G.prog G.w) A (call fv vs) Q E s
noncomputable def SB (G : Glo) (r : Ev) (n : Nat) : Prop := ∀ (b : List Stmt) (ρ : Loc) (sh : Sh) (K : KB) (X : KX) (A : Around) (env : Env) (W : Wd) (s : Shared) (Q : Flow → Shared → Prop) (E : Value → Shared → Prop),
  r.B b ρ sh K X ∧ TopA A env → S1 G W sh A n env ρ s → AfB G W env ρ.sc s K Q → AfX G (fun W' h' e c y => KpB env W s.heap h' ∧ (∃ m, h'.Ns env.locals m) ∧ Made G W' h' e c y) W s X E → wpAny (model G.prog G.w) A (execs b env) Q E s
theorem noX_ok {G P W s E} : AfX G P W s noX E := fun _ _ _ _ _ _ _ x => x.elim
structure Sound (G : Glo) (r : Ev) (n : Nat) : Prop where
  E : SE G r n
  T : ST G r n
  B : SB G r n
  C : SC G r n
noncomputable def VB : D → Value → Prop
  | .bi i, v => v = .builtin i
  | .ty n, v => v = .type n
  | _, _ => False
inductive FnOkE (G : Glo) (v : Value) (fn : Fn) : Prop
  | mk (f : _) (fo : _) (fd : _) (e0 : v = .ref f) (e1 : G.h₀.get? f = some fo) (e2 : fo.cls = .type "function") (e3 : fo.data = .func fd) (e4 : fd.body = .stmts fn.body) (e5 : fd.scope.names = fn.sc) (e6 : fd.scope.kind = .function) (e7 : fd.scope.isGenerator = false) (e8 : fd.scope.isCoroutine = false) (e9 : fd.globals = mainGlobals) (e10 : fd.closure = []) (e11 : fd.builtins = builtinsNs) (e12 : G.h₀.CodeRec fd.code fd.qualname) (e13 : ∃ dvs, (∀ W h, VL G W h fn.dflt dvs) ∧ ∀ (s : Shared) (vals : List Value) (k : Nat), (∀ a o, G.h₀.get? a = some o → s.heap.get? a = some o) → k ≤ fn.dflt.length → vals.length + k = fn.params.length → BindsTo s fd ⟨vals, []⟩ (fn.params.zip (vals ++ dvs.drop (fn.dflt.length - k)))) : FnOkE G v fn
structure FnOk (G : Glo) (v : Value) (fn : Fn) : Prop where
  ex : FnOkE G v fn
  nodup : fn.params.Nodup
  kinds : ∀ x ∈ fn.params, fn.sc.lookup x = some .local ∨ fn.sc.lookup x = some .cell
structure GOk (cf : Cf) (G : Glo) : Prop where
  g : G.h₀.Ns mainGlobals G.mg
  b : ∃ mb, G.h₀.Ns builtinsNs mb ∧ ∀ x d, cf.gl x = some d → (d = .glob x ∧ ∃ v, G.mg x = some v) ∨ (G.mg x = none ∧ ∃ v, mb x = some v ∧ VB d v)
  nolimit : G.h₀.NoLimit
  fn : ∀ x fn, cf.fn x = some fn → ∃ v, G.mg x = some v ∧ FnOk G v fn
  cls : ∀ x fn as, cf.cls x = some (fn, as) → ∃ c N mN fI, G.mg x = some (.ref c) ∧ ClsAt G.h₀ c N mN ∧ mN (Str.ofString "__init__") = some (.ref fI) ∧ FnOk G (.ref fI) fn ∧
    mN (Str.ofString "__getattribute__") = none ∧ mN (Str.ofString "__setattr__") = none ∧ ∀ a ∈ as, mN a = none ∧ typeLookup (.type "object") a = pure none
theorem VB.v {G W h d v} (x : VB d v) : V G W h d v := by
  cases d <;> first | exact x.elim | (exact x)
noncomputable def dbg (x : Str) : Bool := x == ("__debug__" : Str) || x == ("__classdict__" : Str)
noncomputable def isGlob (o : Option NameKind) : Bool := match o with
  | some .globalImplicit => true
  | _ => false
theorem isGlob_out {o : Option NameKind} (h : isGlob o = true) : o = some .globalImplicit := by
  cases o with
  | none => exact Bool.noConfusion h
  | some k => cases k <;> first | rfl | exact Bool.noConfusion h
noncomputable def nameE (cf : Cf) (x : Str) (ρ : Loc) (sh : Sh) (K : KE) : Prop :=
  match dbg x with
  | true => False
  | false => orO (lk ρ.lo x) (fun d => K d sh) (match isGlob (ρ.sc.lookup x) with
    | true => withO (cf.gl x) fun d => K d sh
    | false => False)
theorem dbg_out {x : Str} (h : dbg x = false) : (x == ("__debug__" : Str)) = false ∧ (x == ("__classdict__" : Str)) = false := by
  exact Bool.or_eq_false_iff.mp h
section
variable {cf : Cf} {G : Glo} {A : Around} {n : Nat} {E : Value → Shared → Prop} {W : Wd} {sh : Sh} {s : Shared} {env : Env} {ρ : Loc} {K : KE} {Q : Value → Shared → Prop}
theorem loadName_ok {x : Str} {d : D} (hl : lk ρ.lo x = some d) (hd : dbg x = false) (is : Is G W s.heap env ρ) (q : ∀ v, V G W s.heap d v → Q v s) : wpAny (model G.prog G.w) A (loadName env x) Q E s := by
  obtain ⟨d1, d2⟩ := dbg_out hd
  obtain ⟨m, hn, hm⟩ := is.ns
  rcases hm x _ hl with ⟨h1, v, h2, h3⟩ | ⟨h1, c, v, h2, h3, h4⟩
  · exact wpAny_loadName_local is.kind h1 hn h2 (q v h3)
  · rcases h1 with h1 | h1
    · exact wpAny_loadName_cell is.kind h1 h2 h3 (q v h4)
    · exact wpAny_loadName_free is.kind h1 h2 h3 (q v h4) d2
theorem glob_ok {x : Str} {d : D} (ok : GOk cf G) (d1 : (x == ("__debug__" : Str)) = false) (hk : ρ.sc.lookup x = some .globalImplicit) (hg : cf.gl x = some d) (h : K d sh) (st : S1 G W sh A n env ρ s) (q : Af G (V G) W s K Q) {pos : Pos} : wpAny (model G.prog G.w) A (eval (.Name x pos) env) Q E s := by
  refine Calls.Name_function_global st.is.kind (by show env.scope.names.lookup x = _; rw [st.is.names]; exact hk) ?_ d1
  have hG : s.heap.Ns env.globals G.mg := by rw [st.is.glob]; exact ok.g.keeps fun b o e => (st.at_.rep.base b o e).2
  obtain ⟨mb, hb, hall⟩ := ok.b
  have hB : s.heap.Ns env.builtins mb := by rw [st.is.blt]; exact hb.keeps fun b o e => (st.at_.rep.base b o e).2
  rcases hall x d hg with ⟨rfl, v, hv⟩ | ⟨hm, v, hv, hvb⟩
  · exact Calls.loadGlobal_global hG hv (q.now st.at_ h hv)
  · exact Calls.loadGlobal_builtin hG hm hB hv (q.now st.at_ h hvb.v)
theorem name_ok {x : Str} {pos : Pos} (ok : GOk cf G) (h : nameE cf x ρ sh K) (st : S1 G W sh A n env ρ s) (q : Af G (V G) W s K Q) : wpAny (model G.prog G.w) A (eval (.Name x pos) env) Q E s := by
  obtain ⟨hd, h⟩ := falseE h
  cases lkE h with
  | s d hl h => exact wpAny_Name (loadName_ok hl hd st.is fun v hv => q.now st.at_ h hv) (dbg_out hd).1
  | n _ h =>
    obtain ⟨hk, h⟩ := trueE h
    obtain ⟨d, hg, h⟩ := someE h
    exact glob_ok ok (dbg_out hd).1 (isGlob_out hk) hg h st q
end
end Mine
namespace Mine
noncomputable def constE (c : Const) (sh : Sh) (K : KE) : Prop := match c with
  | .none => K .none sh
  | .bool b => K (.bool b) sh
  | .int i => K (.int i) sh
  | .str x => K (.str x) sh
  | _ => False
noncomputable def isStar : Expr → Bool
  | .Starred _ _ => true
  | _ => false
noncomputable def noStar : List Expr → Bool
  | [] => true
  | e :: r => !isStar e && noStar r
noncomputable def evL (r : Ev) : List Expr → Loc → Sh → (List D → Sh → Prop) → Prop
  | [], _, sh, K => K [] sh
  | e :: es, ρ, sh, K => r.E e ρ sh fun d sh => evL r es ρ sh fun ds sh => K (d :: ds) sh
section
variable {cf : Cf} {G : Glo} {r : Ev} {A : Around} {n : Nat} {E : Value → Shared → Prop} {W : Wd} {sh : Sh} {s : Shared} {env : Env} {ρ : Loc} {K : KE} {Q : Value → Shared → Prop}
theorem starEach_cons {e : Expr} {es : List Expr} (h : noStar (e :: es) = true) : starEach (e :: es) env = (false, eval e env) :: starEach es env ∧ noStar es = true := by
  obtain ⟨h1, h2⟩ := Bool.and_eq_true_iff.mp h
  refine ⟨?_, h2⟩
  cases e <;> first | rfl | exact Bool.noConfusion h1
theorem backTo_cons {pos : Pos} {t : Sem Value} {l : List (Bool × Sem Value)} : backTo pos ((false, t) :: l) = (false, t) :: backTo pos l := rfl
theorem plain_of {pos : Pos} {es : List Expr} : noStar es = true → (backTo pos (starEach es env)).any (·.1) = false := by
  induction es with
  | nil => exact fun _ => rfl
  | cons e es ih =>
    intro h
    obtain ⟨a, b⟩ := starEach_cons (env := env) h
    rw [a]
    exact ih b
theorem const_ok {c : Const} {k : Nat} {pos : Pos} (h : constE c sh K) (at_ : At G W sh s) (q : Af G (V G) W s K Q) : wpAny (model G.prog G.w) A (eval (.Constant c k pos) env) Q E s := by
  cases c with
  | none => exact Constant_none (q.now at_ h V.vnone)
  | bool b => exact Constant_bool (q.now at_ h V.bool)
  | int i => exact wpAny_Constant_int (q.here at_ h (V.int trivial) (Nat.le_succ _))
  | str x => exact Calls.Constant_str (q.here at_ h (V.str trivial) (Nat.le_succ _))
  | _ => exact False.elim h
theorem evL_ok (S : SE G r n) {pos : Pos} {es : List Expr} : ∀ {sh : Sh} {W : Wd} {s : Shared} {K : List D → Sh → Prop} {Q : List Value → Shared → Prop},
    evL r es ρ sh K → noStar es = true → S1 G W sh A n env ρ s → Af G (VL G) W s K Q → wpAny (model G.prog G.w) A (spliced (backTo pos (starEach es env))) Q E s := by
  induction es with
  | nil => intro sh W s K Q h _ st q; exact Calls.spliced_nil (q.now st.at_ h (by trivial))
  | cons e es ih =>
    intro sh W s K Q h ns st q
    obtain ⟨a, b⟩ := starEach_cons (env := env) ns
    rw [a]
    exact Calls.spliced_cons (S e ρ sh _ A env W s _ E h st fun d sh' W' h' v tk k l kp rp nn hv ht =>
      ih k b (st.step l kp rp nn ht) fun ds sh'' W'' h'' vs tk' k' l' kp' rp' nn' hvs ht' =>
      q (d :: ds) sh'' W'' h'' (v :: vs) tk' k' (l.trans l') (kp.trans l kp') rp' nn' ⟨V.mono l' hv, hvs⟩ (Nat.le_trans ht ht'))
theorem evalArgs_ok (S : SE G r n) {pos : Pos} {es : List Expr} {fv : Value} {K : List D → Sh → Prop} {Q : List Value → Shared → Prop} (h : evL r es ρ sh K) (ns : noStar es = true) (st : S1 G W sh A n env ρ s) (q : Af G (VL G) W s K Q) :
    wpAny (model G.prog G.w) A (evalArgs fv true (backTo pos (starEach es env)) []) (fun a s₁ => ∃ vs, a = ⟨vs, []⟩ ∧ Q vs s₁) E s := by
  cases es with
  | nil => exact PySem.evalArgs_none ⟨[], rfl, q.now st.at_ h (by trivial)⟩
  | cons e es =>
    have := evL_ok (E := E) (pos := pos) S h ns st q
    obtain ⟨a, b⟩ := starEach_cons (env := env) ns
    rw [a, backTo_cons] at this ⊢
    exact Calls.evalArgs_plain (wpAny_mono this (fun vs s₁ hq => ⟨vs, rfl, hq⟩) fun _ _ x => x)
noncomputable def Callee (G : Glo) (f : D) : Prop := match f with
  | .bi _ => True
  | .ty _ => True
  | .glob x => (∃ v fn, G.mg x = some v ∧ FnOk G v fn) ∨ (∃ c N mN, G.mg x = some (.ref c) ∧ ClsAt G.h₀ c N mN)
  | _ => False
theorem callWith_ok (S : SE G r n) {f : D} {fv : Value} {pos : Pos} {es : List Expr} {first : List Value} {K : List D → Sh → Prop} {Q' : List Value → Shared → Prop} (cl : Callee G f) (hf : V G W s.heap f fv) (hfirst : first = [] ∨ ∃ i, f = .bi i)
    (h : evL r es ρ sh K) (ns : noStar es = true) (st : S1 G W sh A n env ρ s) (hc : (∃ x, f = .glob x ∧ ¬ ∃ v fn, G.mg x = some v ∧ FnOk G v fn) → es ≠ [])
    (q : Af G (VL G) W s K Q') (hQ : ∀ vs s₁, (∀ a o, G.h₀.get? a = some o → s₁.heap.get? a = some o) → Q' vs s₁ → wpAny (model G.prog G.w) A (call fv (first ++ vs)) Q E s₁) :
    wpAny (model G.prog G.w) A (callWith pos fv first (backTo pos (starEach es env)) []) Q E s := by
  have q2 : Af G (VL G) W s K (fun vs s₁ => Q' vs s₁ ∧ ∀ a o, G.h₀.get? a = some o → s₁.heap.get? a = some o) := fun d sh' W' h' v tk k l kp rp nn hv ht =>
    ⟨q d sh' W' h' v tk k l kp rp nn hv ht, fun a o e => (rp.base a o e).2⟩
  cases f with
  | bi x =>
    cases hf
    exact Calls.callWith_builtin (plain_of ns) (wpAny_mono (evalArgs_ok S h ns st q2) (fun a s₁ ⟨vs, ea, hq, hk⟩ => ea ▸ hQ vs s₁ hk hq) fun _ _ x => x)
  | ty x =>
    cases hf
    exact PyProof.Rows.callWith_type (plain_of ns) (wpAny_mono (evalArgs_ok S h ns st q2) (fun a s₁ ⟨vs, ea, hq, hk⟩ => ea ▸ hQ vs s₁ hk hq) fun _ _ x => x)
  | glob x =>
    obtain rfl : first = [] := by cases hfirst with
      | inl e => exact e
      | inr e => obtain ⟨i, e⟩ := e; cases e
    by_cases hx : ∃ v fn, G.mg x = some v ∧ FnOk G v fn
    · obtain ⟨v, fn, e1, ok⟩ := hx
      obtain ⟨f, fo, fd, e0, e2, _, e3, _⟩ := ok.ex
      obtain rfl : fv = .ref f := (Option.some.inj (Eq.trans (Eq.symm hf) e1)).trans e0
      exact Calls.callWith_function (wpAny_mono (evalArgs_ok S h ns st q2) (fun a s₁ ⟨vs, ea, hq, hk⟩ => by subst ea; exact ⟨⟨hk _ _ e2, e3⟩, hQ vs s₁ hk hq⟩) fun _ _ x => x)
    · have ne := hc ⟨x, rfl, hx⟩
      cases cl with
      | inl cl => exact absurd cl hx
      | inr cl =>
        obtain ⟨c, N, mN, e1, X⟩ := cl
        obtain rfl : fv = .ref c := Option.some.inj (Eq.trans (Eq.symm hf) e1)
        cases es with
        | nil => exact absurd rfl ne
        | cons e es =>
          obtain ⟨a, b⟩ := starEach_cons (env := env) ns
          exact callWith_cls X (wpAny_mono (evL_ok S h ns st q2) (fun vs s₁ ⟨hq, hk⟩ => ⟨hk, hQ vs s₁ hk hq⟩) fun _ _ x => x) a (plain_of b)
  | _ => exact False.elim cl
end
end Mine
namespace Mine
noncomputable def isSet (e : Expr) : Bool := Nat.beq e.ctorIdx 7
noncomputable def isCallE (e : Expr) : Bool := Nat.beq e.ctorIdx 16
noncomputable def isConstE (e : Expr) : Bool := Nat.beq e.ctorIdx 19
theorem marks_of {op : CmpOp} {e : Expr} (h : isSet e = false) : behindInMarks op e = false := by
  cases e <;> first | rfl | exact Bool.noConfusion h
theorem base_of {o : Expr} {a : Str} {env : Env} {w : Sem Value} (h : isCallE o = false) : attributeBase o a env w = w := by
  cases o <;> first | rfl | exact Bool.noConfusion h
noncomputable def boolK (d : D) (K : Bool → Prop) : Prop := match d with
  | .bool c => K c
  | _ => False
theorem boolK_out {d : D} {K : Bool → Prop} (h : boolK d K) : ∃ c, d = .bool c ∧ K c := by
  cases d with
  | bool c => exact ⟨c, rfl, h⟩
  | _ => exact False.elim h
noncomputable def boolE (r : Ev) (op : BoolOp) : List Expr → Loc → Sh → KE → Prop
  | [], _, _, _ => False
  | e :: es, ρ, sh, K => match es with
    | [] => r.E e ρ sh K
    | _ :: _ => r.E e ρ sh fun d sh => boolK d fun c => match op with
      | .And => (match c with | false => K (.bool false) sh | true => boolE r op es ρ sh K)
      | .Or => (match c with | true => K (.bool true) sh | false => boolE r op es ρ sh K)
noncomputable def allT (r : Ev) (op : BoolOp) : List Expr → Loc → Sh → (Bool → Sh → Prop) → Prop
  | [], _, sh, K => K (match op with | .And => true | .Or => false) sh
  | e :: es, ρ, sh, K => r.T e ρ sh fun c sh => match op, c with
    | .And, false => K false sh
    | .Or, true => K true sh
    | _, _ => allT r op es ρ sh K
noncomputable def strMeth (name : Str) : Option String :=
  match decide (name = Str.ofString "lower") with
  | true => some "str.lower"
  | false => match decide (name = Str.ofString "upper") with
    | true => some "str.upper"
    | false => match decide (name = Str.ofString "find") with
      | true => some "str.find"
      | false => match decide (name = Str.ofString "split") with
        | true => some "str.split"
        | false => match decide (name = Str.ofString "replace") with
          | true => some "str.replace"
          | false => Option.none
noncomputable def methX (o : Option (List D)) (b : Bool) (name : Str) : Option String := match o with
  | some _ => (match decide (name = Str.ofString "append") with | true => some "list.append" | false => Option.none)
  | Option.none => match b && decide (name = Str.ofString "get") with | true => some "dict.get" | false => Option.none
noncomputable def methOf (tr : List (Nat × T)) (d : D) (name : Str) : Option String := match d with
  | .str _ => strMeth name
  | d => methX (lstT tr d) ((sdT tr d).isSome || (pdT tr d).isSome) name
noncomputable def callee (cf : Cf) (f : D) (args : List Expr) : Bool := match f with
  | .bi _ => true
  | .ty _ => true
  | .glob x => match (cf.fn x).isSome with
    | true => true
    | false => (cf.cls x).isSome && !args.isEmpty
  | _ => false
noncomputable def notB : D → Bool
  | .bi _ => false
  | .glob _ => false
  | _ => true
theorem handed_ref {v : Value} {a : Addr} (x : v = .ref a) : handedOut v = pure v := by subst x; rfl
theorem handed_of {G : Glo} {W : Wd} {h : Heap} {d : D} {v : Value} (x : V G W h d v) (e : notB d = true) : handedOut v = pure v := by
  cases d with
  | none => cases x; rfl
  | bool _ => cases x; rfl
  | int _ => obtain ⟨t, _, rfl⟩ := x; rfl
  | str _ => obtain ⟨t, _, rfl⟩ := x; rfl
  | glob _ => exact Bool.noConfusion e
  | bi _ => exact Bool.noConfusion e
  | ty _ => cases x; rfl
  | lst _ => obtain ⟨_, _, _, x, _⟩ := x; exact handed_ref x
  | tup _ => obtain ⟨_, _, _, x, _⟩ := x; exact handed_ref x
  | sd _ _ => obtain ⟨_, _, x, _⟩ := x; exact handed_ref x
  | pd _ _ => obtain ⟨_, _, x, _⟩ := x; exact handed_ref x
  | obj _ _ _ => obtain ⟨_, x, _⟩ := x; exact handed_ref x
  | scr _ => obtain ⟨_, _, x, _⟩ := x; exact handed_ref x
  | rng _ => obtain ⟨_, _, _, _, x, _⟩ := x; exact handed_ref x
  | ref _ => exact handed_ref x.2
noncomputable def objR (o : Option T) : Option (Str × List Str × List D) := match o with
  | some (.obj C fs ds) => some (C, fs, ds)
  | _ => Option.none
noncomputable def objT (tr : List (Nat × T)) (d : D) : Option (Str × List Str × List D) := match d with
  | .obj C fs ds => some (C, fs, ds)
  | .ref k => objR (tr.lookup k)
  | _ => Option.none
noncomputable def attrE (cf : Cf) (d : D) (a : Str) (sh : Sh) (K : KE) : Prop := withO (objT sh.tr d) fun o => withO (cf.cls o.1) fun fa => match fa.2.contains a with
  | true => withO (look o.2.1 o.2.2 a) fun v => (match notB v with | true => K v sh | false => False)
  | false => False
noncomputable def sliceL (xs : List D) (lo hi : Option Int) (sh : Sh) (K : KE) : Prop := match hi with
  | some _ => False
  | Option.none => withO lo fun i => need (0 ≤ i ∧ xs.length ≤ 1000000) sh (K (.lst (xs.drop i.toNat)) sh)
noncomputable def sliceE (d : D) (lo hi : Option Int) (sh : Sh) (K : KE) : Prop := match d with
  | .str x => need (x.length ≤ 1000000) sh (K (.str (Txt.slice x lo hi)) sh)
  | .lst xs => sliceL xs lo hi sh K
  | _ => False
noncomputable def partE (r : Ev) (e : Option Expr) (ρ : Loc) (sh : Sh) (K : Option Int → Sh → Prop) : Prop := match e with
  | Option.none => K Option.none sh
  | some e => r.E e ρ sh fun d sh => withO (intOf d) fun i => K (some i) sh
noncomputable def strC (c : Const) : Option Str := match c with
  | .str x => some x
  | _ => Option.none
noncomputable def strV (e : Expr) : Option Str := match e with
  | .Constant c _ _ => strC c
  | _ => Option.none
noncomputable def keyStr (o : Option Expr) : Option Str := o.bind strV
noncomputable def keyStrs : List (Option Expr) → Option (List Str)
  | [] => some []
  | o :: r => (keyStr o).bind fun x => (keyStrs r).map (x :: ·)
noncomputable def nodupS : List Str → Bool
  | [] => true
  | x :: r => !r.contains x && nodupS r
noncomputable def emptyD (o : Option T) : Bool := match o with
  | some (.sd [] []) => true
  | _ => false
noncomputable def dictE (r : Ev) (keys : List (Option Expr)) (vals : List Expr) (ρ : Loc) (sh : Sh) (K : KE) : Prop :=
  withO (keyStrs keys) fun ks => match nodupS ks && decide (keys.length = vals.length) && decide (keys.length ≤ 15) && noStar vals with
    | true => evL r vals ρ { sh with tr := (sh.n, .sd [] []) :: sh.tr, n := sh.n + 1 } fun ds sh' => match emptyD (sh'.tr.lookup sh.n) with
      | true => K (.ref sh.n) { sh' with tr := setT sh'.tr sh.n (.sd ks ds) }
      | false => False
    | false => False
noncomputable def oneL {α β : Type} (f : α → Option β) (l : List α) : Option β := match l with
  | [] => Option.none
  | a :: r => match r with
    | [] => f a
    | _ :: _ => Option.none
theorem nope {α : Type} {a : α} {P : Prop} (h : Option.none = some a) : P := nos h
theorem oneL_out {α β : Type} {f : α → Option β} {l : List α} {y : β} (h : oneL f l = some y) : ∃ a, l = [a] ∧ f a = some y := by
  cases l with
  | nil => exact nope h
  | cons a r =>
    cases r with
    | nil => exact ⟨a, rfl, h⟩
    | cons b r => exact nope h
noncomputable def twoL {α β : Type} (f : α → α → Option β) (l : List α) : Option β := match l with
  | [] => Option.none
  | a :: r => oneL (f a) r
theorem twoL_out {α β : Type} {f : α → α → Option β} {l : List α} {y : β} (h : twoL f l = some y) : ∃ a b, l = [a, b] ∧ f a b = some y := by
  cases l with
  | nil => exact nope h
  | cons a r =>
    obtain ⟨b, rfl, h⟩ := oneL_out h
    exact ⟨a, b, rfl, h⟩
theorem strV_out {e : Expr} {x : Str} (h : strV e = some x) : ∃ k p, e = .Constant (.str x) k p := by
  cases e with
  | Constant c k p =>
    cases c with
    | str y => cases h; exact ⟨k, p, rfl⟩
    | _ => exact nope h
  | _ => exact nope h
noncomputable def replV (args : List Expr) : Option (Str × Str) := twoL (fun a b => (strV a).bind fun y => (strV b).map fun z => (y, z)) args
theorem replV_out {args : List Expr} {y z : Str} (h : replV args = some (y, z)) : ∃ k1 p1 k2 p2, args = [.Constant (.str y) k1 p1, .Constant (.str z) k2 p2] := by
  obtain ⟨a, b, rfl, h⟩ := twoL_out h
  obtain ⟨y', h1, h⟩ := Option.bind_eq_some_iff.mp h
  obtain ⟨z', h2, h⟩ := Option.map_eq_some_iff.mp h
  cases h
  obtain ⟨k1, p1, rfl⟩ := strV_out h1
  obtain ⟨k2, p2, rfl⟩ := strV_out h2
  exact ⟨k1, p1, k2, p2, rfl⟩
noncomputable def unE (r : Ev) (op : UnaryOp) (x : Expr) (ρ : Loc) (sh : Sh) (K : KE) : Prop := match op with
  | .USub => r.E x ρ sh fun a sh => withO (intOf a) fun i => K (.int (-i)) sh
  | _ => False
noncomputable def one {α : Type} (l : List α) : Option α := match l with
  | [] => Option.none
  | a :: r => match r with
    | [] => some a
    | _ :: _ => Option.none
theorem one_out {α : Type} {l : List α} {a : α} (h : one l = some a) : l = [a] := by
  cases l with
  | nil => exact nos h
  | cons b r => cases r with
    | nil => cases h; rfl
    | cons _ _ => exact nos h
noncomputable def cmp1E (r : Ev) (l : Expr) (ops : List CmpOp) (cs : List Expr) (ρ : Loc) (sh : Sh) (K : KE) : Prop :=
  withO (one ops) fun op => withO (one cs) fun c => match isSet c with | true => False | false => r.E l ρ sh fun a sh => r.E c ρ sh fun b sh => cmpD op a b sh K
noncomputable def replE (r : Ev) (o : Expr) (name : Str) (apos : Pos) (y z : Str) (pos : Pos) (ρ : Loc) (sh : Sh) (K : KE) : Prop := match decide (name = Str.ofString "replace") && !isCallE o && (apos.endLine == pos.line) && !(y == z) with
  | true => r.E o ρ sh fun d sh => withO (strOf d) fun x => need (x.length ≤ 100000 ∧ z.length ≤ 14) sh (K (.str (Txt.replace x y z)) sh)
  | false => False
noncomputable def methG (r : Ev) (o : Expr) (name : Str) (apos : Pos) (args : List Expr) (pos : Pos) (ρ : Loc) (sh : Sh) (K : KE) : Prop := match isCallE o || !noStar args || !decide (args.length ≤ 4) || !(apos.endLine == pos.line) with
  | true => False
  | false => r.E o ρ sh fun d sh => withO (methOf sh.tr d name) fun id => evL r args ρ sh fun ds sh => r.C (.bi id) (d :: ds) sh K noX
noncomputable def methE (r : Ev) (o : Expr) (name : Str) (apos : Pos) (args : List Expr) (pos : Pos) (ρ : Loc) (sh : Sh) (K : KE) : Prop := orO (replV args) (fun yz => replE r o name apos yz.1 yz.2 pos ρ sh K) (methG r o name apos args pos ρ sh K)
noncomputable def callE (cf : Cf) (r : Ev) (f : Expr) (args : List Expr) (pos : Pos) (ρ : Loc) (sh : Sh) (K : KE) : Prop := match f with
  | .Attribute o name apos => methE r o name apos args pos ρ sh K
  | .Name x p => (match noStar args with
    | true => r.E (.Name x p) ρ sh fun f sh => match callee cf f args with
      | true => evL r args ρ sh fun ds sh => r.C f ds sh K noX
      | false => False
    | false => False)
  | _ => False
noncomputable def subE (r : Ev) (o i : Expr) (ρ : Loc) (sh : Sh) (K : KE) : Prop := match i with
  | .Slice l u s _ => (match s with
    | Option.none => r.E o ρ sh fun d sh => partE r l ρ sh fun lo sh => partE r u ρ sh fun hi sh => sliceE d lo hi sh K
    | some _ => False)
  | i => r.E o ρ sh fun a sh => r.E i ρ sh fun b sh => getD false a b sh K
noncomputable def stepE (cf : Cf) (L : Ev → Expr → Loc → Sh → KE → Prop) (r : Ev) (e : Expr) (ρ : Loc) (sh : Sh) (K : KE) : Prop := match e with
  | .Constant c _ _ => constE c sh K
  | .Name x _ => nameE cf x ρ sh K
  | .BinOp l op rr _ => r.E l ρ sh fun a sh => r.E rr ρ sh fun b sh => binD op a b sh K
  | .UnaryOp op x _ => unE r op x ρ sh K
  | .IfExp t b o _ => r.T t ρ sh fun c sh => (match c with | true => r.E b ρ sh K | false => r.E o ρ sh K)
  | .BoolOp op vs _ => boolE r op vs ρ sh K
  | .Compare l ops cs _ => cmp1E r l ops cs ρ sh K
  | .Call f args kws pos => (match kws with
    | [] => callE cf r f args pos ρ sh K
    | _ :: _ => False)
  | .Attribute o a _ => (match isCallE o with | true => False | false => r.E o ρ sh fun d sh => attrE cf d a sh K)
  | .Subscript o i _ => subE r o i ρ sh K
  | .List es _ => (match noStar es with
    | true => evL r es ρ sh fun ds sh => (match decide (ds.length ≤ 1000) with | true => K (.ref sh.n) { sh with tr := (sh.n, .lst ds) :: sh.tr, n := sh.n + 1 } | false => False)
    | false => False)
  | .Tuple es _ _ => (match noStar es with
    | true => evL r es ρ sh fun ds sh => (match decide (ds.length ≤ 1000) with | true => K (.tup ds) sh | false => False)
    | false => False)
  | .Dict ks vs _ => dictE r ks vs ρ sh K
  | .ListComp _ _ _ _ => L r e ρ sh K
  | _ => False
section
variable {cf : Cf} {G : Glo} {r : Ev} {A : Around} {n : Nat} {E : Value → Shared → Prop} {W : Wd} {sh : Sh} {s : Shared} {env : Env} {ρ : Loc} {K : KE} {Q : Value → Shared → Prop}
theorem go (S : SE G r n) {e : Expr} {K' : KE} {Q' : Value → Shared → Prop} (h : r.E e ρ sh K') (st : S1 G W sh A n env ρ s)
    (k : ∀ d sh' W' h' v tk, K' d sh' → S1 G W' sh' A n env ρ { s with heap := h', toks := tk } → Le W s.heap W' h' → Kp W s.heap h' → V G W' h' d v → s.toks ≤ tk → Q' v { s with heap := h', toks := tk }) :
    wpAny (model G.prog G.w) A (eval e env) Q' E s :=
  S e ρ sh K' A env W s Q' E h st fun d sh' W' h' v tk kd l kp rp nn hv ht => k d sh' W' h' v tk kd (st.step l kp rp nn ht) l kp hv ht
theorem bin_step (S : SE G r n) {l rr : Expr} {op : Operator} {pos : Pos} (h : r.E l ρ sh fun a sh => r.E rr ρ sh fun b sh => binD op a b sh K) (st : S1 G W sh A n env ρ s) (q : Af G (V G) W s K Q) :
    wpAny (model G.prog G.w) A (eval (.BinOp l op rr pos) env) Q E s :=
  wpAny_BinOp (go S h st fun a sh₁ W₁ h₁ v₁ t₁ k₁ st₁ l₁ p₁ hv₁ ht₁ => go S k₁ st₁ fun b sh₂ W₂ h₂ v₂ t₂ k₂ st₂ l₂ p₂ hv₂ ht₂ =>
    bin_ok k₂ st₂.at_ (V.mono l₂ hv₁) hv₂ ((q.step l₁ p₁ ht₁).step l₂ p₂ ht₂))
theorem neg_step (S : SE G r n) {x : Expr} {pos : Pos} (h : r.E x ρ sh fun a sh => withO (intOf a) fun i => K (.int (-i)) sh) (st : S1 G W sh A n env ρ s) (q : Af G (V G) W s K Q) :
    wpAny (model G.prog G.w) A (eval (.UnaryOp .USub x pos) env) Q E s :=
  UnaryOp_ (go S h st fun a sh₁ W₁ h₁ v₁ t₁ k₁ st₁ l₁ p₁ hv₁ ht₁ => by
    obtain ⟨i, e, k₁⟩ := someE k₁
    obtain rfl := intOf_out e
    obtain ⟨t, _, rfl⟩ := hv₁
    exact PyProof.Rows.neg_int ((q.step l₁ p₁ ht₁).here st₁.at_ k₁ (V.int trivial) (Nat.le_succ _)))
theorem goT (S : ST G r n) {e : Expr} {K' : Bool → Sh → Prop} {Q' : Bool → Shared → Prop} (h : r.T e ρ sh K') (st : S1 G W sh A n env ρ s)
    (k : ∀ d sh' W' h' tk, K' d sh' → S1 G W' sh' A n env ρ { s with heap := h', toks := tk } → Le W s.heap W' h' → Kp W s.heap h' → s.toks ≤ tk → Q' d { s with heap := h', toks := tk }) :
    wpAny (model G.prog G.w) A (isTrue e env (eval e env)) Q' E s :=
  S e ρ sh K' A env W s Q' E h st fun d sh' W' h' v tk kd l kp rp nn hv ht => by
    have hv' : d = v := hv
    subst hv'
    exact k d sh' W' h' tk kd (st.step l kp rp nn ht) l kp ht
theorem ifexp_step (S : SE G r n) (ST' : ST G r n) {t b o : Expr} {pos : Pos} (h : r.T t ρ sh fun c sh => (match c with | true => r.E b ρ sh K | false => r.E o ρ sh K)) (st : S1 G W sh A n env ρ s) (q : Af G (V G) W s K Q) :
    wpAny (model G.prog G.w) A (eval (.IfExp t b o pos) env) Q E s :=
  IfExp_ (goT ST' h st fun c sh₁ W₁ h₁ t₁ k₁ st₁ l₁ p₁ ht₁ => by
    cases c with
    | true => rw [if_pos rfl]; exact S _ _ _ _ _ _ _ _ _ _ k₁ st₁ (q.step l₁ p₁ ht₁)
    | false => rw [if_neg (by decide)]; exact S _ _ _ _ _ _ _ _ _ _ k₁ st₁ (q.step l₁ p₁ ht₁))
theorem bool_step (S : SE G r n) {op : BoolOp} {pos : Pos} {vs : List Expr} : ∀ {sh : Sh} {W : Wd} {s : Shared}, boolE r op vs ρ sh K → S1 G W sh A n env ρ s → Af G (V G) W s K Q →
    wpAny (model G.prog G.w) A (eval (.BoolOp op vs pos) env) Q E s := by
  induction vs with
  | nil => intro _ _ _ h _ _; exact False.elim h
  | cons e es ih =>
    intro sh W s h st q
    cases es with
    | nil => exact BoolOp_one (S _ _ _ _ _ _ _ _ _ _ h st q)
    | cons f es => cases op with
      | And =>
        refine BoolOp_and (go S h st fun d sh₁ W₁ h₁ v₁ t₁ k₁ st₁ l₁ p₁ hv₁ ht₁ => ?_)
        obtain ⟨c, rfl, k₁⟩ := boolK_out k₁
        cases hv₁
        refine wpAny_truthy_bool ?_
        cases c with
        | false => exact (q.step l₁ p₁ ht₁).now st₁.at_ k₁ V.bool
        | true => exact ih k₁ st₁ (q.step l₁ p₁ ht₁)
      | Or =>
        refine BoolOp_or (go S h st fun d sh₁ W₁ h₁ v₁ t₁ k₁ st₁ l₁ p₁ hv₁ ht₁ => ?_)
        obtain ⟨c, rfl, k₁⟩ := boolK_out k₁
        cases hv₁
        refine wpAny_truthy_bool ?_
        cases c with
        | true => exact (q.step l₁ p₁ ht₁).now st₁.at_ k₁ V.bool
        | false => exact ih k₁ st₁ (q.step l₁ p₁ ht₁)
theorem cmp_step (S : SE G r n) {l c : Expr} {op : CmpOp} {pos : Pos} (hs : isSet c = false) (h : r.E l ρ sh fun a sh => r.E c ρ sh fun b sh => cmpD op a b sh K) (st : S1 G W sh A n env ρ s) (q : Af G (V G) W s K Q) :
    wpAny (model G.prog G.w) A (eval (.Compare l [op] [c] pos) env) Q E s :=
  wpAny_Compare1 (go S h st fun a sh₁ W₁ h₁ v₁ t₁ k₁ st₁ l₁ p₁ hv₁ ht₁ => go S k₁ st₁ fun b sh₂ W₂ h₂ v₂ t₂ k₂ st₂ l₂ p₂ hv₂ ht₂ =>
    cmp_ok k₂ st₂.at_ (V.mono l₂ hv₁) hv₂ st₂.rm.u70 ((q.step l₁ p₁ ht₁).step l₂ p₂ ht₂)) (marks_of hs)
theorem sub_step (S : SE G r n) {o i : Expr} {pos : Pos} {con : Bool} (h : r.E o ρ sh fun a sh => r.E i ρ sh fun b sh => getD con a b sh K) (st : S1 G W sh A n env ρ s) (q : Af G (V G) W s K Q) :
    wpAny (model G.prog G.w) A (eval (.Subscript o i pos) env) Q E s :=
  Subscript_ (go S h st fun a sh₁ W₁ h₁ v₁ t₁ k₁ st₁ l₁ p₁ hv₁ ht₁ => go S k₁ st₁ fun b sh₂ W₂ h₂ v₂ t₂ k₂ st₂ l₂ p₂ hv₂ ht₂ =>
    get_ok k₂ st₂.at_ (V.mono l₂ hv₁) hv₂ st₂.rm.u70 ((q.step l₁ p₁ ht₁).step l₂ p₂ ht₂))
theorem few {W : Wd} {h : Heap} {ds : List D} {vs : List Value} (x : VL G W h ds vs) (c : decide (ds.length ≤ 1000) = true) : vs.toArray.size ≤ sizeLine := by
  have c := of_decide_eq_true c
  rw [List.size_toArray, ← x.length, sizeLine_eq]
  exact Nat.le_trans c (by decide)
theorem tup_step (S : SE G r n) {es : List Expr} {k : Nat} {pos : Pos} (ns : noStar es = true) (h : evL r es ρ sh fun ds sh => (match decide (ds.length ≤ 1000) with | true => K (.tup ds) sh | false => False)) (st : S1 G W sh A n env ρ s) (q : Af G (V G) W s K Q) :
    wpAny (model G.prog G.w) A (eval (.Tuple es k pos) env) Q E s := by
  refine Tuple_ (evL_ok S h ns st fun ds sh₁ W₁ h₁ vs t₁ k₁ l₁ p₁ r₁ n₁ hv₁ ht₁ => ?_)
  obtain ⟨c, k₁⟩ := trueE k₁
  refine wpAny_newObj_type ?_ (few hv₁ c)
  exact (q.step l₁ p₁ ht₁) (.tup ds) sh₁ W₁ _ _ t₁ k₁ (Le.push _) (Kp.push _) (r₁.push _) n₁ (V.tupNew r₁.fresh hv₁) (Nat.le_refl _)
theorem Af.newT {q : Af G (V G) W s K Q} {t : T} {o : Obj} (at_ : At G W sh s) (k : K (.ref sh.n) { sh with tr := (sh.n, t) :: sh.tr, n := sh.n + 1 }) (hf : o.isFreed = false) (ht : TR G (W.new s.heap.objs.size) (s.heap.push o) W.n t) (nf : ∀ d, t ≠ .frz d := by intro _ e; cases e) :
    Q (.ref s.heap.objs.size) { s with heap := s.heap.push o } := by
  have hn := at_.n
  have ha : ∀ o, s.heap.get? s.heap.objs.size ≠ some o := fun o e => Nat.lt_irrefl _ (Heap.lt_size e)
  have fr := at_.rep.fresh
  have kk : ∀ b ob, s.heap.get? b = some ob → (s.heap.push o).get? b = some ob := fun _ _ e => Heap.get?_push_of_some _ e
  refine q (.ref sh.n) { sh with tr := (sh.n, t) :: sh.tr, n := sh.n + 1 } (W.new s.heap.objs.size) (s.heap.push o) _ s.toks k (Le.new ha fr kk) (Kp.grow kk) ?_ (by show W.n + 1 = sh.n + 1; rw [hn]) ?_ (Nat.le_refl _)
  · rw [← hn]
    exact Rep.new at_.rep ha kk (Heap.get?_push_size _ hf) ht nf
  · rw [← hn]
    exact V.newRef
theorem list_step (S : SE G r n) {es : List Expr} {pos : Pos} (ns : noStar es = true)
    (h : evL r es ρ sh fun ds sh => (match decide (ds.length ≤ 1000) with | true => K (.ref sh.n) { sh with tr := (sh.n, .lst ds) :: sh.tr, n := sh.n + 1 } | false => False)) (st : S1 G W sh A n env ρ s) (q : Af G (V G) W s K Q) :
    wpAny (model G.prog G.w) A (eval (.List es pos) env) Q E s := by
  refine List_ (evL_ok S h ns st fun ds sh₁ W₁ h₁ vs t₁ k₁ l₁ p₁ r₁ n₁ hv₁ ht₁ => ?_)
  obtain ⟨c, k₁⟩ := trueE k₁
  refine wpAny_newObj_type ?_ (few hv₁ c)
  have x := V.lstNew r₁.fresh hv₁
  refine Af.newT (q := q.step l₁ p₁ ht₁) (st.step l₁ p₁ r₁ n₁ ht₁).at_ k₁ rfl ?_
  show TRa G _ _ _ (if W₁.n = W₁.n then _ else _) _
  rw [if_pos rfl]
  exact ⟨vs.toArray, 0, Heap.get?_push_size _ rfl, VL.mono (Le.new (fun o e => Nat.lt_irrefl _ (Heap.lt_size e)) r₁.fresh fun _ _ e => Heap.get?_push_of_some _ e) hv₁⟩
theorem objR_out {o : Option T} {x : Str × List Str × List D} (e : objR o = some x) : o = some (.obj x.1 x.2.1 x.2.2) := by
  cases o with
  | none => exact nos e
  | some t => cases t with
    | obj C fs ds => cases e; rfl
    | _ => exact nos e
inductive ObAt (G : Glo) (W : Wd) (h : Heap) (x : Str × List Str × List D) (v : Value) : Prop
  | mk (a : Addr) (w : Option Own) (e : v = .ref a) (o : ObjIs G W h x.1 x.2.1 a w fun vs => VL G W h x.2.2 vs) : ObAt G W h x v
theorem objT_of {tr} {h : Heap} (R : Rep G W tr h) {d : D} {v : Value} {x : Str × List Str × List D} (hv : V G W h d v) (e : objT tr d = some x) : ObAt G W h x v := by
  cases d with
  | obj C fs ds => cases e; obtain ⟨a, e, _, o⟩ := hv; exact ⟨a, _, e, o⟩
  | ref k => exact ⟨_, _, hv.2, (R.trk _ _ (objR_out e)).2.2⟩
  | _ => exact nos e
theorem attrE_ok (ok : GOk cf G) {d : D} {a : Str} {v : Value} {ex : Bool} {W : Wd} {sh : Sh} {s : Shared} {K : KE} {Q : Value → Shared → Prop} (k : attrE cf d a sh K) (at_ : At G W sh s) (hv : V G W s.heap d v) (q : Af G (V G) W s K Q) :
    wpAny (model G.prog G.w) A (getAttr v a ex) Q E s := by
  obtain ⟨⟨C, fs, ds⟩, eo, k⟩ := someE k
  obtain ⟨⟨fn, as⟩, ec, k⟩ := someE k
  obtain ⟨ea, k⟩ := trueE k
  obtain ⟨w, el, k⟩ := someE k
  obtain ⟨nb, k⟩ := trueE k
  obtain ⟨c, N, mN, fI, hg, X, hi, hfn, hga, hsa, hat⟩ := ok.cls _ _ _ ec
  obtain ⟨b, _, rfl, c', dx, ob, kvs, mA, _, hc', ho, z1, z2, z4, z5, z6, kk, rr, z7⟩ := objT_of at_.rep hv eo
  obtain rfl : c = c' := Value.ref.inj (Option.some.inj (hg.symm.trans hc'))
  obtain ⟨v', ev, hv⟩ := look_some kk rr el
  have kp : ∀ b o, G.h₀.get? b = some o → s.heap.get? b = some o := fun b o e => (at_.rep.base b o e).2
  obtain ⟨nm, q', bs, sn, sub, col, dd, k0, k1, k2, k3, k5, hC⟩ := (X.keeps kp).obj
  have ha := hat a (List.contains_iff_mem.mp ea)
  have := q.here (tk := s.toks + 1) at_ k hv (Nat.le_succ _)
  obtain ⟨hh, g, dr, tt, os⟩ := s
  exact load_attr hC (X.keeps kp).ns hga ha.1 ha.2 ⟨ob, ho, z1, z2, .inr ⟨dx, z4, z5, z6⟩⟩ ((z7 a).trans ev) (handed_of hv nb) this
theorem attr_step (ok : GOk cf G) (S : SE G r n) {o : Expr} {a : Str} {pos : Pos} (hc : isCallE o = false) (h : r.E o ρ sh fun d sh => attrE cf d a sh K) (st : S1 G W sh A n env ρ s) (q : Af G (V G) W s K Q) :
    wpAny (model G.prog G.w) A (eval (.Attribute o a pos) env) Q E s := by
  refine Attribute_any_ (go S h st fun d sh₁ W₁ h₁ v₁ t₁ k₁ st₁ l₁ p₁ hv₁ ht₁ => attrE_ok ok k₁ st₁.at_ hv₁ (q.step l₁ p₁ ht₁)) ?_
  cases o <;> first | rfl | exact Bool.noConfusion hc
end
end Mine
namespace Mine
section
variable {cf : Cf} {G : Glo} {r : Ev} {A : Around} {n : Nat} {E : Value → Shared → Prop} {W : Wd} {sh : Sh} {s : Shared} {env : Env} {ρ : Loc} {K : KE} {Q : Value → Shared → Prop}
theorem callee_ok (ok : GOk cf G) {f : D} {args : List Expr} (h : callee cf f args = true) : Callee G f ∧ ((∃ x, f = .glob x ∧ ¬ ∃ v fn, G.mg x = some v ∧ FnOk G v fn) → args ≠ []) := by
  cases f with
  | bi i => exact ⟨trivial, fun ⟨x, e, _⟩ => by cases e⟩
  | ty i => exact ⟨trivial, fun ⟨x, e, _⟩ => by cases e⟩
  | glob x =>
    have h : (match (cf.fn x).isSome with | true => true | false => (cf.cls x).isSome && !args.isEmpty) = true := h
    cases e : cf.fn x with
    | some fn =>
      obtain ⟨v, hv, hfn⟩ := ok.fn _ _ e
      exact ⟨.inl ⟨v, fn, hv, hfn⟩, fun ⟨y, ey, ny⟩ => by cases ey; exact absurd ⟨v, fn, hv, hfn⟩ ny⟩
    | none =>
      rw [e] at h
      obtain ⟨h1, h2⟩ := Bool.and_eq_true_iff.mp h
      obtain ⟨p, e⟩ := Option.isSome_iff_exists.mp h1
      obtain ⟨c, N, mN, fI, hg, X, _⟩ := ok.cls _ p.1 p.2 e
      exact ⟨.inr ⟨c, N, mN, hg, X⟩, fun _ e => by subst e; exact Bool.noConfusion h2⟩
  | _ => exact Bool.noConfusion h
theorem call_step (ok : GOk cf G) (S : SE G r n) (C : SC G r n) {x : Str} {p pos : Pos} {args : List Expr} (ns : noStar args = true)
    (h : r.E (.Name x p) ρ sh fun f sh => match callee cf f args with
      | true => evL r args ρ sh fun ds sh => r.C f ds sh K noX
      | false => False) (st : S1 G W sh A n env ρ s) (q : Af G (V G) W s K Q) :
    wpAny (model G.prog G.w) A (eval (.Call (.Name x p) args [] pos) env) Q E s := by
  refine wpAny_Call_Name_kw (go S h st fun f sh₁ W₁ h₁ fv t₁ k₁ st₁ l₁ p₁ hv₁ ht₁ => ?_)
  obtain ⟨hc, k₁⟩ := trueE k₁
  obtain ⟨cl, ne⟩ := callee_ok ok hc
  exact callWith_ok (first := []) (Q' := fun vs s₁ => wpAny (model G.prog G.w) A (call fv vs) Q E s₁) S cl hv₁ (.inl rfl) k₁ ns st₁ ne
    (fun ds sh₂ W₂ h₂ vs t₂ k₂ l₂ p₂ r₂ n₂ hv₂ ht₂ => C f ds sh₂ K noX A W₂ _ fv vs Q E k₂ (st₁.step l₂ p₂ r₂ n₂ ht₂).s0 (V.mono l₂ hv₁) hv₂ ((q.step l₁ p₁ ht₁).step l₂ p₂ ht₂) noX_ok) fun vs s₁ hk hq => hq
theorem ifS {α : Type} {c : Prop} [Decidable c] {x y : α} {o : Option α} (h : (match decide c with | true => some x | false => o) = some y) : (c ∧ x = y) ∨ o = some y := by
  by_cases e : c
  · rw [decide_eq_true e] at h; exact .inl ⟨e, Option.some.inj h⟩
  · rw [decide_eq_false e] at h; exact .inr h
theorem strMeth_ok {name : Str} {id : String} (h : strMeth name = some id) : Slot "str" name id ∧ typeOf (.builtin id) = pure (.type "method_descriptor") := by
  rcases ifS h with ⟨rfl, rfl⟩ | h
  · exact ⟨PySem.F.slot_str_lower, PySem.F.type_str_lower⟩
  rcases ifS h with ⟨rfl, rfl⟩ | h
  · exact ⟨PySem.F.slot_str_upper, PySem.F.type_str_upper⟩
  rcases ifS h with ⟨rfl, rfl⟩ | h
  · exact ⟨PySem.F.slot_str_find, PySem.F.type_str_find⟩
  rcases ifS h with ⟨rfl, rfl⟩ | h
  · exact ⟨PySem.F.slot_str_split, PySem.F.type_str_split⟩
  rcases ifS h with ⟨rfl, rfl⟩ | h
  · exact ⟨PySem.F.slot_str_replace, PySem.F.type_str_replace⟩
  · exact nos h
inductive MethAt (s : Shared) (v : Value) (name : Str) (id : String) : Prop
  | mk (T : String) (pa : PlainAttrs T) (sl : Slot T name id) (ty : typeOf (.builtin id) = pure (.type "method_descriptor")) (ti : s.TypeIs v T) (dn : ∀ a, v = .ref a → ∃ ob, s.heap.get? a = some ob ∧ ob.dict = none) : MethAt s v name id
theorem methX_ok {d : D} {v : Value} {name : Str} {id : String} (at_ : At G W sh s) (hv : V G W s.heap d v) (h : methX (lstT sh.tr d) ((sdT sh.tr d).isSome || (pdT sh.tr d).isSome) name = some id) : MethAt s v name id := by
  cases e : lstT sh.tr d with
  | some xs =>
    rw [e] at h
    obtain ⟨a, vs, m, rfl, hl, _⟩ := lstT_of at_.rep hv e
    rcases ifS h with ⟨rfl, rfl⟩ | h
    · exact ⟨"list", PySem.F.plainAttrs_list, PySem.F.slot_list_append, PySem.F.type_list_append, ⟨_, hl, rfl⟩, fun b e => by cases e; exact ⟨_, hl, rfl⟩⟩
    · exact nos h
  | none =>
    rw [e] at h
    have h : (match ((sdT sh.tr d).isSome || (pdT sh.tr d).isSome) && decide (name = Str.ofString "get") with | true => some "dict.get" | false => Option.none) = some id := h
    cases c : ((sdT sh.tr d).isSome || (pdT sh.tr d).isSome) && decide (name = Str.ofString "get") with
    | false => rw [c] at h; exact nos h
    | true =>
      rw [c] at h
      cases h
      obtain ⟨c1, c2⟩ := Bool.and_eq_true_iff.mp c
      obtain rfl := of_decide_eq_true c2
      cases Bool.or_eq_true_iff.mp c1 with
      | inl c1 =>
        obtain ⟨kv, e⟩ := Option.isSome_iff_exists.mp c1
        obtain ⟨a, kvs, rfl, sm, hd, _⟩ := sdT_of at_.rep hv e
        obtain ⟨o, es, ep, ho, hx, _⟩ := id hd
        exact ⟨"dict", PySem.F.plainAttrs_dict, PySem.F.slot_dict_get, PySem.F.type_dict_get, hd.typeIs, fun b e => by cases e; exact ⟨o, ho, hx.2.1⟩⟩
      | inr c1 =>
        obtain ⟨kv, e⟩ := Option.isSome_iff_exists.mp c1
        obtain ⟨a, kvs, rfl, sm, hd, _⟩ := pdT_of at_.rep hv e
        obtain ⟨o, es, ep, ho, hx, _⟩ := id hd
        exact ⟨"dict", PySem.F.plainAttrs_dict, PySem.F.slot_dict_get, PySem.F.type_dict_get, hd.typeIs, fun b e => by cases e; exact ⟨o, ho, hx.2.1⟩⟩
theorem meth_ok {d : D} {v : Value} {name : Str} {id : String} (at_ : At G W sh s) (hv : V G W s.heap d v) (h : methOf sh.tr d name = some id) : MethAt s v name id := by
  cases d with
  | str x =>
    obtain ⟨a, b⟩ := strMeth_ok h
    obtain ⟨t, _, rfl⟩ := hv
    exact ⟨"str", PySem.F.plainAttrs_str, a, b, typeIs_str _ _ _, fun _ e => nomatch e⟩
  | _ => exact methX_ok at_ hv h
theorem star_all {es : List Expr} : noStar es = true → ∀ {pos : Pos}, (backTo pos (starEach es env)).all (fun x => !x.1) = true := by
  induction es with
  | nil => intro _ _; rfl
  | cons e es ih =>
    intro h pos
    obtain ⟨a, b⟩ := starEach_cons (env := env) h
    rw [a, backTo_cons, List.all_cons, ih b]; rfl
theorem meth_step (S : SE G r n) (C : SC G r n) {o : Expr} {name : Str} {apos pos : Pos} {args : List Expr} (hg : (isCallE o || !noStar args || !decide (args.length ≤ 4) || !(apos.endLine == pos.line)) = false)
    (h : r.E o ρ sh fun d sh => withO (methOf sh.tr d name) fun id => evL r args ρ sh fun ds sh => r.C (.bi id) (d :: ds) sh K noX) (st : S1 G W sh A n env ρ s) (q : Af G (V G) W s K Q) :
    wpAny (model G.prog G.w) A (eval (.Call (.Attribute o name apos) args [] pos) env) Q E s := by
  obtain ⟨hg, g4⟩ := Bool.or_eq_false_iff.mp hg
  obtain ⟨hg, g3⟩ := Bool.or_eq_false_iff.mp hg
  obtain ⟨g1, g2⟩ := Bool.or_eq_false_iff.mp hg
  have g2 := notF g2
  refine wpAny_Call_method_lateS (base_of g1) ?_ (notF g4) (go S h st fun d sh₁ W₁ h₁ v₁ t₁ k₁ st₁ l₁ p₁ hv₁ ht₁ => ?_)
  · rw [star_all g2]
    exact decide_eq_true (Nat.lt_of_le_of_lt (of_decide_eq_true (notF g3)) (by decide : 4 < 30))
  · obtain ⟨id, e, k₁⟩ := someE k₁
    obtain ⟨T, pa, sl, ty, ti, dn⟩ := meth_ok st₁.at_ hv₁ e
    exact ⟨T, id, pa, sl, ty, ti, dn, callWith_ok (f := .bi id) (Q' := fun vs s₁ => wpAny (model G.prog G.w) A (call (.builtin id) (v₁ :: vs)) Q E s₁) S trivial rfl (.inr ⟨id, rfl⟩) k₁ g2 st₁ (fun ⟨x, e, _⟩ => by cases e)
      (fun ds sh₂ W₂ h₂ vs t₂ k₂ l₂ p₂ r₂ n₂ hv₂ ht₂ => C (.bi id) (d :: ds) sh₂ K noX A W₂ _ (.builtin id) (v₁ :: vs) Q E k₂ (st₁.step l₂ p₂ r₂ n₂ ht₂).s0 rfl ⟨V.mono l₂ hv₁, hv₂⟩ ((q.step l₁ p₁ ht₁).step l₂ p₂ ht₂) noX_ok) fun vs s₁ hk hq => hq⟩
noncomputable def PartV (lo : Option Int) (v : Value) : Prop := ∃ l : Option (Int × Tok), v = partValue l ∧ l.map (·.1) = lo
theorem part_ok (S : SE G r n) {e : Option Expr} {K' : Option Int → Sh → Prop} {Q' : Value → Shared → Prop} (h : partE r e ρ sh K') (st : S1 G W sh A n env ρ s)
    (k : ∀ lo sh' W' h' v tk, K' lo sh' → S1 G W' sh' A n env ρ { s with heap := h', toks := tk } → Le W s.heap W' h' → Kp W s.heap h' → PartV lo v → s.toks ≤ tk → Q' v { s with heap := h', toks := tk }) :
    wpAny (model G.prog G.w) A (evalPart e env) Q' E s := by
  cases e with
  | none =>
    rw [evalPart_none]
    exact wpAny_pure (k Option.none sh W s.heap .none s.toks h st Le.refl Kp.refl ⟨Option.none, rfl, rfl⟩ (Nat.le_refl _))
  | some e =>
    rw [evalPart_some]
    refine go S h st fun d sh₁ W₁ h₁ v₁ t₁ k₁ st₁ l₁ p₁ hv₁ ht₁ => ?_
    obtain ⟨i, e, k₁⟩ := someE k₁
    obtain rfl := intOf_out e
    obtain ⟨t, _, rfl⟩ := hv₁
    exact k (some i) sh₁ W₁ h₁ _ t₁ k₁ st₁ l₁ p₁ ⟨some (i, t), rfl, rfl⟩ ht₁
theorem replace_step (S : SE G r n) {o : Expr} {name y z : Str} {k1 k2 : Nat} {p1 p2 apos pos : Pos} (hg : (decide (name = Str.ofString "replace") && !isCallE o && (apos.endLine == pos.line) && !(y == z)) = true)
    (h : r.E o ρ sh fun d sh => withO (strOf d) fun x => need (x.length ≤ 100000 ∧ z.length ≤ 14) sh (K (.str (Txt.replace x y z)) sh)) (st : S1 G W sh A n env ρ s) (q : Af G (V G) W s K Q) :
    wpAny (model G.prog G.w) A (eval (.Call (.Attribute o name apos) [.Constant (.str y) k1 p1, .Constant (.str z) k2 p2] [] pos) env) Q E s := by
  obtain ⟨hg, g5⟩ := Bool.and_eq_true_iff.mp hg
  obtain ⟨hg, g4⟩ := Bool.and_eq_true_iff.mp hg
  obtain ⟨g0, g1⟩ := Bool.and_eq_true_iff.mp hg
  obtain rfl := of_decide_eq_true g0
  refine wpAny_Call_method_lateS (base_of (notT g1)) rfl g4 (go S h st fun d sh₁ W₁ h₁ v₁ t₁ k₁ st₁ l₁ p₁ hv₁ ht₁ => ?_)
  obtain ⟨x, e, k₁⟩ := someE k₁
  obtain rfl := strOf_out e
  obtain ⟨c, k₁⟩ := need_out k₁
  obtain ⟨t, _, rfl⟩ := hv₁
  refine ⟨"str", "str.replace", PySem.F.plainAttrs_str, PySem.F.slot_str_replace, PySem.F.type_str_replace, typeIs_str _ _ _, fun _ e => (nomatch e), ?_⟩
  refine Calls.callWith_builtin rfl ?_
  refine Calls.evalArgs_plain (Calls.spliced_cons (Calls.Constant_str (k := k1) (pos := p1) (Calls.spliced_cons (Calls.Constant_str (k := k2) (pos := p2) (Calls.spliced_nil ?_)))))
  have h1 : (x.length + 1) * z.length ≤ (x.length + 1) * 14 := Nat.mul_le_mul_left _ c.2
  refine wpAny_mono (wpAny_toks (PySem.SC.replace (x := x) (y := y) (z := z) (Q := fun v s' => ∃ t' k, v = .str (Txt.replace x y z) t' ∧ s' = { s with heap := h₁, toks := k }) st₁.at_.tk (Nat.succ_ne_zero _) (Nat.ne_of_lt (Nat.lt_succ_self t₁)) (notT g5) (by lia) fun t' k => ⟨t', k, rfl, rfl⟩)) (fun v s' hh => ?_) fun _ _ y => y.2
  obtain ⟨tl, t', k, rfl, rfl⟩ := hh
  exact (q.step l₁ p₁ ht₁).here st₁.at_ k₁ (V.str trivial) (Nat.le_trans (Nat.le_add_right t₁ 2) tl)
theorem range_drop {l : List Value} : ∀ (m a : Nat), a + m = l.length → (List.range m).filterMap (fun x => l[a + x]?) = l.drop a := by
  intro m
  induction m with
  | zero => intro a h; exact (List.drop_eq_nil_of_le (Nat.le_of_eq h.symm)).symm
  | succ m ih =>
    intro a h
    have e (x : Nat) : a + (x + 1) = a + 1 + x := by rw [Nat.add_assoc, Nat.add_comm 1]
    have ha : a < l.length := h ▸ Nat.lt_add_of_pos_right (Nat.succ_pos m)
    rw [List.range_succ_eq_map, List.filterMap_cons, Nat.add_zero, List.getElem?_eq_getElem ha, List.filterMap_map, List.drop_eq_getElem_cons ha, ← ih (a + 1) ((e m).symm.trans h)]
    exact congrArg (fun f => l[a] :: List.filterMap f (List.range m)) (funext fun x => congrArg (fun i => l[i]?) (e x))
theorem slicePick_from {items : Array Value} {i : Int} (h : 0 ≤ i) : (slicePick items (some i) Option.none Option.none).toList = items.toList.drop i.toNat := by
  obtain ⟨k, rfl⟩ := Int.eq_ofNat_of_zero_le h
  unfold slicePick sliceBounds
  have h2 : ¬ (k : Int) < 0 := Int.not_lt.mpr h
  simp only [Option.getD_none, show (1 : Int) > 0 by decide, if_true, h2, if_false]
  have hm : max 0 (min (k : Int) (items.size : Int)) = ((min k items.size : Nat) : Int) := by lia
  rw [hm, sliceRange_one, List.filterMap_map]
  have e : (fun x : Nat => items[x]?) ∘ (fun x : Nat => min k items.size + x) = fun x => items.toList[min k items.size + x]? := funext fun x => Array.getElem?_toList.symm
  rw [e, range_drop _ _ (by rw [Array.length_toList]; exact Nat.add_sub_cancel' (Nat.min_le_right _ _))]
  show _ = items.toList.drop k
  cases Nat.le_total k items.size with
  | inl hi => rw [Nat.min_eq_left hi]
  | inr hi => rw [Nat.min_eq_right hi, List.drop_eq_nil_of_le (Nat.le_of_eq Array.length_toList), List.drop_eq_nil_of_le (Nat.le_trans (Nat.le_of_eq Array.length_toList) hi)]
theorem VL.drop {W : Wd} {h : Heap} {ds : List D} : ∀ {vs : List Value} (k : Nat), VL G W h ds vs → VL G W h (ds.drop k) (vs.drop k) := by
  induction ds with
  | nil => intro vs k x; cases vs with
    | nil => rw [List.drop_nil, List.drop_nil]; trivial
    | cons _ _ => exact False.elim x
  | cons d ds ih => intro vs k x; cases vs with
    | nil => exact False.elim x
    | cons v vs => cases k with
      | zero => exact x
      | succ k => exact ih k x.2
theorem slice_step (S : SE G r n) {o : Expr} {l u : Option Expr} {p pos : Pos} (h : r.E o ρ sh fun d sh => partE r l ρ sh fun lo sh => partE r u ρ sh fun hi sh => sliceE d lo hi sh K) (st : S1 G W sh A n env ρ s) (q : Af G (V G) W s K Q) :
    wpAny (model G.prog G.w) A (eval (.Subscript o (.Slice l u Option.none p) pos) env) Q E s := by
  refine Subscript_ (go S h st fun d sh₁ W₁ h₁ v₁ t₁ k₁ st₁ l₁ p₁ hv₁ ht₁ => wpAny_Slice (part_ok S k₁ st₁ fun lo sh₂ W₂ h₂ v₂ t₂ k₂ st₂ l₂ p₂ hv₂ ht₂ => part_ok S k₂ st₂ fun hi sh₃ W₃ h₃ v₃ t₃ k₃ st₃ l₃ p₃ hv₃ ht₃ => ?_))
  rw [evalPart_none]
  refine wpAny_pure ?_
  have q' := ((q.step l₁ p₁ ht₁).step l₂ p₂ ht₂).step l₃ p₃ ht₃
  have hv := V.mono l₃ (V.mono l₂ hv₁)
  obtain ⟨lo', rfl, el⟩ := hv₂
  obtain ⟨hi', rfl, eh⟩ := hv₃
  obtain ⟨ops, hs⟩ := sub_eq (.Slice l u Option.none p) v₁ (.ref h₃.objs.size)
  cases d with
  | str x =>
    obtain ⟨c, k₃⟩ := need_out k₃
    obtain ⟨t, _, rfl⟩ := hv
    refine tail_any (typeIs_str _ _ _) PySem.F.slot_str_getitem.lookup (wpAny_getItem_str_slice (l := lo') (u := hi') (st := Option.none) ⟨_, Heap.get?_push_size _ rfl, rfl, rfl⟩ rfl ?_) hs
    unfold sliceMade slicePicked
    rw [el, eh]
    have le := Txt.slice_le x lo hi
    unfold Txt.slice at k₃ le
    simp only [Option.map_none, Option.getD_none] at k₃ le ⊢
    split
    · rename_i hc
      rw [if_pos hc] at k₃
      exact q' (.str x) sh₃ W₃ _ _ t₃ k₃ (Le.push _) (Kp.push _) (st₃.at_.rep.push _) st₃.at_.n (V.str trivial) (Nat.le_refl _)
    · rename_i hc
      rw [if_neg hc] at k₃ le
      refine ⟨Nat.le_trans le (by rw [sizeLine_eq]; exact Nat.le_trans c (by decide)), ?_⟩
      exact q' (.str _) sh₃ W₃ _ _ (t₃ + 1) k₃ (Le.push _) (Kp.push _) (st₃.at_.rep.push _) st₃.at_.n (V.str trivial) (Nat.le_succ _)
  | lst xs => cases hi with
    | some _ => exact False.elim k₃
    | none =>
      obtain ⟨i, rfl, k₃⟩ := someE k₃
      obtain ⟨⟨c1, c2⟩, k₃⟩ := need_out k₃
      obtain ⟨a, vs, m, rfl, ow, hl, rr⟩ := hv
      have hL : h₃.IsList a vs := ⟨_, hl, rfl, _, rfl⟩
      have il : IsPart (partValue lo') (some i) := by
        cases lo' with
        | none => cases el
        | some pr => cases el; exact .int _ _
      have iu : IsPart (partValue hi') Option.none := by
        cases hi' with
        | none => exact .none
        | some pr => cases eh
      refine tail_any ⟨_, Heap.get?_push_of_some _ hl, rfl⟩ list_getitem_lookup (wpAny_getItem_list_slice (hL.push _) (Heap.IsSliceOf.new ..) il iu .none (by decide) ?_ (by rw [sizeLine_eq, ← rr.size]; exact Nat.le_trans c2 (by decide))) hs
      have R := st₃.at_.rep.push { cls := .type "slice", data := .fields #[partValue lo', partValue hi', .none] }
      rw [show slicePick vs (some i) Option.none Option.none = (vs.toList.drop i.toNat).toArray from (slicePick_from c1) ▸ rfl]
      exact q' (.lst (xs.drop i.toNat)) sh₃ W₃ _ _ t₃ k₃ (Le.trans (Le.push _) (Le.push _)) (Kp.trans (Le.push _) (Kp.push _) (Kp.push _)) (R.push _) st₃.at_.n (V.lstNew R.fresh (VL.mono (Le.push _) (VL.drop _ rr))) (Nat.le_refl _)
  | _ => exact False.elim k₃
end
end Mine
namespace Mine
section
variable {cf : Cf} {G : Glo} {r : Ev} {A : Around} {n : Nat} {E : Value → Shared → Prop} {W : Wd} {sh : Sh} {s : Shared} {env : Env} {ρ : Loc} {K : KE} {Q : Value → Shared → Prop}
noncomputable def PairsOk (G : Glo) (ks : List Str) (W : Wd) (h : Heap) (ds : List D) (prs : List (Value × Value)) : Prop :=
  ∃ kvs, Carries (sK G) prs kvs ∧ kvs.map (·.1) = ks ∧ VL G W h ds (kvs.map (·.2))
theorem pairs_ok (S : SE G r n) {pos : Pos} {keys : List (Option Expr)} : ∀ {vals : List Expr} {ks : List Str} {sh : Sh} {W : Wd} {s : Shared} {K : List D → Sh → Prop} {Q : List (Value × Value) → Shared → Prop},
    keyStrs keys = some ks → keys.length = vals.length → evL r vals ρ sh K → S1 G W sh A n env ρ s → Af G (PairsOk G ks) W s K Q → wpAny (model G.prog G.w) A (evalPairs (pairTrees keys vals env pos)) Q E s := by
  induction keys with
  | nil => intro vals ks sh W s K Q e l h st q; cases vals with
    | nil => cases e; exact pairTrees_nil_walk (q.now st.at_ h ⟨[], trivial, rfl, trivial⟩)
    | cons _ _ => cases l
  | cons ko keys ih => intro vals ks sh W s K Q e l h st q; cases vals with
    | nil => cases l
    | cons v vals =>
      obtain ⟨x, ks', e1, e', rfl⟩ := bind_map e
      obtain ⟨ke, rfl, e1⟩ := Option.bind_eq_some_iff.mp e1
      obtain ⟨kk, kp, rfl⟩ := strV_out e1
      refine pairTrees_cons_walk (Calls.Constant_str ?_)
      have st0 : S1 G W sh A n env ρ { s with toks := s.toks + 1 } := st.step (h' := s.heap) Le.refl Kp.refl st.at_.rep st.at_.n (Nat.le_succ _)
      refine go S h st0 fun d sh₁ W₁ h₁ v₁ t₁ k₁ st₁ l₁ p₁ hv₁ ht₁ => ?_
      refine ih e' (Nat.succ.inj l) k₁ st₁ fun ds sh₂ W₂ h₂ prs t₂ k₂ l₂ p₂ r₂ n₂ hv₂ ht₂ => ?_
      obtain ⟨kvs, c1, c2, c3⟩ := hv₂
      exact q (d :: ds) sh₂ W₂ h₂ _ t₂ k₂ (Le.trans l₁ l₂) (Kp.trans l₁ p₁ p₂) r₂ n₂ ⟨(x, v₁) :: kvs, ⟨strKind_is _ _ _ _, rfl, c1⟩, by rw [List.map_cons, c2], V.mono l₂ hv₁, c3⟩ (Nat.le_trans (Nat.le_of_succ_le ht₁) ht₂)
theorem keyStrs_some {keys : List (Option Expr)} : ∀ {ks : List Str}, keyStrs keys = some ks → keys.all (·.isSome) = true := by
  induction keys with
  | nil => exact fun _ => rfl
  | cons ko r ih =>
    intro ks h
    obtain ⟨x, ks', e1, e', _⟩ := bind_map h
    obtain ⟨ke, rfl, _⟩ := Option.bind_eq_some_iff.mp e1
    exact ih e'
theorem nodup_of {ks : List Str} : nodupS ks = true → ks.Nodup := by
  induction ks with
  | nil => exact fun _ => List.nodup_nil
  | cons x r ih =>
    intro h
    obtain ⟨a, b⟩ := Bool.and_eq_true_iff.mp h
    exact List.nodup_cons.mpr ⟨fun hm => Bool.noConfusion ((notT a).symm.trans (List.contains_iff_mem.mpr hm)), ih b⟩
theorem At.newT {t : T} {o : Obj} (at_ : At G W sh s) (hf : o.isFreed = false) (ht : TR G (W.new s.heap.objs.size) (s.heap.push o) W.n t) (nf : ∀ d, t ≠ .frz d := by intro _ e; cases e) :
    At G (W.new s.heap.objs.size) { sh with tr := (sh.n, t) :: sh.tr, n := sh.n + 1 } { s with heap := s.heap.push o } ∧ Le W s.heap (W.new s.heap.objs.size) (s.heap.push o) ∧ Kp W s.heap (s.heap.push o) := by
  have hn := at_.n
  have ha : ∀ o, s.heap.get? s.heap.objs.size ≠ some o := fun o e => Nat.lt_irrefl _ (Heap.lt_size e)
  have kk : ∀ b ob, s.heap.get? b = some ob → (s.heap.push o).get? b = some ob := fun _ _ e => Heap.get?_push_of_some _ e
  refine ⟨⟨?_, by show W.n + 1 = sh.n + 1; rw [hn], at_.tk⟩, Le.new ha at_.rep.fresh kk, Kp.grow kk⟩
  rw [← hn]
  exact Rep.new at_.rep ha kk (Heap.get?_push_size _ hf) ht nf
theorem new_ρ (W : Wd) (a : Addr) : (W.new a).ρ W.n = a := if_pos rfl
theorem emptyD_out {o : Option T} (h : emptyD o = true) : o = some (.sd [] []) := by
  cases o with
  | none => exact Bool.noConfusion h
  | some t => cases t with
    | sd ks vs => cases ks with
      | nil => cases vs with
        | nil => rfl
        | cons _ _ => exact Bool.noConfusion h
      | cons _ _ => exact Bool.noConfusion h
    | _ => exact Bool.noConfusion h
theorem dict_done {k : Nat} {ks : List Str} {x : Addr} {W₀ : Wd} {h₀ : Heap} (hx : W₀.ρ k = x) (hk : k < W₀.n) (hsm : (x == sysModules) = false) (le1 : Le W s.heap W₀ h₀) (kp1 : Kp W s.heap h₀) (q : Af G (V G) W s K Q)
    {ds : List D} {sh₁ : Sh} {W₁ : Wd} {h₁ : Heap} {t₁ : Nat} (k₁ : match emptyD (sh₁.tr.lookup k) with | true => K (.ref k) { sh₁ with tr := setT sh₁.tr k (.sd ks ds) } | false => False)
    (l₁ : Le W₀ h₀ W₁ h₁) (p₁ : Kp W₀ h₀ h₁) (r₁ : Rep G W₁ sh₁.tr h₁) (n₁ : W₁.n = sh₁.n) (ht₁ : s.toks ≤ t₁) {kvs : List (Str × Value)} (ek : kvs.map (·.1) = ks) (ev : VL G W₁ h₁ ds (kvs.map (·.2))) :
    h₁.DictOf (sK G) x [] ∧ ∀ h', h'.DictOf (sK G) x kvs → Heap.SameBut x h₁ h' → ∀ t', t₁ ≤ t' → Q (.ref x) { s with heap := h', toks := t' } := by
  obtain ⟨e, k₁⟩ := trueE k₁
  have e := emptyD_out e
  have tk := r₁.trk _ _ e
  obtain ⟨q1, q2, kvs0, sm, hd, hm, _⟩ := tk
  have ρ1 : W₁.ρ k = x := (l₁.ρ k hk).trans hx
  obtain rfl : kvs0 = [] := List.map_eq_nil_iff.mp hm
  rw [ρ1] at hd
  refine ⟨hd, fun h' hd' sb t' ht' => ?_⟩
  obtain ⟨ob, _, _, hob, _⟩ := id hd'
  have own : W₁.own x = some (.t k) := ρ1 ▸ q2
  obtain ⟨R', le', kp'⟩ := r₁.upd (t' := T.sd ks ds) e (.inl own) sb hob fun le => ⟨kvs, ρ1.symm ▸ hsm, ρ1.symm ▸ hd', ek, VL.mono le ev⟩
  exact q (.ref k) { sh₁ with tr := setT sh₁.tr k (.sd ks ds) } W₁ h' _ t' k₁ (le1.trans (l₁.trans le')) (Kp.trans le1 kp1 (Kp.trans l₁ p₁ kp')) R' n₁ ⟨q1, congrArg Value.ref ρ1.symm⟩ (Nat.le_trans ht₁ ht')
theorem dict_step (S : SE G r n) {keys : List (Option Expr)} {vals : List Expr} {pos : Pos} (h : dictE r keys vals ρ sh K) (st : S1 G W sh A n env ρ s) (q : Af G (V G) W s K Q) :
    wpAny (model G.prog G.w) A (eval (.Dict keys vals pos) env) Q E s := by
  obtain ⟨ks, ek, h⟩ := someE h
  obtain ⟨hc, h⟩ := trueE h
  obtain ⟨hc, hns⟩ := Bool.and_eq_true_iff.mp hc
  obtain ⟨hc, hlen⟩ := Bool.and_eq_true_iff.mp hc
  obtain ⟨hnd, hl⟩ := Bool.and_eq_true_iff.mp hc
  have hl := of_decide_eq_true hl
  have hsm : (s.heap.objs.size == sysModules) = false := st.at_.rep.notSM
  have hn := st.at_.n
  have hv : (W.new s.heap.objs.size).ρ sh.n = s.heap.objs.size := hn ▸ new_ρ W _
  have hk : sh.n < (W.new s.heap.objs.size).n := hn ▸ Nat.lt_succ_self W.n
  have tr0 : TR G (W.new s.heap.objs.size) (s.heap.push { cls := .type "dict", data := .dict #[] }) W.n (.sd [] []) := by
    show TRa G _ _ _ (if W.n = W.n then _ else _) _
    rw [if_pos rfl]
    exact ⟨[], hsm, Heap.DictOf.new .., rfl, trivial⟩
  obtain ⟨at1, le1, kp1⟩ := st.at_.newT (o := { cls := .type "dict", data := .dict #[] }) rfl tr0
  by_cases h0 : keys = []
  · subst h0
    obtain rfl : vals = [] := List.eq_nil_of_length_eq_zero hl.symm
    cases ek
    obtain ⟨d1, d2⟩ := dict_done hv hk hsm le1 kp1 q h Le.refl Kp.refl at1.rep at1.n (Nat.le_refl _) (kvs := []) rfl trivial
    exact wpAny_Dict_empty (d2 _ d1 (Heap.SameBut.refl ..) s.toks (Nat.le_refl _))
  · have st1 : S1 G (W.new s.heap.objs.size) { sh with tr := (sh.n, .sd [] []) :: sh.tr, n := sh.n + 1 } A n env ρ { s with heap := s.heap.push { cls := .type "dict", data := .dict #[] } } := ⟨st.rm.mono le1 kp1, at1, st.is.mono le1 kp1⟩
    refine wpAny_Dict_walk (knd := sK G) (keyStrs_some ek) hl h0 (of_decide_eq_true hlen) (pairs_ok S ek hl h st1 fun ds sh₁ W₁ h₁ prs t₁ k₁ l₁ p₁ r₁ n₁ hv₁ ht₁ => ?_)
    obtain ⟨kvs, c1, c2, c3⟩ := hv₁
    obtain ⟨d1, d2⟩ := dict_done hv hk hsm le1 kp1 q k₁ l₁ p₁ r₁ n₁ ht₁ c2 c3
    refine ⟨kvs, c1, d1, fun h' hd' sb => ?_⟩
    rw [merged_nil_of_nodup _ (by rw [c2]; exact nodup_of hnd)] at hd'
    exact d2 h' hd' sb _ (Nat.le_add_right _ _)
end
theorem stepE_sound {cf : Cf} {G : Glo} {r : Ev} {n : Nat} {L : Ev → Expr → Loc → Sh → KE → Prop} (ok : GOk cf G) (S : Sound G r n)
    (hL : ∀ (e : Expr) (ρ : Loc) (sh : Sh) (K : KE) (A : Around) (env : Env) (W : Wd) (s : Shared) (Q : Value → Shared → Prop) (E : Value → Shared → Prop),
      L r e ρ sh K → S1 G W sh A n env ρ s → Af G (V G) W s K Q → wpAny (model G.prog G.w) A (eval e env) Q E s) :
    ∀ (e : Expr) (ρ : Loc) (sh : Sh) (K : KE) (A : Around) (env : Env) (W : Wd) (s : Shared) (Q : Value → Shared → Prop) (E : Value → Shared → Prop),
      stepE cf L r e ρ sh K → S1 G W sh A n env ρ s → Af G (V G) W s K Q → wpAny (model G.prog G.w) A (eval e env) Q E s := by
  intro e ρ sh K A env W s Q E h st q
  cases e with
  | Constant c k p => exact const_ok h st.at_ q
  | Name x p => exact name_ok ok h st q
  | BinOp l op rr p => exact bin_step S.E h st q
  | UnaryOp op x p =>
    cases op with
    | USub => exact neg_step S.E h st q
    | _ => exact False.elim h
  | IfExp t b o p => exact ifexp_step S.E S.T h st q
  | BoolOp op vs p => exact bool_step S.E h st q
  | Compare l ops cs p =>
    obtain ⟨op, e1, h⟩ := someE h
    obtain ⟨c, e2, h⟩ := someE h
    obtain rfl := one_out e1
    obtain rfl := one_out e2
    obtain ⟨hs, h⟩ := falseE h
    exact cmp_step S.E hs h st q
  | Call f args kws pos => cases kws with
    | cons _ _ => exact False.elim h
    | nil => cases f with
      | Attribute o name apos => cases lkE h with
        | s yz ha h =>
          obtain ⟨y, z⟩ := yz
          obtain ⟨k1, p1, k2, p2, rfl⟩ := replV_out ha
          obtain ⟨hg, h⟩ := trueE h
          exact replace_step S.E hg h st q
        | n _ h =>
          obtain ⟨hg, h⟩ := falseE h
          exact meth_step S.E S.C hg h st q
      | Name x p =>
        obtain ⟨ns, h⟩ := trueE h
        exact call_step ok S.E S.C ns h st q
      | _ => exact False.elim h
  | Attribute o a p =>
    obtain ⟨hc, h⟩ := falseE h
    exact attr_step ok S.E hc h st q
  | Subscript o i p => cases i with
    | Slice l u s p => cases s with
      | none => exact slice_step S.E h st q
      | some _ => exact False.elim h
    | _ => exact sub_step S.E h st q
  | List es p =>
    obtain ⟨ns, h⟩ := trueE h
    exact list_step S.E ns h st q
  | Tuple es k p =>
    obtain ⟨ns, h⟩ := trueE h
    exact tup_step S.E ns h st q
  | Dict ks vs p => exact dict_step S.E h st q
  | ListComp a b c d => exact hL _ _ _ _ _ _ _ _ _ _ h st q
  | _ => exact False.elim h
end Mine
namespace Mine
noncomputable def fNat (n : Nat) (K : Nat → Prop) : Prop := match n with
  | 0 => K 0
  | m + 1 => K (m + 1)
noncomputable def fInt (i : Int) (K : Int → Prop) : Prop := match i with
  | .ofNat n => fNat n fun n => K (.ofNat n)
  | .negSucc n => fNat n fun n => K (.negSucc n)
noncomputable def fList : List Nat → (List Nat → Prop) → Prop
  | [], K => K []
  | x :: r, K => fNat x fun x => fList r fun r => K (x :: r)
noncomputable def fStr (x : Str) (K : Str → Prop) : Prop := fList x.cps.toList fun l => K ⟨⟨l⟩⟩
noncomputable def fD1 (d : D) (K : D → Prop) : Prop := match d with
  | .int i => fInt i fun i => K (.int i)
  | .str x => fStr x fun x => K (.str x)
  | .bool b => (match b with | true => K (.bool true) | false => K (.bool false))
  | d => K d
noncomputable def fDs : List D → (List D → Prop) → Prop
  | [], K => K []
  | d :: r, K => fD1 d fun d => fDs r fun r => K (d :: r)
noncomputable def fD (d : D) (K : D → Prop) : Prop := match d with
  | .int i => fInt i fun i => K (.int i)
  | .str x => fStr x fun x => K (.str x)
  | .bool b => (match b with | true => K (.bool true) | false => K (.bool false))
  | .lst xs => fDs xs fun xs => K (.lst xs)
  | .tup xs => fDs xs fun xs => K (.tup xs)
  | d => K d
noncomputable def fStrs : List Str → (List Str → Prop) → Prop
  | [], K => K []
  | d :: r, K => fStr d fun d => fStrs r fun r => K (d :: r)
noncomputable def fStrss : List (List Str) → (List (List Str) → Prop) → Prop
  | [], K => K []
  | d :: r, K => fStrs d fun d => fStrss r fun r => K (d :: r)
noncomputable def fT (t : T) (K : T → Prop) : Prop := match t with
  | .lst xs => fDs xs fun xs => K (.lst xs)
  | .sd ks vs => fStrs ks fun ks => fDs vs fun vs => K (.sd ks vs)
  | .pd ks vs => fStrss ks fun ks => fDs vs fun vs => K (.pd ks vs)
  | .obj C fs vs => fDs vs fun vs => K (.obj C fs vs)
  | t => K t
noncomputable def fTr : List (Nat × T) → (List (Nat × T) → Prop) → Prop
  | [], K => K []
  | (k, t) :: r, K => fNat k fun k => fT t fun t => fTr r fun r => K ((k, t) :: r)
theorem fNat_eq {n : Nat} {K} : fNat n K = K n := by cases n <;> rfl
theorem fInt_eq {n : Int} {K} : fInt n K = K n := by cases n with
  | ofNat n => exact (fNat_eq (n := n) (K := fun n => K (.ofNat n)))
  | negSucc n => exact (fNat_eq (n := n) (K := fun n => K (.negSucc n)))
theorem fList_eq {l : List Nat} : ∀ {K}, fList l K = K l := by
  induction l with
  | nil => exact rfl
  | cons x r ih => intro K; exact (fNat_eq (n := x) (K := fun x => fList r fun r => K (x :: r))).trans ih
theorem fStr_eq {x : Str} {K} : fStr x K = K x := fList_eq (l := x.cps.toList) (K := fun l => K ⟨⟨l⟩⟩)
theorem fD1_eq {d : D} {K} : fD1 d K = K d := by
  cases d with
  | int i => exact fInt_eq (K := fun i => K (.int i))
  | str x => exact fStr_eq (K := fun x => K (.str x))
  | bool b => cases b <;> rfl
  | _ => rfl
theorem fDs_eq {l : List D} : ∀ {K}, fDs l K = K l := by
  induction l with
  | nil => exact rfl
  | cons x r ih => intro K; exact (fD1_eq (d := x) (K := fun d => fDs r fun r => K (d :: r))).trans ih
theorem fD_eq {d : D} {K} : fD d K = K d := by
  cases d with
  | int i => exact fInt_eq (K := fun i => K (.int i))
  | str x => exact fStr_eq (K := fun x => K (.str x))
  | bool b => cases b <;> rfl
  | lst xs => exact fDs_eq (K := fun x => K (.lst x))
  | tup xs => exact fDs_eq (K := fun x => K (.tup x))
  | _ => rfl
theorem fStrs_eq {l : List Str} : ∀ {K}, fStrs l K = K l := by
  induction l with
  | nil => exact rfl
  | cons x r ih => intro K; exact (fStr_eq (x := x) (K := fun d => fStrs r fun r => K (d :: r))).trans ih
theorem fStrss_eq {l : List (List Str)} : ∀ {K}, fStrss l K = K l := by
  induction l with
  | nil => exact rfl
  | cons x r ih => intro K; exact (fStrs_eq (l := x) (K := fun d => fStrss r fun r => K (d :: r))).trans ih
theorem fT_eq {t : T} {K} : fT t K = K t := by
  cases t with
  | lst xs => exact fDs_eq (K := fun x => K (.lst x))
  | sd ks vs => exact (fStrs_eq (l := ks) (K := fun ks => fDs vs fun vs => K (.sd ks vs))).trans (fDs_eq (K := fun x => K (.sd ks x)))
  | pd ks vs => exact (fStrss_eq (l := ks) (K := fun ks => fDs vs fun vs => K (.pd ks vs))).trans (fDs_eq (K := fun x => K (.pd ks x)))
  | obj C fs vs => exact fDs_eq (K := fun x => K (.obj C fs x))
  | _ => rfl
theorem fTr_eq {l : List (Nat × T)} : ∀ {K}, fTr l K = K l := by
  induction l with
  | nil => exact rfl
  | cons p r ih => intro K; exact ((fNat_eq (n := p.1) (K := fun k => fT p.2 fun t => fTr r fun r => K ((k, t) :: r))).trans (fT_eq (t := p.2) (K := fun t => fTr r fun r => K ((p.1, t) :: r)))).trans ih
noncomputable def nrmD (d : D) (sh : Sh) (K : D → Prop) : Prop := match sh.sym with
  | true => K d
  | false => fD d K
theorem nrmD_eq {d : D} {sh : Sh} {K} : nrmD d sh K = K d := by
  obtain ⟨tr, n, sym, os⟩ := sh
  cases sym
  · exact fD_eq
  · rfl
noncomputable def nrmS (sh : Sh) (K : Sh → Prop) : Prop := match sh.sym with
  | true => K sh
  | false => fTr sh.tr fun tr => fNat sh.n fun n => K { tr := tr, n := n, sym := false, os := sh.os }
theorem nrmS_eq {sh : Sh} {K} : nrmS sh K = K sh := by
  obtain ⟨tr, n, sym, os⟩ := sh
  cases sym
  · exact (fTr_eq (l := tr) (K := fun tr => fNat n fun n => K { tr := tr, n := n, sym := false, os := os })).trans fNat_eq
  · rfl
noncomputable def cmpT1 (r : Ev) (l : Expr) (op : CmpOp) (c : Expr) (ρ : Loc) (sh : Sh) (K : Bool → Sh → Prop) : Prop := match isSet c with
  | true => False
  | false => r.E l ρ sh fun a sh => r.E c ρ sh fun b sh => cmpD op a b sh fun d sh => boolK d fun c => K c sh
noncomputable def cmpT2 (r : Ev) (l : Expr) (o1 o2 : CmpOp) (c1 c2 : Expr) (ρ : Loc) (sh : Sh) (K : Bool → Sh → Prop) : Prop := match isSet c2 with
  | true => False
  | false => r.E l ρ sh fun a sh => r.E c1 ρ sh fun b sh => cmpD o1 a b sh fun d sh => boolK d fun c => match c with
    | false => K false sh
    | true => r.E c2 ρ sh fun c sh => cmpD o2 b c sh fun d sh => boolK d fun c => K c sh
noncomputable def two {α : Type} (l : List α) : Option (α × α) := twoL (fun a b => some (a, b)) l
theorem two_out {α : Type} {l : List α} {a b : α} (h : two l = some (a, b)) : l = [a, b] := by
  obtain ⟨a, b, rfl, h⟩ := twoL_out h
  cases h; rfl
noncomputable def cmpT (r : Ev) (l : Expr) (ops : List CmpOp) (cs : List Expr) (ρ : Loc) (sh : Sh) (K : Bool → Sh → Prop) : Prop :=
  orO (one ops) (fun o => withO (one cs) fun c => cmpT1 r l o c ρ sh K) (withO (two ops) fun o => withO (two cs) fun c => cmpT2 r l o.1 o.2 c.1 c.2 ρ sh K)
noncomputable def stepT (r : Ev) (e : Expr) (ρ : Loc) (sh : Sh) (K : Bool → Sh → Prop) : Prop := match e with
  | .UnaryOp op x _ => (match op with
    | .Not => r.T x ρ sh fun c sh => K (!c) sh
    | _ => False)
  | .BoolOp op vs _ => allT r op vs ρ sh K
  | .Compare l ops cs _ => cmpT r l ops cs ρ sh K
  | .Name x p => r.E (.Name x p) ρ sh fun d sh => boolK d fun c => K c sh
  | .Call f a k p => r.E (.Call f a k p) ρ sh fun d sh => boolK d fun c => K c sh
  | _ => False
section
variable {cf : Cf} {G : Glo} {r : Ev} {A : Around} {n : Nat} {E : Value → Shared → Prop} {W : Wd} {sh : Sh} {s : Shared} {env : Env} {ρ : Loc} {K : Bool → Sh → Prop} {Q : Bool → Shared → Prop}
theorem truthy_end {W : Wd} {s : Shared} {sh : Sh} {d : D} {v : Value} {K : Bool → Sh → Prop} {Q : Bool → Shared → Prop} (at_ : At G W sh s) (q : Af G RB W s K Q) (k : boolK d fun c => K c sh) (hv : V G W s.heap d v) : wpAny (model G.prog G.w) A (truthy v) Q E s := by
  obtain ⟨c, rfl, k⟩ := boolK_out k
  cases hv
  exact wpAny_truthy_bool (q.now at_ k rfl)
theorem all_step (S : ST G r n) {op : BoolOp} {pos : Pos} {whole : Sem Value} {vs : List Expr} : ∀ {sh : Sh} {W : Wd} {s : Shared}, allT r op vs ρ sh K → S1 G W sh A n env ρ s → Af G RB W s K Q →
    wpAny (model G.prog G.w) A (isTrue (.BoolOp op vs pos) env whole) Q E s := by
  induction vs with
  | nil =>
    intro sh W s h st q
    cases op with
    | And => exact isTrue_and_nil (q.now st.at_ h rfl)
    | Or => exact isTrue_or_nil (q.now st.at_ h rfl)
  | cons e es ih =>
    intro sh W s h st q
    cases op with
    | And =>
      refine isTrue_and (goT S h st fun c sh₁ W₁ h₁ t₁ k₁ st₁ l₁ p₁ ht₁ => ?_)
      cases c with
      | false => exact (q.step l₁ p₁ ht₁).now st₁.at_ k₁ rfl
      | true => exact ih k₁ st₁ (q.step l₁ p₁ ht₁)
    | Or =>
      refine isTrue_or (goT S h st fun c sh₁ W₁ h₁ t₁ k₁ st₁ l₁ p₁ ht₁ => ?_)
      cases c with
      | true => exact (q.step l₁ p₁ ht₁).now st₁.at_ k₁ rfl
      | false => exact ih k₁ st₁ (q.step l₁ p₁ ht₁)
theorem cmp_then {W : Wd} {s : Shared} {sh : Sh} {op : CmpOp} {a b : D} {x y : Value} {K : D → Sh → Prop} {Q : Value → Shared → Prop} (h : cmpD op a b sh K) (st : S1 G W sh A n env ρ s) (hx : V G W s.heap a x) (hy : V G W s.heap b y)
    (k : ∀ d sh' W' h' v tk, K d sh' → S1 G W' sh' A n env ρ { s with heap := h', toks := tk } → Le W s.heap W' h' → Kp W s.heap h' → V G W' h' d v → s.toks ≤ tk → Q v { s with heap := h', toks := tk }) :
    wpAny (model G.prog G.w) A (compareOp op x y) Q E s :=
  cmp_ok h st.at_ hx hy st.rm.u70 fun d sh' W' h' v tk kd l kp rp nn hv ht => k d sh' W' h' v tk kd (st.step l kp rp nn ht) l kp hv ht
theorem cmpT1_ok (S : Sound G r n) {l c : Expr} {op : CmpOp} {p : Pos} (h : cmpT1 r l op c ρ sh K) (st : S1 G W sh A n env ρ s) (q : Af G RB W s K Q) : wpAny (model G.prog G.w) A (isTrue (.Compare l [op] [c] p) env (eval (.Compare l [op] [c] p) env)) Q E s := by
  obtain ⟨hs, h⟩ := falseE h
  exact wpAny_isTrue_Compare1 (go S.E h st fun a sh₁ W₁ h₁ v₁ t₁ k₁ st₁ l₁ p₁ hv₁ ht₁ => go S.E k₁ st₁ fun b sh₂ W₂ h₂ v₂ t₂ k₂ st₂ l₂ p₂ hv₂ ht₂ =>
    cmp_then k₂ st₂ (V.mono l₂ hv₁) hv₂ fun d sh₃ W₃ h₃ v₃ t₃ k₃ st₃ l₃ p₃ hv₃ ht₃ => truthy_end st₃.at_ (((q.step l₁ p₁ ht₁).step l₂ p₂ ht₂).step l₃ p₃ ht₃) k₃ hv₃) (marks_of hs)
theorem cmpT2_ok (S : Sound G r n) {l c1 c2 : Expr} {o1 o2 : CmpOp} {p : Pos} (h : cmpT2 r l o1 o2 c1 c2 ρ sh K) (st : S1 G W sh A n env ρ s) (q : Af G RB W s K Q) : wpAny (model G.prog G.w) A (isTrue (.Compare l [o1, o2] [c1, c2] p) env (eval (.Compare l [o1, o2] [c1, c2] p) env)) Q E s := by
  obtain ⟨hs, h⟩ := falseE h
  refine isTrue_chain (rs := []) (ops := []) (go S.E h st fun a sh₁ W₁ h₁ v₁ t₁ k₁ st₁ l₁ p₁ hv₁ ht₁ => test_link (go S.E k₁ st₁ fun b sh₂ W₂ h₂ v₂ t₂ k₂ st₂ l₂ p₂ hv₂ ht₂ =>
    cmp_then k₂ st₂ (V.mono l₂ hv₁) hv₂ fun d sh₃ W₃ h₃ v₃ t₃ k₃ st₃ l₃ p₃ hv₃ ht₃ => ?_)) (marks_of hs)
  have q' := ((q.step l₁ p₁ ht₁).step l₂ p₂ ht₂).step l₃ p₃ ht₃
  obtain ⟨c, rfl, k₃⟩ := boolK_out k₃
  cases hv₃
  refine wpAny_truthy_bool ?_
  cases c with
  | false => exact q'.now st₃.at_ k₃ rfl
  | true => exact test_last (go S.E k₃ st₃ fun c sh₄ W₄ h₄ v₄ t₄ k₄ st₄ l₄ p₄ hv₄ ht₄ => cmp_then k₄ st₄ (V.mono l₄ (V.mono l₃ hv₂)) hv₄ fun d sh₅ W₅ h₅ v₅ t₅ k₅ st₅ l₅ p₅ hv₅ ht₅ =>
      truthy_end st₅.at_ ((q'.step l₄ p₄ ht₄).step l₅ p₅ ht₅) k₅ hv₅)
theorem cmpT_ok (S : Sound G r n) {l : Expr} {ops : List CmpOp} {cs : List Expr} {p : Pos} (h : cmpT r l ops cs ρ sh K) (st : S1 G W sh A n env ρ s) (q : Af G RB W s K Q) : wpAny (model G.prog G.w) A (isTrue (.Compare l ops cs p) env (eval (.Compare l ops cs p) env)) Q E s := by
  cases lkE h with
  | s o e h =>
    obtain ⟨c, e', h⟩ := someE h
    obtain rfl := one_out e
    obtain rfl := one_out e'
    exact cmpT1_ok S h st q
  | n _ h =>
    obtain ⟨o, e, h⟩ := someE h
    obtain ⟨c, e', h⟩ := someE h
    obtain rfl := two_out e
    obtain rfl := two_out e'
    exact cmpT2_ok S h st q
theorem stepT_sound (S : Sound G r n) {e : Expr} (h : stepT r e ρ sh K) (st : S1 G W sh A n env ρ s) (q : Af G RB W s K Q) : wpAny (model G.prog G.w) A (isTrue e env (eval e env)) Q E s := by
  cases e with
  | UnaryOp op x p =>
    cases op with
    | Not => exact isTrue_not (goT S.T h st fun c sh₁ W₁ h₁ t₁ k₁ st₁ l₁ p₁ ht₁ => (q.step l₁ p₁ ht₁).now st₁.at_ k₁ rfl)
    | _ => exact False.elim h
  | BoolOp op vs p => exact all_step S.T h st q
  | Compare l ops cs p => exact cmpT_ok S h st q
  | Name x p => exact isTrue_plain (go S.E h st fun d sh₁ W₁ h₁ v₁ t₁ k₁ st₁ l₁ p₁ hv₁ ht₁ => truthy_end st₁.at_ (q.step l₁ p₁ ht₁) k₁ hv₁) rfl
  | Call f a k p => exact isTrue_plain (go S.E h st fun d sh₁ W₁ h₁ v₁ t₁ k₁ st₁ l₁ p₁ hv₁ ht₁ => truthy_end st₁.at_ (q.step l₁ p₁ ht₁) k₁ hv₁) rfl
  | _ => exact False.elim h
end
end Mine
namespace Mine
noncomputable def repl {κ : Type} [DecidableEq κ] : List κ → List D → κ → D → List D
  | [], _, _, _ => []
  | x :: ks, ds, k, d => match ds with
    | [] => []
    | y :: ds => (match decide (x = k) with | true => d | false => y) :: repl ks ds k d
noncomputable def anyK {κ : Type} [DecidableEq κ] : List κ → κ → Bool
  | [], _ => false
  | x :: ks, k => match decide (x = k) with | true => true | false => anyK ks k
noncomputable def stK {κ : Type} [DecidableEq κ] (ks : List κ) (k : κ) : List κ := match anyK ks k with | true => ks | false => ks ++ [k]
noncomputable def stD {κ : Type} [DecidableEq κ] (ks : List κ) (ds : List D) (k : κ) (d : D) : List D := match anyK ks k with | true => repl ks ds k d | false => ds ++ [d]
section
variable {G : Glo} {W : Wd} {h : Heap}
theorem anyK_stored {κ : Type} [DecidableEq κ] {kvs : List (κ × Value)} {k : κ} : (kvs.any fun kv => decide (kv.1 = k)) = anyK (kvs.map (·.1)) k := by
  induction kvs with
  | nil => rfl
  | cons p r ih =>
    show (decide (p.1 = k) || _) = match decide (p.1 = k) with | true => true | false => anyK (r.map fun x : κ × Value => x.1) k
    rw [ih]
    cases decide (p.1 = k) <;> rfl
theorem anyK_atKey {kvs : List (List Str × Addr × Value)} {k : List Str} : (atKey kvs k).isSome = anyK (kvs.map (·.1)) k := by
  induction kvs with
  | nil => rfl
  | cons p r ih =>
    rw [atKey_cons]
    show _ = match decide (p.1 = k) with | true => true | false => anyK (r.map fun x : List Str × Addr × Value => x.1) k
    by_cases q : p.1 = k
    · rw [if_pos q, decide_eq_true q]; rfl
    · rw [if_neg q, decide_eq_false q]; exact ih
theorem VL.repl {α κ : Type} [DecidableEq κ] {f : α → κ} {g : α → Value} {u : α → α} {k : κ} {d : D} {v : Value} (hu : ∀ x, g (u x) = if f x = k then v else g x) (hv : V G W h d v) {xs : List α} : ∀ {ds : List D}, VL G W h ds (xs.map g) → VL G W h (repl (xs.map f) ds k d) ((xs.map u).map g) := by
  induction xs with
  | nil => exact fun _ => trivial
  | cons x xs ih => intro ds e; cases ds with
    | nil => exact False.elim e
    | cons y ds =>
      refine ⟨?_, ih e.2⟩
      show V G W h (match decide (f x = k) with | true => d | false => y) (g (u x))
      rw [hu]
      by_cases q : f x = k
      · rw [if_pos q, decide_eq_true q]; exact hv
      · rw [if_neg q, decide_eq_false q]; exact e.1
theorem stored_rel {κ : Type} [DecidableEq κ] {k : κ} {d : D} {v : Value} {kvs : List (κ × Value)} {ds : List D} (hv : V G W h d v) (e : VL G W h ds (kvs.map (·.2))) :
    (stored kvs k v).map (·.1) = stK (kvs.map (·.1)) k ∧ VL G W h (stD (kvs.map (·.1)) ds k d) ((stored kvs k v).map (·.2)) := by
  unfold stored stK stD
  rw [anyK_stored]
  cases anyK (kvs.map (·.1)) k with
  | true =>
    refine ⟨?_, VL.repl (f := fun x : κ × Value => x.1) (g := fun x => x.2) (u := fun kv => if kv.1 = k then (kv.1, v) else kv) (fun x => by by_cases q : x.1 = k <;> simp [q]) hv e⟩
    rw [if_pos rfl, List.map_map]
    refine List.map_congr_left fun kv _ => ?_
    show (if kv.1 = k then (kv.1, v) else kv).1 = kv.1
    by_cases q : kv.1 = k <;> simp [q]
  | false =>
    rw [if_neg (by decide)]
    refine ⟨by rw [List.map_append]; rfl, ?_⟩
    rw [List.map_append]
    exact VL.append e (ds' := [d]) (vs' := [v]) ⟨hv, trivial⟩
theorem storedH_rel {k : List Str} {a : Addr} {d : D} {v : Value} {kvs : List (List Str × Addr × Value)} {ds : List D} (hv : V G W h d v) (e : VL G W h ds (kvs.map (·.2.2))) (ow : ∀ x ∈ kvs, KeyOk W h x.2.1) (oa : KeyOk W h a) :
    (storedH kvs k a v).map (·.1) = stK (kvs.map (·.1)) k ∧ VL G W h (stD (kvs.map (·.1)) ds k d) ((storedH kvs k a v).map (·.2.2)) ∧ ∀ x ∈ storedH kvs k a v, KeyOk W h x.2.1 := by
  unfold storedH stK stD
  rw [anyK_atKey]
  cases anyK (kvs.map (·.1)) k with
  | true =>
    rw [if_pos rfl]
    refine ⟨?_, VL.repl (f := fun x : List Str × Addr × Value => x.1) (g := fun x => x.2.2) (u := putAt k v) (fun x => by unfold putAt; by_cases q : x.1 = k <;> simp [q]) hv e, fun x hx => ?_⟩
    · rw [List.map_map]
      refine List.map_congr_left fun kv _ => ?_
      show (putAt k v kv).1 = kv.1
      unfold putAt
      by_cases q : kv.1 = k <;> simp [q]
    · obtain ⟨y, hy, rfl⟩ := List.mem_map.mp hx
      have : (putAt k v y).2.1 = y.2.1 := by unfold putAt; by_cases q : y.1 = k <;> simp [q]
      rw [this]; exact ow y hy
  | false =>
    rw [if_neg (by decide)]
    refine ⟨by rw [List.map_append]; rfl, ?_, fun x hx => ?_⟩
    · rw [List.map_append]
      exact VL.append e (ds' := [d]) (vs' := [v]) ⟨hv, trivial⟩
    · rcases List.mem_append.mp hx with hx | hx
      · exact ow x hx
      · cases List.mem_singleton.mp hx; exact oa
section
variable {k f : Str} {v : Value}
noncomputable abbrev updV (k : Str) (v : Value) (kv : Str × Value) : Str × Value := if kv.1 = k then (kv.1, v) else kv
theorem updV_fst (p : Str × Value) : (updV k v p).1 = p.1 := by
  show (if p.1 = k then (p.1, v) else p).1 = p.1
  by_cases q : p.1 = k <;> simp [q]
theorem valueAt_upd (hf : f ≠ k) {l : List (Str × Value)} : valueAt (l.map (updV k v)) f = valueAt l f := by
  induction l with
  | nil => rfl
  | cons p l ih =>
    refine (valueAt_cons (x := (updV k v p).1) (v := (updV k v p).2)).trans (Eq.trans ?_ (valueAt_cons (x := p.1) (v := p.2)).symm)
    rw [updV_fst, ih]
    by_cases q : p.1 = f
    · rw [if_pos q, if_pos q, updV, if_neg fun z => hf (q.symm.trans z)]
    · rw [if_neg q, if_neg q]
theorem valueAt_updK {l : List (Str × Value)} : (l.any fun kv => decide (kv.1 = k)) = true → valueAt (l.map (updV k v)) k = some v := by
  induction l with
  | nil => intro h; cases h
  | cons p l ih =>
    intro h
    refine (valueAt_cons (x := (updV k v p).1) (v := (updV k v p).2)).trans ?_
    rw [updV_fst]
    by_cases q : p.1 = k
    · rw [if_pos q, updV, if_pos q]
    · rw [if_neg q]
      refine ih ?_
      rw [List.any_cons, decide_eq_false q] at h
      exact h
theorem valueAt_app {l : List (Str × Value)} : valueAt (l ++ [(k, v)]) f = match valueAt l f with | some x => some x | Option.none => if k = f then some v else Option.none := by
  induction l with
  | nil => exact valueAt_cons
  | cons p l ih =>
    have e : valueAt (p :: l ++ [(k, v)]) f = if p.1 = f then some p.2 else valueAt (l ++ [(k, v)]) f := valueAt_cons
    rw [e, ih, show valueAt (p :: l) f = if p.1 = f then some p.2 else valueAt l f from valueAt_cons]
    by_cases q : p.1 = f
    · rw [if_pos q, if_pos q]
    · rw [if_neg q, if_neg q]
theorem valueAt_stored {kvs : List (Str × Value)} (f : Str) : valueAt (stored kvs k v) f = if f = k then some v else valueAt kvs f := by
  unfold stored
  by_cases hc : (kvs.any fun kv => decide (kv.1 = k)) = true
  · rw [if_pos hc]
    by_cases hf : f = k
    · subst hf; rw [if_pos rfl]; exact valueAt_updK hc
    · rw [if_neg hf]; exact valueAt_upd hf
  · rw [if_neg hc, valueAt_app]
    by_cases hf : f = k
    · subst hf
      have : valueAt kvs f = Option.none := Option.map_eq_none_iff.mpr (List.find?_eq_none.mpr fun p hp e => hc (List.any_eq_true.mpr ⟨p, hp, e⟩))
      rw [this, if_pos rfl]
    · rw [if_neg hf, if_neg (Ne.symm hf)]
      cases valueAt kvs f <;> rfl
end
end
theorem Rep.updF {G : Glo} {W : Wd} {tr} {h h' : Heap} (R : Rep G W tr h) {a : Addr} (ha : W.own a = some .f) (sb : Heap.SameBut a h h') {ob : Obj} (hob : h'.get? a = some ob) : Rep G W tr h' ∧ Le W h W h' := by
  have l : Le W h W h' := ⟨fun b o p q => ⟨p, (sb.2 b (fun e => by rw [e, ha] at p; cases p)).trans q⟩, fun _ p => p, Nat.le_refl _, fun _ _ => rfl, fun b o p q => ⟨p, (sb.2 b (fun e => by rw [e, ha] at p; cases p)).trans q⟩⟩
  refine ⟨R.chg l.v (fun b w q => ?_) fun j u q => .inl ⟨q, fun b z => ⟨rfl, fun o y => (sb.2 b fun e => ?_).trans y⟩⟩, l⟩
  · by_cases hb : b = a
    · exact ⟨ob, hb ▸ hob⟩
    · obtain ⟨o, z⟩ := R.ownd b w q
      exact ⟨o, (sb.2 b hb).trans z⟩
  · subst e
    rw [ha] at z
    cases z with
    | inl z => cases z
    | inr z => cases z
theorem Is.cellNe {G W h env ρ} (x : Is G W h env ρ) {y : Str} {c : Addr} (e : env.cells.lookup y = some c) : c ≠ env.locals := fun q => by
  obtain ⟨v, o, ho, hd⟩ := (x.cown y c e).2
  obtain ⟨m, ⟨o', es, ep, ho', hd', _⟩, _⟩ := x.ns
  rw [q, ho'] at ho; cases ho
  rw [hd'] at hd; cases hd
theorem Rm.stmt2 {G W W' h h' A n env ρ} (x : Rm W h A n) (i : Is G W h env ρ) (l : Le W h W' h') (k : KpB env W h h') {m : Str → Option Value} (hn : h'.Ns env.locals m) : Rm W' h' A n := by
  obtain ⟨fl, a, b⟩ := x.fr
  refine ⟨x.depth, x.units, x.hand, fl, a, fun e he => ?_⟩
  obtain ⟨c, L, d, o, ob, es, ep, g, hd⟩ := b e he
  refine ⟨c, L, d, l.fr _ o, ?_⟩
  by_cases hL : L = env.locals
  · obtain ⟨o', es', ep', ho', hd', _⟩ := hn
    exact ⟨o', es', ep', hL ▸ ho', hd'⟩
  · obtain ⟨o', e', r⟩ := k L ob o hL (fun y c' e' q => by
      obtain ⟨v, o', ho', hd'⟩ := (i.cown y c' e').2
      obtain rfl : ob = o' := Option.some.inj (g.symm.trans (q ▸ ho'))
      exact nomatch hd.symm.trans hd') g
    exact ⟨o', es, ep, e', r.data.trans hd⟩
theorem Rm.stmt {G W W' h h' A n env ρ ρ'} (x : Rm W h A n) (i : Is G W h env ρ) (l : Le W h W' h') (k : KpB env W h h') (i' : Is G W' h' env ρ') : Rm W' h' A n := let ⟨_, hn, _⟩ := i'.ns; x.stmt2 i l k hn
noncomputable def AfS (G : Glo) (W : Wd) (env : Env) (sc : List (Str × NameKind)) (s : Shared) (K : List (Str × D) → Sh → Prop) (Q : Unit → Shared → Prop) : Prop :=
  ∀ lo sh' W' h' tk, K lo sh' → Le W s.heap W' h' → KpB env W s.heap h' → Rep G W' sh'.tr h' → W'.n = sh'.n → Is G W' h' env ⟨sc, lo⟩ → s.toks ≤ tk → Q () { s with heap := h', toks := tk }
theorem AfS.step {G W W' env sc} {s : Shared} {K Q} {h' : Heap} {tk : Nat} (q : AfS G W env sc s K Q) (l : Le W s.heap W' h') (k : KpB env W s.heap h') (t : s.toks ≤ tk) : AfS G W' env sc { s with heap := h', toks := tk } K Q :=
  fun lo sh'' W'' h'' tk' kd l' k' r n i t' => q lo sh'' W'' h'' tk' kd (l.trans l') (k.trans l k') r n i (Nat.le_trans t t')
noncomputable def canStore (sc : List (Str × NameKind)) (x : Str) : Bool := match sc.lookup x with
  | some .local => true
  | some .cell => true
  | _ => false
section
variable {cf : Cf} {G : Glo} {r : Ev} {A : Around} {n : Nat} {E : Value → Shared → Prop} {W : Wd} {sh : Sh} {s : Shared} {env : Env} {ρ : Loc}
theorem canStore_out {sc : List (Str × NameKind)} {x : Str} (h : canStore sc x = true) : sc.lookup x = some .local ∨ sc.lookup x = some .cell := by
  have h : (match sc.lookup x with | some .local => true | some .cell => true | _ => false) = true := h
  generalize sc.lookup x = o at h
  cases o with
  | none => exact Bool.noConfusion h
  | some k => cases k <;> first | exact .inl rfl | exact .inr rfl | exact Bool.noConfusion h
theorem storeL_ok {x : Str} {d : D} {v : Value} {Q : Unit → Shared → Prop} (hk : env.scope.names.lookup x = some .local) (st : S1 G W sh A n env ρ s) (hv : V G W s.heap d v)
    (q : ∀ h', Heap.SameBut env.locals s.heap h' → Rep G W sh.tr h' → Le W s.heap W h' → Is G W h' env ⟨ρ.sc, put ρ.lo x d⟩ → Q () { s with heap := h', toks := s.toks + 1 }) : wpAny (model G.prog G.w) A (storeName env x v) Q E s := by
  have is := st.is
  obtain ⟨m, hn, hm⟩ := is.ns
  refine wpAny_storeName_local hk hn (fun h' hn' sb => ?_) (by rw [is.kind]; rfl)
  obtain ⟨ob, _, _, hob, _⟩ := id hn'
  obtain ⟨R', l⟩ := st.at_.rep.updF is.own sb hob
  refine q h' sb R' l ⟨is.kind, is.names, is.glob, is.blt, is.own, fun y c e => ⟨(is.cown y c e).1, ?_⟩, is.inj, is.cex, _, hn', fun y d' e => ?_⟩
  · obtain ⟨v', z⟩ := (is.cown y c e).2
    exact ⟨v', z.sameBut sb (is.cellNe e)⟩
  · rw [lk_put] at e
    by_cases hy : x = y
    · subst hy
      rw [if_pos rfl] at e; cases e
      exact .inl ⟨hk, v, if_pos rfl, V.mono l hv⟩
    · rw [if_neg hy] at e
      rcases hm y d' e with ⟨h1, v', h2, h3⟩ | ⟨h1, c, v', h2, h3, h4⟩
      · exact .inl ⟨h1, v', (if_neg (Ne.symm hy)).trans h2, V.mono l h3⟩
      · exact .inr ⟨h1, c, v', h2, h3.sameBut sb (is.cellNe h2), V.mono l h4⟩
theorem store_ok {x : Str} {d : D} {v : Value} {K : List (Str × D) → Sh → Prop} {Q : Unit → Shared → Prop} (hc : canStore ρ.sc x = true) (h : K (put ρ.lo x d) sh) (st : S1 G W sh A n env ρ s) (hv : V G W s.heap d v) (q : AfS G W env ρ.sc s K Q) :
    wpAny (model G.prog G.w) A (storeName env x v) Q E s := by
  have is := st.is
  rw [← is.names] at hc
  rcases canStore_out hc with hk | hk
  · exact storeL_ok hk st hv fun h' sb R' l i => q _ sh W h' (s.toks + 1) h l (fun a o _ ne _ e => .of ((sb.2 a ne).trans e)) R' st.at_.n i (Nat.le_succ _)
  · obtain ⟨m, hn, hm⟩ := is.ns
    obtain ⟨c, ec⟩ := is.cex x hk
    obtain ⟨oc, v₀, hcell⟩ := is.cown x c ec
    refine wpAny_storeName_cell is.kind hk ec hcell fun h' hc' sb => ?_
    obtain ⟨ob, hob, hod⟩ := id hc'
    obtain ⟨R', l⟩ := st.at_.rep.updF oc sb hob
    refine q _ sh W h' s.toks h l (fun a o _ _ ne e => .of ((sb.2 a (ne x c ec)).trans e)) R' st.at_.n ?_ (Nat.le_refl _)
    have ne : ∀ y c', env.cells.lookup y = some c' → y ≠ x → c' ≠ c := fun y c' e' hy e => hy (name_of_addr is.inj (mem_of_lookup e') (e ▸ mem_of_lookup ec))
    refine ⟨is.kind, is.names, is.glob, is.blt, is.own, fun y c' e => ⟨(is.cown y c' e).1, ?_⟩, is.inj, is.cex, m, hn.sameBut sb (is.cellNe ec).symm, fun y d' e => ?_⟩
    · by_cases hy : y = x
      · subst hy; rw [ec] at e; cases e; exact ⟨_, hc'⟩
      · obtain ⟨v', z⟩ := (is.cown y c' e).2
        exact ⟨v', z.sameBut sb (ne y c' e hy)⟩
    · rw [lk_put] at e
      by_cases hy : x = y
      · subst hy
        rw [if_pos rfl] at e; cases e
        exact .inr ⟨.inl hk, c, v, ec, hc', V.mono l hv⟩
      · rw [if_neg hy] at e
        rcases hm y d' e with ⟨h1, v', h2, h3⟩ | ⟨h1, c', v', h2, h3, h4⟩
        · exact .inl ⟨h1, v', h2, V.mono l h3⟩
        · exact .inr ⟨h1, c', v', h2, h3.sameBut sb (ne y c' h2 (Ne.symm hy)), V.mono l h4⟩
end
end Mine
namespace Mine
theorem Rep.upd2 {G : Glo} {W : Wd} {tr} {h h' : Heap} (R : Rep G W tr h) {k : Nat} {t t' : T} (e : tr.lookup k = some t) {x dx : Addr} (hx : W.own x = some (.t k)) (hd : W.own dx = some (.d k))
    (kp : ∀ b o, b ≠ x → b ≠ dx → h.get? b = some o → h'.get? b = some o) (ex : ∃ o, h'.get? x = some o) (ed : ∃ o, h'.get? dx = some o) (ht : Le W h W h' → TR G W h' k t') (ow : OwnT W k t → OwnT W k t') :
    Rep G W (setT tr k t') h' ∧ Le W h W h' ∧ Kp W h h' := by
  refine R.updP e (fun b o n1 n2 q => kp b o (fun z => n1 (z ▸ hx)) (fun z => n2 (z ▸ hd)) q) (fun b o q => ?_) ht ow
  by_cases hb : b = x
  · exact hb ▸ ex
  · by_cases hb' : b = dx
    · exact hb' ▸ ed
    · exact ⟨o, kp b o hb hb' q⟩
noncomputable def AfU (G : Glo) (W : Wd) (s : Shared) (K : Sh → Prop) (Q : Unit → Shared → Prop) : Prop :=
  ∀ sh' W' h' tk, K sh' → Le W s.heap W' h' → Kp W s.heap h' → Rep G W' sh'.tr h' → W'.n = sh'.n → s.toks ≤ tk → Q () { s with heap := h', toks := tk }
noncomputable def setSd (ks : List Str) (vs : List D) (id d : D) (sh : Sh) (k : Nat) (K : Sh → Prop) : Prop := match id with
  | .str key => need (ks.length ≤ 10000) sh (K { sh with tr := setT sh.tr k (.sd (stK ks key) (stD ks vs key d)) })
  | .tup kd => (match ks with
    | [] => (match vs with
      | [] => withO (strsOf kd) fun kk => K { sh with tr := setT sh.tr k (.pd [kk] [d]) }
      | _ :: _ => False)
    | _ :: _ => False)
  | _ => False
noncomputable def setPd (ks : List (List Str)) (vs : List D) (id d : D) (sh : Sh) (k : Nat) (K : Sh → Prop) : Prop := match id with
  | .tup kd => withO (strsOf kd) fun kk => need (ks.length ≤ 10000) sh (K { sh with tr := setT sh.tr k (.pd (stK ks kk) (stD ks vs kk d)) })
  | _ => False
noncomputable def setR (o : Option T) (id d : D) (sh : Sh) (k : Nat) (K : Sh → Prop) : Prop := match o with
  | some (.sd ks vs) => setSd ks vs id d sh k K
  | some (.pd ks vs) => setPd ks vs id d sh k K
  | _ => False
noncomputable def refK (d : D) (K : Nat → Prop) : Prop := match d with
  | .ref k => K k
  | _ => False
theorem refK_out {d : D} {K : Nat → Prop} (h : refK d K) : ∃ k, d = .ref k ∧ K k := by
  cases d with
  | ref k => exact ⟨k, rfl, h⟩
  | _ => exact False.elim h
noncomputable def setI (od id d : D) (sh : Sh) (K : Sh → Prop) : Prop := refK od fun k => setR (sh.tr.lookup k) id d sh k K
noncomputable def setA (cf : Cf) (od : D) (a : Str) (d : D) (sh : Sh) (K : Sh → Prop) : Prop := refK od fun k => withO (objR (sh.tr.lookup k)) fun o => withO (cf.cls o.1) fun fa => match fa.2.contains a && decide (o.2.1.length ≤ 100) with
  | true => K { sh with tr := setT sh.tr k (.obj o.1 (stK o.2.1 a) (stD o.2.1 o.2.2 a d)) }
  | false => False
section
variable {cf : Cf} {G : Glo} {r : Ev} {A : Around} {n : Nat} {E : Value → Shared → Prop} {W : Wd} {sh : Sh} {s : Shared} {env : Env} {ρ : Loc}
theorem empty_H {h : Heap} {a : Addr} (x : h.DictOf (sK G) a []) : h.DictOfH (tK G) a [] := by
  obtain ⟨o, es, ep, ho, hx, hd, _, hp, _⟩ := x
  refine ⟨o, es, ep, ho, hx, hd, ?_, fun x hx => (List.not_mem_nil hx).elim, List.nodup_nil⟩
  cases hes : es.toList with
  | nil => rfl
  | cons e l => rw [hes] at hp; cases hp
theorem setStr_ok {ks : List Str} {vs : List D} {key : Str} {d : D} {k t : Nat} {v : Value} {K : Sh → Prop} {Q : Unit → Shared → Prop} (e : sh.tr.lookup k = some (.sd ks vs)) (c : ks.length ≤ 10000) (h : K { sh with tr := setT sh.tr k (.sd (stK ks key) (stD ks vs key d)) }) (at_ : At G W sh s) (hv : V G W s.heap d v) (q : AfU G W s K Q) :
    wpAny (model G.prog G.w) A (setItem (.ref (W.ρ k)) (.str key t) v) Q E s := by
  obtain ⟨q1, q2, kvs, sm, hd, rfl, hvl⟩ := at_.rep.trk _ _ e
  rw [List.length_map] at c
  refine wpAny_setItem_pairs (strKind_is _ _ _ _) hd (fun h' hd' sb => ?_) (by rw [sizeLine_eq]; lia)
  obtain ⟨ob, _, _, hob, _⟩ := id hd'
  obtain ⟨e1, e2⟩ := stored_rel (k := key) hv hvl
  obtain ⟨R', l, kp⟩ := at_.rep.upd (t' := T.sd (stK (kvs.map (·.1)) key) (stD (kvs.map (·.1)) vs key d)) e (.inl q2) sb hob fun le => ⟨_, sm, hd', e1, VL.mono le e2⟩
  exact q _ W h' _ h l kp R' at_.n (Nat.le_succ _)
theorem setTup_ok {ks : List (List Str)} {vs : List D} {kk : List Str} {kd : List D} {t : T} {d : D} {k : Nat} {iv v : Value} {K : Sh → Prop} {Q : Unit → Shared → Prop} (e : sh.tr.lookup k = some t) (own : W.own (W.ρ k) = some (.t k)) (x : TR G W s.heap k (.pd ks vs)) (ek : strsOf kd = some kk) (c : ks.length ≤ 10000) (h : K { sh with tr := setT sh.tr k (.pd (stK ks kk) (stD ks vs kk d)) }) (at_ : At G W sh s) (hi : V G W s.heap (.tup kd) iv) (hv : V G W s.heap d v) (hu : A.units + 70 < cLine) (q : AfU G W s K Q) :
    wpAny (model G.prog G.w) A (setItem (.ref (W.ρ k)) iv v) Q E s := by
  obtain ⟨b, rfl, ob, ik⟩ := isKey_of hi ek
  obtain ⟨kvs, sm, hd, ow, rfl, hvl⟩ := x
  rw [List.length_map] at c
  refine wpAny_setItem_heap (tupleKind_room_in1 (by lia)) ik hd (fun h' hd' sb => ?_) (by rw [sizeLine_eq]; lia)
  obtain ⟨o2, _, _, hob, _⟩ := id hd'
  obtain ⟨e1, e2, e3⟩ := storedH_rel (k := kk) (a := b) hv hvl ow ob
  obtain ⟨R', l, kp⟩ := at_.rep.upd (t' := T.pd (stK (kvs.map (·.1)) kk) (stD (kvs.map (·.1)) vs kk d)) e (.inl own) sb hob (fun le => ⟨_, sm, hd', fun x hx => (e3 x hx).mono le.v, e1, VL.mono le e2⟩) fun _ => own
  exact q _ W h' _ h l kp R' at_.n (Nat.le_add_right _ _)
theorem setI_ok {od id d : D} {ov iv v : Value} {K : Sh → Prop} {Q : Unit → Shared → Prop} (h : setI od id d sh K) (at_ : At G W sh s) (ho : V G W s.heap od ov) (hi : V G W s.heap id iv) (hv : V G W s.heap d v) (hu : A.units + 70 < cLine) (q : AfU G W s K Q) :
    wpAny (model G.prog G.w) A (setItem ov iv v) Q E s := by
  replace h := refK_out h
  obtain ⟨k, rfl, h⟩ := h
  obtain ⟨_, rfl⟩ := ho
  cases e : sh.tr.lookup k with
  | none => rw [e] at h; exact False.elim h
  | some t =>
    rw [e] at h
    cases t with
    | sd ks vs => cases id with
      | str key =>
        obtain ⟨t, _, rfl⟩ := hi
        obtain ⟨c, h⟩ := need_out h
        exact setStr_ok e c h at_ hv q
      | tup kd => cases ks with
        | cons _ _ => exact False.elim h
        | nil => cases vs with
          | cons _ _ => exact False.elim h
          | nil =>
            obtain ⟨kk, ek, h⟩ := someE h
            obtain ⟨_, q2, kvs, sm, hd, hm, _⟩ := at_.rep.trk _ _ e
            obtain rfl : kvs = [] := List.map_eq_nil_iff.mp hm
            exact setTup_ok (ks := []) (vs := []) e q2 ⟨[], sm, empty_H hd, fun x hx => (List.not_mem_nil hx).elim, rfl, trivial⟩ ek (Nat.zero_le _) h at_ hi hv hu q
      | _ => exact False.elim h
    | pd ks vs => cases id with
      | tup kd =>
        obtain ⟨kk, ek, h⟩ := someE h
        obtain ⟨c, h⟩ := need_out h
        obtain ⟨_, q2, x⟩ := at_.rep.trk _ _ e
        exact setTup_ok e q2 x ek c h at_ hi hv hu q
      | _ => exact False.elim h
    | _ => exact False.elim h
theorem within_of {kvs : List (Str × Value)} {fs : List Str} {mA : Str → Option Value} (kk : kvs.map (·.1) = fs) (z7 : ∀ f, mA f = valueAt kvs f) : Within mA fs := fun y hy => by
  rw [z7] at hy
  obtain ⟨u, hz⟩ := Option.ne_none_iff_exists'.mp hy
  obtain ⟨p, hp, _⟩ := Option.map_eq_some_iff.mp hz
  exact kk ▸ List.mem_map.mpr ⟨p, List.mem_of_find?_eq_some hp, of_decide_eq_true (List.find?_some (p := fun kv : Str × Value => decide (kv.1 = y)) hp)⟩
inductive SetAt (s : Shared) (x c : Addr) (m : Str → Option Value) (s' : Shared) : Prop
  | mk (h' : Heap) (tk : Nat) (es : s' = { s with heap := h', toks := tk }) (I : h'.Inst x c m) (hk : ∀ b o, b ≠ x → (∀ o₀ dx, s.heap.get? x = some o₀ → o₀.dict = some dx → b ≠ dx) → s.heap.get? b = some o → h'.get? b = some o)
    (same : ∀ o₀, s.heap.get? x = some o₀ → ∃ o₁, h'.get? x = some o₁ ∧ o₁.cls = o₀.cls ∧ o₁.data = o₀.data ∧ o₁.slots = o₀.slots ∧ ∀ dx, o₀.dict = some dx → o₁.dict = some dx) : SetAt s x c m s'
theorem setA_ok (ok : GOk cf G) {od d : D} {a : Str} {ov v : Value} {K : Sh → Prop} {Q : Unit → Shared → Prop} (h : setA cf od a d sh K) (at_ : At G W sh s) (ho : V G W s.heap od ov) (hv : V G W s.heap d v) (q : AfU G W s K Q) :
    wpAny (model G.prog G.w) A (setAttr ov a v) Q E s := by
  replace h := refK_out h
  obtain ⟨k, rfl, h⟩ := h
  obtain ⟨⟨C, fs, ds⟩, e, h⟩ := someE h
  have e := objR_out e
  obtain ⟨⟨fn, as⟩, ec, h⟩ := someE h
  obtain ⟨hc, h⟩ := trueE h
  obtain ⟨hc1, hc2⟩ := Bool.and_eq_true_iff.mp hc
  obtain ⟨c, N, mN, fI, hg, X, hi, hfn, hga, hsa, hat⟩ := ok.cls _ _ _ ec
  have ha := hat a (List.contains_iff_mem.mp hc1)
  obtain ⟨hk, q2, c', dx, ob, kvs, mA, o2, hc', z1, z2, z3, z4, z5, z6, kk, rr, z7⟩ := at_.rep.trk _ _ e
  have q2 : W.own (W.ρ k) = some (.t k) := q2
  obtain rfl : c = c' := Value.ref.inj (Option.some.inj (hg.symm.trans hc'))
  obtain ⟨_, rfl⟩ := ho
  have kp : ∀ b o, G.h₀.get? b = some o → s.heap.get? b = some o := fun b o e => (at_.rep.base b o e).2
  obtain ⟨nm, q', bs, sn, sub, col, dd, k0, k1, k2, k3, k5, hC₀⟩ := X.obj
  have hxC : W.ρ k ≠ c := fun e => nomatch (e ▸ q2).symm.trans (at_.rep.base c _ hC₀).1
  have main : wpAny (model G.prog G.w) A (setAttr (.ref (W.ρ k)) a v) (fun _ s' => SetAt s (W.ρ k) c (fun y => if y = a then some v else mA y) s') E s := by
    obtain ⟨hh, g, dr, tt, os⟩ := s
    exact store_attr PySem.F.store_object (kp _ _ hC₀) (X.ns.keeps kp) hsa ha.1 ha.2 hxC ⟨ob, z1, z2, z3, .inr ⟨dx, z4, z5, z6⟩⟩ (fun h' tk' I' hk' hsame => ⟨h', tk', rfl, I', hk', hsame⟩) (within_of kk z7) (by rw [sizeLine_eq]; have := of_decide_eq_true hc2; lia)
  refine wpAny_mono (wpAny_toks main) (fun _ s' hs => ?_) fun _ _ x => x.2
  obtain ⟨tl, h', tk, rfl, I', hk', hsame⟩ := hs
  obtain ⟨o₁, e₁, c₁, dt₁, _, dk₁⟩ := hsame ob z1
  obtain ⟨o', e', _, hnc, hd'⟩ := I'
  obtain rfl := Option.some.inj (e₁.symm.trans e')
  rcases hd' with ⟨hn0, _⟩ | ⟨d', hd'', hne, hns'⟩
  · rw [dk₁ dx z4] at hn0; cases hn0
  · obtain rfl := Option.some.inj ((dk₁ dx z4).symm.trans hd'')
    obtain ⟨e1, e2⟩ := stored_rel (k := a) hv rr
    have kp2 : ∀ b o, b ≠ W.ρ k → b ≠ dx → s.heap.get? b = some o → h'.get? b = some o := fun b o n1 n2 eb => hk' b o n1 (fun o₀ d' e₀ ed => by
      obtain rfl := Option.some.inj (z1.symm.trans e₀); obtain rfl := Option.some.inj (z4.symm.trans ed); exact n2) eb
    obtain ⟨R', l, kp'⟩ := at_.rep.upd2 (t' := T.obj C (stK fs a) (stD fs ds a d)) e q2 o2 kp2 ⟨_, e₁⟩ (let ⟨o, _, _, eo, _⟩ := hns'; ⟨o, eo⟩)
      (fun le => ⟨c, dx, o₁, stored kvs a v, _, o2, hg, e₁, c₁.trans z2, hnc, dk₁ dx z4, z5, hns', e1.trans (congrArg (fun f => stK f a) kk), Eq.mp (congrArg (fun f => VL G W h' (stD f ds a d) _) kk) (VL.mono le e2), fun f => by rw [valueAt_stored, z7 f]⟩) id
    exact q _ W h' tk h l kp' R' at_.n tl
end
end Mine
namespace Mine
noncomputable def nameOf (e : Expr) : Option Str := match e with
  | .Name x _ => some x
  | _ => Option.none
theorem nameOf_out {e : Expr} {x : Str} (h : nameOf e = some x) : ∃ p, e = .Name x p := by
  cases e with
  | Name y p => cases h; exact ⟨p, rfl⟩
  | _ => exact nos h
noncomputable def namesOf : List Expr → Option (List Str)
  | [] => some []
  | e :: r => (nameOf e).bind fun x => (namesOf r).map (x :: ·)
noncomputable def putsN (sh : Sh) (xs : List Str) (ds : List D) (lo : List (Str × D)) (K : List (Str × D) → Prop) : Prop := match xs with
  | [] => (match ds with
    | [] => K lo
    | _ :: _ => False)
  | x :: xs => match ds with
    | [] => False
    | d :: ds => nrmD d sh fun d => putsN sh xs ds (put lo x d) K
noncomputable def assignT (elts : List Expr) (d : D) (ρ : Loc) (sh : Sh) (K : List (Str × D) → Sh → Prop) : Prop := match d with
  | .tup ds => withO (namesOf elts) fun xs => (match decide (xs.length = ds.length) && xs.all (canStore ρ.sc) with
    | true => putsN sh xs ds ρ.lo fun lo => K lo sh
    | false => False)
  | _ => False
noncomputable def assignE (cf : Cf) (r : Ev) (t : Expr) (d : D) (ρ : Loc) (sh : Sh) (K : List (Str × D) → Sh → Prop) : Prop := match t with
  | .Name x _ => (match canStore ρ.sc x with | true => nrmD d sh fun d => K (put ρ.lo x d) sh | false => False)
  | .Tuple elts _ _ => assignT elts d ρ sh K
  | .Attribute o a _ => r.E o ρ sh fun od sh => setA cf od a d sh fun sh => nrmS sh (K ρ.lo)
  | .Subscript o i _ => r.E o ρ sh fun od sh => r.E i ρ sh fun id sh => setI od id d sh fun sh => nrmS sh (K ρ.lo)
  | _ => False
noncomputable def augD (op : Operator) (a b : D) (sh : Sh) (K : KE) : Prop := match isAdd op with
  | true => (match a with
    | .int x => withO (intOf b) fun y => K (.int (x + y)) sh
    | .str x => withO (strOf b) fun y => need (x.length + y.length ≤ 1000000) sh (K (.str (x ++ y)) sh)
    | _ => False)
  | false => False
noncomputable def isCompE (e : Expr) : Bool := Nat.beq e.ctorIdx 8 || Nat.beq e.ctorIdx 9 || Nat.beq e.ctorIdx 10
noncomputable def isTupE (e : Expr) : Bool := Nat.beq e.ctorIdx 25
noncomputable def okTgt (e : Expr) : Bool := Nat.beq e.ctorIdx 25 || Nat.beq e.ctorIdx 23 || Nat.beq e.ctorIdx 20 || Nat.beq e.ctorIdx 21
noncomputable def retS (r : Ev) (o : Option Expr) (ρ : Loc) (sh : Sh) (K : KB) : Prop := match o with
  | some e => r.E e ρ sh fun d sh => K (.ret d) ρ.lo sh
  | Option.none => K (.ret .none) ρ.lo sh
noncomputable def asgS (cf : Cf) (r : Ev) (ts : List Expr) (v : Expr) (ρ : Loc) (sh : Sh) (K : KB) : Prop := withO (one ts) fun t => match isCompE v || (isTupE t && isTupE v) || !okTgt t with
  | true => False
  | false => r.E v ρ sh fun d sh => assignE cf r t d ρ sh (K .next)
noncomputable def augS (cf : Cf) (r : Ev) (t : Expr) (op : Operator) (v : Expr) (ρ : Loc) (sh : Sh) (K : KB) : Prop := match t with
  | .Name x _ => (match dbg x || !canStore ρ.sc x with
    | true => False
    | false => withO (lk ρ.lo x) fun d => r.E v ρ sh fun e sh => augD op d e sh fun d' sh => nrmD d' sh fun d' => K .next (put ρ.lo x d') sh)
  | .Attribute o a _ => r.E o ρ sh fun od sh => attrE cf od a sh fun old sh => r.E v ρ sh fun e sh => augD op old e sh fun nw sh => setA cf od a nw sh fun sh => nrmS sh (K .next ρ.lo)
  | _ => False
noncomputable def stepS (cf : Cf) (P : Ev → Stmt → Loc → Sh → KB → KX → Prop) (r : Ev) (st : Stmt) (ρ : Loc) (sh : Sh) (K : KB) (X : KX) : Prop := match st with
  | .Expr v _ => (match isCompE v with | true => False | false => r.E v ρ sh fun _ sh => nrmS sh (K .next ρ.lo))
  | .Pass _ => K .next ρ.lo sh
  | .Return o _ => retS r o ρ sh K
  | .Assign ts v _ => asgS cf r ts v ρ sh K
  | .AugAssign t op v _ => augS cf r t op v ρ sh K
  | .If t b o _ => r.T t ρ sh fun c sh => (match c with | true => r.B b ρ sh K X | false => r.B o ρ sh K X)
  | st => P r st ρ sh K X
noncomputable def swB (sh : Sh) (f : Sh → (Sh → Sh) → Prop) : Prop := match sh.sym with
  | true => ∃ sym, f { sh with sym := sym } fun s => { s with sym := true }
  | false => f sh fun s => s
inductive SwE (sh : Sh) (f : Sh → (Sh → Sh) → Prop) : Prop
  | mk (sh' : Sh) (bk : Sh → Sh) (h1 : sh'.tr = sh.tr) (h2 : sh'.n = sh.n) (h3 : ∀ s : Sh, (bk s).tr = s.tr) (h4 : ∀ s : Sh, (bk s).n = s.n) (k : f sh' bk) : SwE sh f
theorem swB_out {sh : Sh} {f : Sh → (Sh → Sh) → Prop} (h : swB sh f) : SwE sh f := by
  obtain ⟨tr, n, sym, os⟩ := sh
  cases sym with
  | true =>
    obtain ⟨sym, h⟩ := h
    exact ⟨{ tr := tr, n := n, sym := sym, os := os }, fun s => { s with sym := true }, rfl, rfl, fun s => rfl, fun s => rfl, h⟩
  | false => exact ⟨_, _, rfl, rfl, fun s => rfl, fun s => rfl, h⟩
noncomputable def isFor (s : Stmt) : Bool := Nat.beq s.ctorIdx 9
noncomputable def swS (st : Stmt) (sh : Sh) (f : Sh → (Sh → Sh) → Prop) : Prop := match isFor st with
  | true => swB sh f
  | false => match sh.sym with
    | true => True → f sh fun s => s
    | false => f sh fun s => s
theorem swS_out {st : Stmt} {sh : Sh} {f : Sh → (Sh → Sh) → Prop} (h : swS st sh f) : SwE sh f := by
  have h : (match isFor st with
    | true => swB sh f
    | false => match sh.sym with
      | true => True → f sh fun s => s
      | false => f sh fun s => s) := h
  cases e : isFor st with
  | true => rw [e] at h; exact swB_out h
  | false =>
    rw [e] at h
    obtain ⟨tr, n, sym, os⟩ := sh
    cases sym with
    | true => exact ⟨_, _, rfl, rfl, fun _ => rfl, fun _ => rfl, h trivial⟩
    | false => exact ⟨_, _, rfl, rfl, fun _ => rfl, fun _ => rfl, h⟩
noncomputable def stepB (cf : Cf) (P : Ev → Stmt → Loc → Sh → KB → KX → Prop) (r : Ev) (b : List Stmt) (ρ : Loc) (sh : Sh) (K : KB) (X : KX) : Prop := match b with
  | [] => K .next ρ.lo sh
  | st :: rest => swS st sh fun sh bk => stepS cf P r st ρ sh (fun fl lo sh => match fl with
    | .next => r.B rest ⟨ρ.sc, lo⟩ (bk sh) K X
    | fl => K fl lo (bk sh)) fun c y sh => X c y (bk sh)
noncomputable def AfM (G : Glo) (env : Env) (W : Wd) (s : Shared) (X : KX) (E : Value → Shared → Prop) : Prop := AfX G (fun W' h' e c y => KpB env W s.heap h' ∧ (∃ m, h'.Ns env.locals m) ∧ Made G W' h' e c y) W s X E
theorem AfM.step {G env W W' s X E} {h' : Heap} {tk : Nat} (q : AfM G env W s X E) (l : Le W s.heap W' h') (k : KpB env W s.heap h') (t : s.toks ≤ tk) : AfM G env W' { s with heap := h', toks := tk } X E :=
  fun c y sh'' W'' h'' e tk' kd l' r n p t' => q c y sh'' W'' h'' e tk' kd (l.trans l') r n ⟨k.trans l p.1, p.2⟩ (Nat.le_trans t t')
theorem AfB.step {G W W' env sc} {s : Shared} {K Q} {h' : Heap} {tk : Nat} (q : AfB G W env sc s K Q) (l : Le W s.heap W' h') (k : KpB env W s.heap h') (t : s.toks ≤ tk) : AfB G W' env sc { s with heap := h', toks := tk } K Q :=
  fun fl lo sh'' W'' h'' f tk' kd l' k' r n i p t' => q fl lo sh'' W'' h'' f tk' kd (l.trans l') (k.trans l k') r n i p (Nat.le_trans t t')
theorem S1.stmt {G W W' sh sh' A n env ρ lo} {s : Shared} {h' : Heap} {tk : Nat} (x : S1 G W sh A n env ρ s) (l : Le W s.heap W' h') (k : KpB env W s.heap h') (r : Rep G W' sh'.tr h') (nn : W'.n = sh'.n) (i : Is G W' h' env ⟨ρ.sc, lo⟩) (t : s.toks ≤ tk) :
    S1 G W' sh' A n env ⟨ρ.sc, lo⟩ { s with heap := h', toks := tk } := ⟨x.rm.stmt x.is l k i, x.at_.step r nn t, i⟩
theorem AfB.out {G W env ρ} {s : Shared} {sh : Sh} {A n} {K Q} (q : AfB G W env ρ.sc s K Q) (st : S1 G W sh A n env ρ s) {fl : Fl} {f : Flow} (k : K fl ρ.lo sh) (p : FlOk G W s.heap fl f) : Q f s :=
  q fl ρ.lo sh W s.heap f s.toks k Le.refl (Kp.b Kp.refl) st.at_.rep st.at_.n st.is p (Nat.le_refl _)
section
variable {cf : Cf} {G : Glo} {r : Ev} {A : Around} {n : Nat} {E : Value → Shared → Prop} {env : Env} {ρ : Loc}
theorem namesOf_each {elts : List Expr} : ∀ {xs : List Str}, namesOf elts = some xs → (assignEach elts env).length = xs.length ∧ (assignEach elts env).findIdx? (·.1) = Option.none := by
  induction elts with
  | nil => intro xs h; cases h; exact ⟨rfl, rfl⟩
  | cons e r ih =>
    intro xs h
    obtain ⟨x, ys, e1, h', rfl⟩ := bind_map h
    obtain ⟨p, rfl⟩ := nameOf_out e1
    obtain ⟨a, b⟩ := ih h'
    refine ⟨congrArg (· + 1) a, ?_⟩
    show List.findIdx? _ ((false, assign (.Name x p) env) :: assignEach r env) = _
    rw [List.findIdx?_cons, b]; rfl
theorem inOrder_ok {elts : List Expr} : ∀ {xs : List Str} {ds : List D} {vs : List Value} {lo : List (Str × D)} {W : Wd} {sh : Sh} {s : Shared} {K : List (Str × D) → Sh → Prop} {Q : Unit → Shared → Prop}, namesOf elts = some xs → xs.all (canStore ρ.sc) = true →
    putsN sh xs ds lo (fun lo => K lo sh) → S1 G W sh A n env ⟨ρ.sc, lo⟩ s → VL G W s.heap ds vs → AfS G W env ρ.sc s K Q → wpAny (model G.prog G.w) A (assignInOrder ((assignEach elts env).map (·.2)) vs) Q E s := by
  induction elts with
  | nil => intro xs ds vs lo W sh s K Q h _ k st hv q; cases h; cases ds with
    | nil => exact wpAny_pure (q lo sh W s.heap s.toks k Le.refl (Kp.b Kp.refl) st.at_.rep st.at_.n st.is (Nat.le_refl _))
    | cons _ _ => exact False.elim k
  | cons e r ih =>
    intro xs ds vs lo W sh s K Q h hs k st hv q
    obtain ⟨x, ys, e1, h', rfl⟩ := bind_map h
    obtain ⟨p, rfl⟩ := nameOf_out e1
    cases ds with
    | nil => exact False.elim k
    | cons d ds => cases vs with
      | nil => exact False.elim hv
      | cons v vs =>
        obtain ⟨hs1, hs2⟩ := Bool.and_eq_true_iff.mp (List.all_cons.symm.trans hs)
        refine wpAny_bind (wpAny_holding (PySem.wpAny_assign_Name (store_ok (ρ := ⟨ρ.sc, lo⟩) (K := fun lo sh' => sh' = sh ∧ lo = put _ x d) hs1 ⟨rfl, rfl⟩ st hv.1 fun lo' sh' W' h2 tk kd l kb rp nn i ht => ?_)))
        obtain ⟨rfl, rfl⟩ := kd
        exact ih h' hs2 (nrmD_eq (K := fun d => putsN sh' ys ds (put lo x d) fun lo => K lo sh') ▸ k) (st.stmt l kb rp nn i ht) (VL.mono l hv.2) (q.step l kb ht)
theorem assign_ok (ok : GOk cf G) (S : SE G r n) {t : Expr} {d : D} {v : Value} {W : Wd} {sh : Sh} {s : Shared} {K : List (Str × D) → Sh → Prop} {Q : Unit → Shared → Prop} (h : assignE cf r t d ρ sh K) (st : S1 G W sh A n env ρ s) (hv : V G W s.heap d v) (q : AfS G W env ρ.sc s K Q) :
    wpAny (model G.prog G.w) A (assign t env v) Q E s := by
  cases t with
  | Name x p =>
    obtain ⟨hc, h⟩ := trueE h
    exact PySem.wpAny_assign_Name (store_ok hc (nrmD_eq (K := fun d => K (put ρ.lo x d) sh) ▸ h) st hv q)
  | Tuple elts k p => cases d with
    | tup ds =>
      obtain ⟨xs, en, h⟩ := someE h
      obtain ⟨hc, h⟩ := trueE h
      obtain ⟨h1, h2⟩ := Bool.and_eq_true_iff.mp hc
      have h1 := of_decide_eq_true h1
      obtain ⟨a, vs, m, rfl, ow, ht, rr⟩ := hv.toIsT
      obtain ⟨e1, e2⟩ := namesOf_each (env := env) en
      refine assign_Tuple_tuple st.rm.hand (isTuple_isTup ht) (by rw [e1, h1]; exact rr.size) e2 fun h' hx => ?_
      have kk : ∀ b o, s.heap.get? b = some o → h'.get? b = some o := fun b o e => hx b o (Nat.ne_of_lt (Heap.lt_size e)) e
      have st' := st.step (h' := h') (tk := s.toks) (Le.grow kk) (Kp.grow kk) (st.at_.rep.grow kk) st.at_.n (Nat.le_refl _)
      exact inOrder_ok en h2 h st' (VL.mono (Le.grow kk) rr) (q.step (tk := s.toks) (Le.grow kk) (Kp.b (Kp.grow kk)) (Nat.le_refl _))
    | _ => exact False.elim h
  | Attribute o a p =>
    rw [assign_Attribute]
    refine wpAny_bind (wpAny_holding (go S h st fun od sh₁ W₁ h₁ v₁ t₁ k₁ st₁ l₁ p₁ hv₁ ht₁ => wpAny_bind (wpAny_standAt (wpAny_bind (wpAny_holding (setA_ok ok k₁ st₁.at_ hv₁ (V.mono l₁ hv) fun sh₂ W₂ h₂ t₂ k₂ l₂ p₂ r₂ n₂ ht₂ => wpAny_release ?_))))))
    rw [nrmS_eq] at k₂
    exact (q.step l₁ (Kp.b p₁) ht₁) ρ.lo sh₂ W₂ h₂ t₂ k₂ l₂ (Kp.b p₂) r₂ n₂ (st₁.step l₂ p₂ r₂ n₂ ht₂).is ht₂
  | Subscript o i p =>
    rw [assign_Subscript]
    refine wpAny_bind (wpAny_holding (go S h st fun od sh₁ W₁ h₁ v₁ t₁ k₁ st₁ l₁ p₁ hv₁ ht₁ => wpAny_bind (wpAny_holding (go S k₁ st₁ fun id sh₂ W₂ h₂ v₂ t₂ k₂ st₂ l₂ p₂ hv₂ ht₂ =>
      wpAny_bind (wpAny_standAt (wpAny_bind (wpAny_holding (setI_ok k₂ st₂.at_ (V.mono l₂ hv₁) hv₂ (V.mono l₂ (V.mono l₁ hv)) st₂.rm.u70 fun sh₃ W₃ h₃ t₃ k₃ l₃ p₃ r₃ n₃ ht₃ => wpAny_release ?_))))))))
    rw [nrmS_eq] at k₃
    exact ((q.step l₁ (Kp.b p₁) ht₁).step l₂ (Kp.b p₂) ht₂) ρ.lo sh₃ W₃ h₃ t₃ k₃ l₃ (Kp.b p₃) r₃ n₃ (st₂.step l₃ p₃ r₃ n₃ ht₃).is ht₃
  | _ => exact False.elim h
theorem aug_ok {op : Operator} {a b : D} {x y : Value} {W : Wd} {sh : Sh} {s : Shared} {K : KE} {Q : Value → Shared → Prop} (h : augD op a b sh K) (at_ : At G W sh s) (hx : V G W s.heap a x) (hy : V G W s.heap b y) (q : Af G (V G) W s K Q) :
    wpAny (model G.prog G.w) A (inplaceOp op x y) Q E s := by
  obtain ⟨ho, h⟩ := trueE h
  obtain rfl := isAdd_out ho
  cases a with
  | int i =>
    obtain ⟨j, e, h⟩ := someE h
    obtain rfl := intOf_out e
    obtain ⟨t, _, rfl⟩ := hx; obtain ⟨u, _, rfl⟩ := hy
    exact PySem.AutoIntOps.iadd_0 (q.here at_ h (V.int trivial) (Nat.le_succ _))
  | str xs =>
    obtain ⟨ys, e, h⟩ := someE h
    obtain rfl := strOf_out e
    obtain ⟨t, _, rfl⟩ := hx; obtain ⟨u, _, rfl⟩ := hy
    obtain ⟨c, h'⟩ := need_out h
    refine PySem.P.iadd_str ?_
    split
    · rename_i e
      rw [str_empty_of e, PySem.Str.empty_append] at h'
      exact q.here at_ h' (V.str trivial) (Nat.le_refl _)
    · split
      · rename_i e
        rw [str_empty_of e, PySem.Str.append_empty] at h'
        exact q.here at_ h' (V.str trivial) (Nat.le_refl _)
      · exact ⟨by rw [PySem.Str.length_append, sizeLine_eq]; exact Nat.le_trans c (by decide), q.here at_ h' (V.str trivial) (Nat.le_succ _)⟩
  | _ => exact False.elim h
theorem swap_none {e : Expr} {l : Nat} (h : isCompE e = false) : swapsWith e Option.none l env = pure false := by
  cases e <;> first | rfl | exact Bool.noConfusion h
theorem swap_some {e t : Expr} {l : Nat} (h : isCompE e = false) : swapsWith e (some t) l env = pure false := by
  cases e <;> first | rfl | exact Bool.noConfusion h
theorem swapped_none {e t : Expr} (h : (isTupE t && isTupE e) = false) (ht : okTgt t = true) : swappedStores [t] e env = pure Option.none := by
  cases t <;> first
    | exact Bool.noConfusion ht
    | rfl
    | (cases e <;> first | rfl | exact Bool.noConfusion h)
theorem each_one {t : Expr} (ht : okTgt t = true) : (assignEach [t] env).map (·.2) = [assign t env] := by
  cases t <;> first | rfl | exact Bool.noConfusion ht
theorem stepS_sound {P : Ev → Stmt → Loc → Sh → KB → KX → Prop} (ok : GOk cf G) (S : Sound G r n)
    (hP : ∀ (st : Stmt) (ρ : Loc) (sh : Sh) (K : KB) (X : KX) (A : Around) (env : Env) (W : Wd) (s : Shared) (Q : Flow → Shared → Prop) (E : Value → Shared → Prop),
      P r st ρ sh K X ∧ TopN A env n → S1 G W sh A n env ρ s → AfB G W env ρ.sc s K Q → AfM G env W s X E → wpAny (model G.prog G.w) A (exec st env) Q E s) :
    ∀ (st : Stmt) (ρ : Loc) (sh : Sh) (K : KB) (X : KX) (A : Around) (env : Env) (W : Wd) (s : Shared) (Q : Flow → Shared → Prop) (E : Value → Shared → Prop),
      stepS cf P r st ρ sh K X ∧ TopN A env n → S1 G W sh A n env ρ s → AfB G W env ρ.sc s K Q → AfM G env W s X E → wpAny (model G.prog G.w) A (exec st env) Q E s := by
  intro st ρ sh K X A env W s Q E ⟨h, top⟩ st1 q qx
  cases st with
  | Expr v p =>
    obtain ⟨hc, h⟩ := falseE h
    refine wpAny_Expr_any (go S.E h st1 fun d sh₁ W₁ h₁ v₁ t₁ k₁ st₁ l₁ p₁ hv₁ ht₁ => ?_) (by unfold interactive; rw [st1.is.kind]; rfl) (swap_none hc)
    rw [nrmS_eq] at k₁
    exact (q.step l₁ (Kp.b p₁) ht₁).out st₁ k₁ rfl
  | Pass p => exact wpAny_Pass (q.out st1 h rfl)
  | Return o p =>
    cases o with
    | some e =>
      refine wpAny_Return_some (go S.E h st1 fun d sh₁ W₁ h₁ v₁ t₁ k₁ st₁ l₁ p₁ hv₁ ht₁ => ?_)
      exact (q.step l₁ (Kp.b p₁) ht₁).out st₁ k₁ ⟨v₁, rfl, hv₁⟩
    | none => exact wpAny_Return_none (q.out st1 h ⟨.none, rfl, V.vnone⟩)
  | Assign ts v p =>
    obtain ⟨t, e, h⟩ := someE h
    obtain rfl := one_out e
    obtain ⟨hc, h⟩ := falseE h
    obtain ⟨hc, c3⟩ := Bool.or_eq_false_iff.mp hc
    obtain ⟨c1, c2⟩ := Bool.or_eq_false_iff.mp hc
    have c3 := notF c3
    refine wpAny_Assign_stores (go S.E h st1 fun d sh₁ W₁ h₁ v₁ t₁ k₁ st₁ l₁ p₁ hv₁ ht₁ => ?_) (swap_some c1) (swapped_none c2 c3)
    rw [each_one c3]
    exact assign_ok ok S.E k₁ st₁ hv₁ fun lo sh₂ W₂ h₂ t₂ k₂ l₂ p₂ r₂ n₂ i₂ ht₂ => (q.step l₁ (Kp.b p₁) ht₁) .next lo sh₂ W₂ h₂ .next t₂ k₂ l₂ p₂ r₂ n₂ i₂ rfl ht₂
  | AugAssign t op v p =>
    cases t with
    | Name x np =>
      obtain ⟨hc, h⟩ := falseE h
      obtain ⟨c1, c2⟩ := Bool.or_eq_false_iff.mp hc
      obtain ⟨d, hl, h⟩ := someE h
      refine wpAny_AugAssign_Name (loadName_ok hl c1 st1.is fun v hv => ?_)
      refine go S.E h st1 fun e sh₁ W₁ h₁ v₁ t₁ k₁ st₁ l₁ p₁ hv₁ ht₁ => ?_
      refine aug_ok k₁ st₁.at_ (V.mono l₁ hv) hv₁ fun d' sh₂ W₂ h₂ v₂ t₂ k₂ l₂ p₂ r₂ n₂ hv₂ ht₂ => ?_
      exact store_ok (notF c2) (nrmD_eq (K := fun d' => K .next (put ρ.lo x d') sh₂) ▸ k₂) (st₁.step l₂ p₂ r₂ n₂ ht₂) hv₂ fun lo sh₃ W₃ h₃ t₃ k₃ l₃ p₃ r₃ n₃ i₃ ht₃ =>
        ((q.step l₁ (Kp.b p₁) ht₁).step l₂ (Kp.b p₂) ht₂) .next lo sh₃ W₃ h₃ .next t₃ k₃ l₃ p₃ r₃ n₃ i₃ rfl ht₃
    | Attribute o a ap =>
      refine wpAny_AugAssign_AttributeAny (go S.E h st1 fun od sh₁ W₁ h₁ v₁ t₁ k₁ st₁ l₁ p₁ hv₁ ht₁ => attrE_ok ok k₁ st₁.at_ hv₁ fun old sh₂ W₂ h₂ v₂ t₂ k₂ l₂ p₂ r₂ n₂ hv₂ ht₂ => ?_)
      have st₂ := st₁.step l₂ p₂ r₂ n₂ ht₂
      refine go S.E k₂ st₂ fun e sh₃ W₃ h₃ v₃ t₃ k₃ st₃ l₃ p₃ hv₃ ht₃ => aug_ok k₃ st₃.at_ (V.mono l₃ hv₂) hv₃ fun nw sh₄ W₄ h₄ v₄ t₄ k₄ l₄ p₄ r₄ n₄ hv₄ ht₄ => ?_
      have st₄ := st₃.step l₄ p₄ r₄ n₄ ht₄
      refine setA_ok ok k₄ st₄.at_ (V.mono l₄ (V.mono l₃ (V.mono l₂ hv₁))) hv₄ fun sh₅ W₅ h₅ t₅ k₅ l₅ p₅ r₅ n₅ ht₅ => ?_
      rw [nrmS_eq] at k₅
      have st₅ := st₄.step l₅ p₅ r₅ n₅ ht₅
      exact (((((q.step l₁ (Kp.b p₁) ht₁).step l₂ (Kp.b p₂) ht₂).step l₃ (Kp.b p₃) ht₃).step l₄ (Kp.b p₄) ht₄).step l₅ (Kp.b p₅) ht₅).out st₅ k₅ rfl
    | _ => exact False.elim h
  | If t b o p =>
    refine wpAny_If (goT S.T h st1 fun c sh₁ W₁ h₁ t₁ k₁ st₁ l₁ p₁ ht₁ => ?_)
    cases c with
    | true => exact S.B _ _ _ _ _ _ _ _ _ _ _ ⟨k₁, top.1⟩ st₁ (q.step l₁ (Kp.b p₁) ht₁) (qx.step l₁ (Kp.b p₁) ht₁)
    | false => exact S.B _ _ _ _ _ _ _ _ _ _ _ ⟨k₁, top.1⟩ st₁ (q.step l₁ (Kp.b p₁) ht₁) (qx.step l₁ (Kp.b p₁) ht₁)
  | _ => exact hP _ _ _ _ _ _ _ _ _ _ _ ⟨h, top⟩ st1 q qx
theorem stepB_sound {P : Ev → Stmt → Loc → Sh → KB → KX → Prop} (ok : GOk cf G) (S : Sound G r n)
    (hP : ∀ (st : Stmt) (ρ : Loc) (sh : Sh) (K : KB) (X : KX) (A : Around) (env : Env) (W : Wd) (s : Shared) (Q : Flow → Shared → Prop) (E : Value → Shared → Prop),
      P r st ρ sh K X ∧ TopN A env n → S1 G W sh A n env ρ s → AfB G W env ρ.sc s K Q → AfM G env W s X E → wpAny (model G.prog G.w) A (exec st env) Q E s) :
    ∀ (b : List Stmt) (ρ : Loc) (sh : Sh) (K : KB) (X : KX) (A : Around) (env : Env) (W : Wd) (s : Shared) (Q : Flow → Shared → Prop) (E : Value → Shared → Prop),
      stepB cf P r b ρ sh K X ∧ TopN A env n → S1 G W sh A n env ρ s → AfB G W env ρ.sc s K Q → AfM G env W s X E → wpAny (model G.prog G.w) A (execs b env) Q E s := by
  intro b ρ sh K X A env W s Q E ⟨h, top⟩ st q qx
  cases b with
  | nil => exact wpAny_execs_nil (q.out st h rfl)
  | cons b rest =>
    obtain ⟨sh₀, bk, e1, e2, e3, e4, h⟩ := swS_out h
    have st₀ : S1 G W sh₀ A n env ρ s := ⟨st.rm, ⟨e1.symm ▸ st.at_.rep, st.at_.n.trans e2.symm, st.at_.tk⟩, st.is⟩
    refine wpAny_execs_cons (stepS_sound ok S hP _ _ _ _ _ _ _ _ _ _ _ ⟨h, top⟩ st₀ ?_ (fun code why sh' W' h' e tk kx l r nn p t => qx code why (bk sh') W' h' e tk kx l ((e3 sh').symm ▸ r) (nn.trans (e4 sh').symm) p t))
    intro fl lo sh₁ W₁ h₁ f t₁ k₁ l₁ p₁ r₀ n₀ i₁ f₁ ht₁
    have r₁ : Rep G W₁ (bk sh₁).tr h₁ := (e3 sh₁).symm ▸ r₀
    have n₁ : W₁.n = (bk sh₁).n := n₀.trans (e4 sh₁).symm
    cases fl with
    | next =>
      cases f₁
      exact S.B _ _ _ _ _ _ _ _ _ _ _ ⟨k₁, top.1⟩ (st.stmt l₁ p₁ r₁ n₁ i₁ ht₁) (q.step l₁ p₁ ht₁) (qx.step l₁ p₁ ht₁)
    | brk =>
      cases f₁
      exact q .brk lo (bk sh₁) W₁ h₁ .brk t₁ k₁ l₁ p₁ r₁ n₁ i₁ rfl ht₁
    | cont =>
      cases f₁
      exact q .cont lo (bk sh₁) W₁ h₁ .cont t₁ k₁ l₁ p₁ r₁ n₁ i₁ rfl ht₁
    | ret d =>
      obtain ⟨v, rfl, hv⟩ := f₁
      exact q (.ret d) lo (bk sh₁) W₁ h₁ (.ret v) t₁ k₁ l₁ p₁ r₁ n₁ i₁ ⟨v, rfl, hv⟩ ht₁
end
end Mine
namespace Mine
noncomputable def HAt (G : Glo) (h : Heap) (a : Addr) (xs : List (List Str × Addr × Value)) (ep : Nat) : Prop :=
  ∃ o es, h.get? a = some o ∧ o.ExactDict ∧ o.data = .dict es ep ∧ es.toList = xs.map (entryOfKey (tK G))
section
variable {G : Glo} {A : Around} {E : Value → Shared → Prop} {s : Shared} {xs : List (List Str × Addr × Value)}
theorem HAt.typeIs {d ep} (x : HAt G s.heap d xs ep) : s.TypeIs (.ref d) "dict" := let ⟨o, _, ho, hc, _⟩ := x; ⟨o, ho, hc.1⟩
theorem pyIter_H {d : Addr} {ep : Nat} {Q : Value → Shared → Prop} (hd : (d == sysModules) = false) (hm : HAt G s.heap d xs ep)
    (hQ : Q (.ref s.heap.objs.size) { s with heap := s.heap.push { cls := .type "dict_keyiterator", data := .fields #[.ref d, .int 0 0, .int xs.length 0, .int ep 0] } }) :
    wpAny (model G.prog G.w) A (pyIter (.ref d)) Q E s := by
  have hT := hm.typeIs
  obtain ⟨o, es, ho, hc, hdat, hp⟩ := hm
  refine wpAny_pyIter_slot hT F.slot_dict_iter (wpAny_call_entry F.slot_dict_iter hT F.entry_dict_iter ?_ (F.args_dict_iter_1 _))
  unfold Builtin.«dict.__iter__»
  refine wpAny_bind ?_
  unfold Builtin.Dict.dictSlotNone
  refine wpAny_bind (wpAny_notOrdered_dict hT ?_)
  refine wpAny_pure ?_
  show wpAny _ _ (Builtin.Dict.showsAll d >>= _) _ _ s
  unfold Builtin.Dict.showsAll
  rw [if_neg (by rw [hd]; exact Bool.false_ne_true)]
  refine wpAny_bind (wpAny_pure ?_)
  refine wpAny_bind (wpAny_dictEntries ho hdat ?_)
  refine wpAny_bind (wpAny_dictEpoch ho hdat ?_)
  have hsz : es.size = xs.length := by rw [← Array.length_toList, hp, List.length_map]
  refine wpAny_bind (wpAny_newObj_type (wpAny_pure ⟨_, rfl, "dict_keyiterator", _, ⟨_, Heap.get?_push_size _ rfl, rfl⟩, F.slot_dict_keyiterator_next.lookup, ?_⟩))
  simpa [rawInt, hsz] using hQ
theorem pyNext_H {it d : Addr} {i ep : Nat} {k : List Str} {a : Addr} {v : Value} {Q : Option Value → Shared → Prop} (hit : s.heap.IsKeyIter it d i xs.length ep)
    (hm : HAt G s.heap d xs ep) (hx : xs[i]? = some (k, a, v))
    (hQ : ∀ h', h'.IsKeyIter it d (i + 1) xs.length ep → Heap.SameBut it s.heap h' → Q (some (.ref a)) { s with heap := h' }) :
    wpAny (model G.prog G.w) A (pyNext (.ref it)) Q E s := by
  obtain ⟨o, ho, hc, hd⟩ := id hit
  obtain ⟨od, es, hod, hcd, hdd, hp⟩ := id hm
  have hsz : es.size = xs.length := by rw [← Array.length_toList, hp, List.length_map]
  unfold pyNext
  refine wpAny_bind (wpAny_attempt (wpAny_callSpecial?_slot (name := Str.ofString "__next__") hit.typeIs F.slot_dict_keyiterator_next
    (wpAny_call_entry F.slot_dict_keyiterator_next hit.typeIs F.entry_dict_keyiterator_next ?_ (F.args_dict_keyiterator_next_1 _))))
  refine wpAny_bind (wpAny_pure ?_)
  refine wpAny_bind ?_
  refine wpAny_bind ?_
  first | refine wpAny_bind (wpAny_typeNameOfWhole_keyiter hit.typeIs (wpAny_pure ?_)) | refine wpAny_bind (wpAny_typeNameOf_keyiter hit.typeIs (wpAny_pure ?_))
  refine wpAny_bind (wpAny_fieldsOf ho hd ?_)
  have hown : Builtin.Dict_items.ownsTuple "dict_keyiterator" = false := by decide
  rw [hown]
  show wpAny _ _ (if (Value.ref d == Value.none) = true then _ else _) _ _ s
  rw [if_neg (show ¬ ((Value.ref d == Value.none) = true) from Bool.false_ne_true)]
  refine wpAny_bind (wpAny_pure ?_)
  refine wpAny_bind (wpAny_dictEntries hod hdd ?_)
  rw [if_neg (by rw [hsz]; simp)]
  refine wpAny_bind (wpAny_pure ?_)
  refine wpAny_bind (wpAny_dictEpoch hod hdd ?_)
  rw [if_neg (by simp)]
  refine wpAny_pure ?_
  have hlt : i < xs.length := (List.getElem?_eq_some_iff.mp hx).1
  have hlt' : i < es.size := by rw [hsz]; exact hlt
  have hkey : es[i].key = .ref a := by
    have : es.toList[i]? = some (entryOfKey (tK G) (k, a, v)) := by rw [hp, List.getElem?_map, hx]; rfl
    rw [Array.getElem?_toList, Array.getElem?_eq_getElem hlt'] at this
    rw [Option.some.inj this]; rfl
  simp only [show ¬ ((i : Int) < 0) from by omega, if_false, Int.toNat_natCast, Array.getElem?_eq_getElem hlt']
  refine wpAny_bind ?_
  first | refine wpAny_bind (wpAny_typeNameOfWhole_keyiter hit.typeIs (wpAny_pure ?_)) | refine wpAny_bind (wpAny_typeNameOf_keyiter hit.typeIs (wpAny_pure ?_))
  refine wpAny_bind (wpAny_isOneOf_keyiter hit.typeIs ?_)
  show wpAny _ _ (setField (.ref it) 1 (rawInt ((i : Int) + 1)) >>= _) _ _ s
  refine wpAny_bind (wpAny_setField ho hd (by simp) ?_)
  have hit' : (s.heap.update it (Obj.mapFields (·.setIfInBounds 1 (rawInt ((i : Int) + 1))))).IsKeyIter it d (i + 1) xs.length ep :=
    ⟨_, Heap.get?_update_self _ ho (Obj.isFreed_of_fields (Obj.data_mapFields hd _)), (Obj.cls_mapFields ..).trans hc, by rw [Obj.data_mapFields hd]; simp [rawInt]⟩
  refine wpAny_bind (wpAny_holding ?_)
  refine wpAny_bind (wpAny_isOneOf_keyiter (s := { s with heap := s.heap.update it (Obj.mapFields (·.setIfInBounds 1 (rawInt ((i : Int) + 1)))) }) hit'.typeIs ?_)
  show wpAny _ _ (pure es[i].key) _ _ _
  rw [hkey]
  exact wpAny_pure (wpAny_pure ⟨_, rfl, wpAny_pure (hQ _ hit' (Heap.SameBut.update ..))⟩)
theorem pyEnd_H {it d : Addr} {i ep : Nat} {Q : Option Value → Shared → Prop} (hh : A.handled = none) (hit : s.heap.IsKeyIter it d i xs.length ep)
    (hm : HAt G s.heap d xs ep) (hx : xs.length ≤ i) (hQ : ∀ h', Heap.ExtBut it s.heap h' → Q none { s with heap := h' }) : wpAny (model G.prog G.w) A (pyNext (.ref it)) Q E s := by
  obtain ⟨o, ho, hc, hd⟩ := id hit
  obtain ⟨od, es, hod, hcd, hdd, hp⟩ := id hm
  have hsz : es.size = xs.length := by rw [← Array.length_toList, hp, List.length_map]
  unfold pyNext
  refine wpAny_bind (wpAny_attempt (wpAny_callSpecial?_slot (name := Str.ofString "__next__") hit.typeIs F.slot_dict_keyiterator_next
    (wpAny_call_entry F.slot_dict_keyiterator_next hit.typeIs F.entry_dict_keyiterator_next ?_ (F.args_dict_keyiterator_next_1 _))))
  refine wpAny_bind (wpAny_pure ?_)
  refine wpAny_bind ?_
  refine wpAny_bind ?_
  first | refine wpAny_bind (wpAny_typeNameOfWhole_keyiter hit.typeIs (wpAny_pure ?_)) | refine wpAny_bind (wpAny_typeNameOf_keyiter hit.typeIs (wpAny_pure ?_))
  refine wpAny_bind (wpAny_fieldsOf ho hd ?_)
  have hown : Builtin.Dict_items.ownsTuple "dict_keyiterator" = false := by decide
  rw [hown]
  show wpAny _ _ (if (Value.ref d == Value.none) = true then _ else _) _ _ s
  rw [if_neg (show ¬ ((Value.ref d == Value.none) = true) from Bool.false_ne_true)]
  refine wpAny_bind (wpAny_pure ?_)
  refine wpAny_bind (wpAny_dictEntries hod hdd ?_)
  rw [if_neg (by rw [hsz]; simp)]
  refine wpAny_bind (wpAny_pure ?_)
  refine wpAny_bind (wpAny_dictEpoch hod hdd ?_)
  rw [if_neg (by simp)]
  refine wpAny_pure ?_
  have hge : es.size ≤ i := by rw [hsz]; exact hx
  simp only [show ¬ ((i : Int) < 0) from by omega, if_false, Int.toNat_natCast, Array.getElem?_eq_none hge]
  refine wpAny_bind ?_
  first | refine wpAny_bind (wpAny_typeNameOfWhole_keyiter hit.typeIs (wpAny_pure ?_)) | refine wpAny_bind (wpAny_typeNameOf_keyiter hit.typeIs (wpAny_pure ?_))
  show wpAny _ _ (setField (.ref it) 0 .none >>= _) _ _ s
  refine wpAny_bind (wpAny_setField ho hd (by simp) ?_)
  show wpAny _ _ (newExc (.type "StopIteration") [] >>= _) _ _ _
  refine wpAny_bind ?_
  simp only [newExc, newTuple]
  refine wpAny_bind (wpAny_newObj_type ?_ (by size_fits))
  refine wpAny_bind (m := firstArgMember _ _) (wpAny_of_eq (a := Value.none) (by first | rfl | (simp only [firstArgMember]; rfl)) ?_)
  refine wpAny_newObj_type ?_ (by size_fits)
  simp only [raiseNew]
  refine wpAny_bind (wpAny_handled ?_)
  rw [show A.in1.handled = none from hh]
  refine wpAny_bind (wpAny_pure (wpAny_throw ?_))
  refine wpAny_bind (wpAny_isInstance (T := "StopIteration") (b := true) ⟨_, Heap.get?_push_size _ rfl, rfl⟩ isSubtype_stop ?_)
  exact wpAny_pure (hQ _ (((Heap.SameBut.update ..).extBut.push _).push _))
end
noncomputable def iterT (T : String) : Bool := T == "list_iterator" || T == "tuple_iterator" || T == "dict_keyiterator" || T == "range_iterator" || T == "str_iterator" || T == "str_ascii_iterator"
inductive ItOb (I : Addr) (h : Heap) : Prop
  | mk (o : Obj) (T : String) (ho : h.get? I = some o) (hc : o.cls = .type T) (hT : iterT T = true) (vs : Array Value) (hd : o.data = .fields vs) : ItOb I h
structure Iter (G : Glo) (I : Addr) (ds : List D) (P : Nat → Heap → Prop) (B : Wd → Heap → Prop) : Prop where
  keepB : ∀ W h W' h', B W h → Lv W h W' h' → B W' h'
  low : ∀ W h n, belowL n ds = true → B W h → B (W.low n) h
  keepP : ∀ i h h', P i h → (∀ o, h.get? I = some o → h'.get? I = some o) → P i h'
  ex : ∀ i h, P i h → ItOb I h
  item : ∀ i (W : Wd) (A : Around) (s : Shared) (Q : Option Value → Shared → Prop) (E : Value → Shared → Prop) d, A.handled = none → ds[i]? = some d → P i s.heap → B W s.heap →
    (∀ v h' tk, V G W s.heap d v → P (i + 1) h' → (∀ b o, b ≠ I → s.heap.get? b = some o → h'.get? b = some o) → s.toks ≤ tk → Q (some v) { s with heap := h', toks := tk }) → wpAny (model G.prog G.w) A (pyNext (.ref I)) Q E s
  done : ∀ i (W : Wd) (A : Around) (s : Shared) (Q : Option Value → Shared → Prop) (E : Value → Shared → Prop), A.handled = none → ds.length ≤ i → P i s.heap → B W s.heap →
    (∀ h' tk, (∀ b o, b ≠ I → s.heap.get? b = some o → h'.get? b = some o) → s.toks ≤ tk → Q none { s with heap := h', toks := tk }) → wpAny (model G.prog G.w) A (pyNext (.ref I)) Q E s
theorem Iter.list {G : Glo} {I ax : Addr} {items : Array Value} {ds : List D} : Iter G I ds (fun i h => h.IsListIter I ax i) fun W h => W.own ax = none ∧ h.IsList ax items ∧ VL G W h ds items.toList where
  keepB := fun W h W' h' b l => by
    obtain ⟨b, c, d⟩ := b
    obtain ⟨o, ho, r⟩ := id c
    exact ⟨(l.fz _ _ b ho).1, c.at fun o e => (l.fz _ _ b e).2, VL.monoV l d⟩
  low := fun W h n e b => ⟨b.1, b.2.1, b.2.2.low e⟩
  keepP := fun i h h' p k => p.at k
  ex := fun i h p => by obtain ⟨o, ho, hc, hd⟩ := p; exact ⟨o, _, ho, hc, by decide +kernel, _, hd⟩
  item := fun i W A s Q E d hh hd p b k => by
    obtain ⟨v, hv, hvd⟩ := b.2.2.get hd
    rw [Array.getElem?_toList] at hv
    exact wpAny_pyNext_list_item p b.2.1 hv fun h' hit' hs' => k v h' s.toks hvd hit' (fun b o hb eo => (hs'.2 b hb).trans eo) (Nat.le_refl _)
  done := fun i W A s Q E hh hd p b k =>
    wpAny_pyNext_list_end hh p b.2.1 (Array.getElem?_eq_none (b.2.2.size ▸ hd)) fun h' he' => k h' s.toks (fun b o hb eo => he' b o hb eo) (Nat.le_refl _)
theorem Iter.tuple {G : Glo} {I ax : Addr} {items : Array Value} {ds : List D} : Iter G I ds (fun i h => h.IsTupleIter I ax i) fun W h => W.own ax = none ∧ h.IsTuple ax items ∧ VL G W h ds items.toList where
  keepB := fun W h W' h' b l => by
    obtain ⟨b, c, d⟩ := b
    obtain ⟨o, ho, r⟩ := id c
    exact ⟨(l.fz _ _ b ho).1, c.at fun o e => (l.fz _ _ b e).2, VL.monoV l d⟩
  low := fun W h n e b => ⟨b.1, b.2.1, b.2.2.low e⟩
  keepP := fun i h h' p k => p.at k
  ex := fun i h p => by obtain ⟨o, ho, hc, hd⟩ := p; exact ⟨o, _, ho, hc, by decide +kernel, _, hd⟩
  item := fun i W A s Q E d hh hd p b k => by
    obtain ⟨v, hv, hvd⟩ := b.2.2.get hd
    rw [Array.getElem?_toList] at hv
    exact wpAny_pyNext_tuple_item p b.2.1 hv fun h' hit' hs' => k v h' s.toks hvd hit' (fun b o hb eo => (hs'.2 b hb).trans eo) (Nat.le_refl _)
  done := fun i W A s Q E hh hd p b k =>
    wpAny_pyNext_tuple_end hh p b.2.1 (Array.getElem?_eq_none (b.2.2.size ▸ hd)) fun h' he' => k h' s.toks (fun b o hb eo => he' b o hb eo) (Nat.le_refl _)
inductive WalkI (s : Shared) (I : Addr) (P : Value → Prop) (St : Heap → Prop) (r : Option Value) (s' : Shared) : Prop
  | mk (v : Value) (h' : Heap) (tk : Nat) (er : r = some v) (es : s' = { s with heap := h', toks := tk }) (hv : P v) (hs : St h') (hk : ∀ b o, b ∉ [I] → s.heap.get? b = some o → h'.get? b = some o) : WalkI s I P St r s'
inductive WalkD (s : Shared) (I : Addr) (r : Option Value) (s' : Shared) : Prop
  | mk (h' : Heap) (tk : Nat) (er : r = Option.none) (es : s' = { s with heap := h', toks := tk }) (hk : ∀ b o, b ∉ [I] → s.heap.get? b = some o → h'.get? b = some o) : WalkD s I r s'
theorem Iter.walk {G : Glo} {I : Addr} {n : Nat} {P : Nat → Value → Prop} {St : Nat → Heap → Prop} {ds : List D} (Wk : ∀ A : Around, A.handled = none → Walks G.prog G.w A I [I] [I] n P St) (hl : ds.length = n) (hP : ∀ i v d, P i v → ds[i]? = some d → ∀ W h, V G W h d v)
    (hex : ∀ i h, St i h → ItOb I h) : Iter G I ds (fun i h => i ≤ n ∧ St i h) fun _ _ => True where
  keepB := fun W h W' h' b l => trivial
  low := fun W h n e b => trivial
  keepP := fun i h h' x k => ⟨x.1, (Wk { } rfl).frame i h h' x.2 fun b hb o e => List.mem_singleton.mp hb ▸ k o (List.mem_singleton.mp hb ▸ e)⟩
  ex := fun i h x => hex i h x.2
  item := fun i W A s Q E d hh hd x _ k => by
    have hi : i < n := hl ▸ (List.getElem?_eq_some_iff.mp hd).1
    refine wpAny_mono (wpAny_toks ((Wk A hh).item i s (WalkI s I (P i) (St (i + 1))) E hi x.2 fun v h' tk hv hs hk => ⟨v, h', tk, rfl, rfl, hv, hs, hk⟩)) (fun r s' y => ?_) fun _ _ y => y.2
    obtain ⟨tl, v, h', tk, rfl, rfl, hv, hs, hk⟩ := y
    exact k v h' tk (hP i v d hv hd W s.heap) ⟨hi, hs⟩ (fun b o hb eo => hk b o (fun z => hb (List.mem_singleton.mp z)) eo) tl
  done := fun i W A s Q E hh hd x _ k => by
    obtain rfl : i = n := Nat.le_antisymm x.1 (hl ▸ hd)
    refine wpAny_mono (wpAny_toks ((Wk A hh).done s (WalkD s I) E x.2 fun h' tk hk => ⟨h', tk, rfl, rfl, hk⟩)) (fun r s' y => ?_) fun _ _ y => y.2
    obtain ⟨tl, h', tk, rfl, rfl, hk⟩ := y
    exact k h' tk (fun b o hb eo => hk b o (fun z => hb (List.mem_singleton.mp z)) eo) tl
theorem Iter.keys {G : Glo} {I d : Addr} {kvs : List (Str × Value)} {ep : Nat} : Iter G I ((kvs.map (·.1)).map .str) (fun i h => h.IsKeyIter I d i kvs.length ep) fun W h => W.own d = none ∧ h.DictAt (sK G) d kvs ep where
  keepB := fun W h W' h' b l => by
    obtain ⟨b, c⟩ := b
    obtain ⟨o, es, ho, r⟩ := id c
    exact ⟨(l.fz _ _ b ho).1, c.at' fun o e => (l.fz _ _ b e).2⟩
  low := fun W h n e b => b
  keepP := fun i h h' p k => p.at k
  ex := fun i h p => by obtain ⟨o, ho, hc, hd⟩ := p; exact ⟨o, _, ho, hc, by decide +kernel, _, hd⟩
  item := fun i W A s Q E dd hh hd p b k => by
    rw [List.getElem?_map, List.getElem?_map] at hd
    obtain ⟨x, hx, rfl⟩ := map_out hd
    obtain ⟨q, hq, rfl⟩ := map_out hx
    refine wpAny_pyNext_dict_item p b.2 (k := q.1) (v := q.2) hq fun key h' hkey hit' hs' => k key h' s.toks ?_ hit' (fun b o hb eo => (hs'.2 b hb).trans eo) (Nat.le_refl _)
    obtain ⟨t, rfl⟩ := Value.isStrOf_shape hkey
    exact V.str trivial
  done := fun i W A s Q E hh hd p b k =>
    wpAny_pyNext_dict_end hh p b.2 (List.getElem?_eq_none (by rw [List.length_map, List.length_map] at hd; exact hd)) fun h' he' => k h' s.toks (fun b o hb eo => he' b o hb eo) (Nat.le_refl _)
end Mine
namespace Mine
noncomputable def frzOf : T → Option D
  | .lst xs => some (.lst xs)
  | .sd ks vs => some (.sd ks vs)
  | .pd ks vs => some (.pd ks vs)
  | .frz d => some d
  | .obj _ _ _ => Option.none
noncomputable def Wd.frz (W : Wd) (a : Addr) : Wd := ⟨fun b => if b = a then none else W.own b, W.ρ, W.n⟩
theorem own_of {W : Wd} {k : Nat} {t : T} (h : OwnT W k t) : (∃ d, t = .frz d ∧ W.own (W.ρ k) = none) ∨ ((∀ d, t ≠ .frz d) ∧ W.own (W.ρ k) = some (.t k)) := by
  cases t with
  | frz d => exact .inl ⟨d, rfl, h⟩
  | _ => exact .inr ⟨fun _ e => (nomatch e), h⟩
theorem At.frz {G : Glo} {W : Wd} {sh : Sh} {s : Shared} (at_ : At G W sh s) {k : Nat} {t : T} {d : D} (e : sh.tr.lookup k = some t) (hd : frzOf t = some d) :
    ∃ W', At G W' { sh with tr := setT sh.tr k (.frz d) } s ∧ Le W s.heap W' s.heap ∧ Kp W s.heap s.heap ∧ V G W' s.heap d (.ref (W.ρ k)) := by
  have R := at_.rep
  have q := R.trk _ _ e
  rcases own_of q.2.1 with ⟨d', rfl, ow⟩ | ⟨nf, ow⟩
  · cases hd
    refine ⟨W, ⟨R.chg Le.refl.v R.ownd fun j u z => ?_, at_.n, at_.tk⟩, Le.refl, Kp.refl, q.2.2.2.2⟩
    rw [lookup_setT] at z
    by_cases hj : j = k
    · subst hj; rw [if_pos rfl, e] at z; cases z; exact .inr q
    · rw [if_neg hj] at z; exact .inl ⟨z, fun _ _ => ⟨rfl, fun _ x => x⟩⟩
  · have ne : ∀ {a w}, W.own a = w → w ≠ some (.t k) → a ≠ W.ρ k := fun p n e => n (p.symm.trans (e ▸ ow))
    have l : Le W s.heap (W.frz (W.ρ k)) s.heap := ⟨fun a o p q => ⟨(if_neg (ne p nofun)).trans p, q⟩, fun a p => (if_neg (ne p nofun)).trans p, Nat.le_refl _, fun _ _ => rfl, fun a o p q => ⟨(if_neg (ne p nofun)).trans p, q⟩⟩
    have o' : (W.frz (W.ρ k)).own (W.ρ k) = none := if_pos rfl
    have hv : V G (W.frz (W.ρ k)) s.heap d (.ref (W.ρ k)) := by
      have ht := q.2.2
      cases t with
      | frz d' => exact absurd rfl (nf _)
      | lst xs => cases hd; obtain ⟨vs, n, a, b⟩ := ht; exact ⟨_, vs, n, rfl, o', a, VL.mono l b⟩
      | sd ks ds => cases hd; obtain ⟨kvs, a, b, c, f⟩ := ht; exact ⟨_, kvs, rfl, o', a, b, c, VL.mono l f⟩
      | pd ks ds => cases hd; obtain ⟨xs, a, b, c, f, g⟩ := ht; exact ⟨_, xs, rfl, o', a, b, fun x hx => (c x hx).mono l.v, f, VL.mono l g⟩
      | obj C fs ds => exact nos hd
    refine ⟨W.frz (W.ρ k), ⟨R.chg l.v (fun a w z => ?_) fun j u z => ?_, at_.n, at_.tk⟩, l, Kp.refl, hv⟩
    · by_cases ha : a = W.ρ k
      · exact nos ((if_pos ha).symm.trans z)
      · exact R.ownd a w ((if_neg ha).symm.trans z)
    · rw [lookup_setT] at z
      by_cases hj : j = k
      · subst hj; rw [if_pos rfl, e] at z; cases z
        exact .inr ⟨q.1, o', R.ownd _ _ ow, o', hv⟩
      · rw [if_neg hj] at z
        refine .inl ⟨z, fun a x => ⟨if_neg ?_, fun _ y => y⟩⟩
        cases x with
        | inl x => exact ne x fun e => hj (Own.t.inj (Option.some.inj e))
        | inr x => exact ne x nofun
noncomputable def Wd.hold (W : Wd) (a : Addr) : Wd := ⟨fun b => if b = a then some .f else W.own b, W.ρ, W.n⟩
theorem At.hold {G : Glo} {W : Wd} {sh : Sh} {s : Shared} (at_ : At G W sh s) {o : Obj} (hf : o.isFreed = false) :
    At G (W.hold s.heap.objs.size) sh { s with heap := s.heap.push o } ∧ Le W s.heap (W.hold s.heap.objs.size) (s.heap.push o) ∧ Kp W s.heap (s.heap.push o) ∧ (W.hold s.heap.objs.size).own s.heap.objs.size = some .f := by
  have fr := at_.rep.fresh
  have kk : ∀ b ob, s.heap.get? b = some ob → (s.heap.push o).get? b = some ob := fun _ _ e => Heap.get?_push_of_some _ e
  have R := at_.rep
  have ne : ∀ {b ob}, s.heap.get? b = some ob → b ≠ s.heap.objs.size := fun h => Nat.ne_of_lt (Heap.lt_size h)
  have ne2 : ∀ {b w}, W.own b = some w → b ≠ s.heap.objs.size := fun h e => nos (fr.symm.trans (e ▸ h))
  have l : Le W s.heap (W.hold s.heap.objs.size) (s.heap.push o) := ⟨fun b ob p q => ⟨(if_neg (ne q)).trans p, kk _ _ q⟩, fun b p => (if_neg (ne2 p)).trans p, Nat.le_refl _, fun _ _ => rfl, fun b ob p q => ⟨(if_neg (ne q)).trans p, kk _ _ q⟩⟩
  refine ⟨⟨R.chg l.v (fun b w q => ?_) fun j u q => .inl ⟨q, fun a x => ⟨if_neg ?_, kk a⟩⟩, at_.n, at_.tk⟩, l, Kp.grow kk, if_pos rfl⟩
  · by_cases hb : b = s.heap.objs.size
    · exact hb ▸ ⟨o, Heap.get?_push_size _ hf⟩
    · obtain ⟨ob, z⟩ := R.ownd b w ((if_neg hb).symm.trans q)
      exact ⟨ob, kk _ _ z⟩
  · cases x with
    | inl x => exact ne2 x
    | inr x => exact ne2 x
noncomputable def keyD (k : List Str) : D := .tup (k.map .str)
noncomputable def iterR (o : Option T) (K : List D → D → Prop) : Prop := match o with
  | some (.lst ds) => K ds (.lst ds)
  | some (.sd ks vs) => K (ks.map .str) (.sd ks vs)
  | some (.frz (.lst ds)) => K ds (.lst ds)
  | some (.frz (.sd ks vs)) => K (ks.map .str) (.sd ks vs)
  | _ => False
inductive IterR (o : Option T) (K : List D → D → Prop) : Prop
  | l (t : T) (ds : List D) (e : o = some t) (f : frzOf t = some (.lst ds)) (k : K ds (.lst ds)) : IterR o K
  | s (t : T) (ks : List Str) (vs : List D) (e : o = some t) (f : frzOf t = some (.sd ks vs)) (k : K (ks.map .str) (.sd ks vs)) : IterR o K
theorem iterR_out {o : Option T} {K : List D → D → Prop} (h : iterR o K) : IterR o K := by
  cases o with
  | none => exact False.elim h
  | some t => cases t with
    | lst ds => exact .l _ ds rfl rfl h
    | sd ks vs => exact .s _ ks vs rfl rfl h
    | frz d => cases d with
      | lst ds => exact .l _ ds rfl rfl h
      | sd ks vs => exact .s _ ks vs rfl rfl h
      | _ => exact False.elim h
    | _ => exact False.elim h
noncomputable def iterD (d : D) (sh : Sh) (K : List D → Sh → Prop) : Prop := match d with
  | .tup ds => K ds sh
  | .lst ds => K ds sh
  | .sd ks _ => K (ks.map .str) sh
  | .pd ks _ => K (ks.map keyD) sh
  | .rng m => need (0 ≤ m ∧ m ≤ 10000) sh (K ((List.range m.toNat).map fun i : Nat => .int i) sh)
  | .str x => K (x.cps.toList.map fun c => .str ⟨#[c]⟩) sh
  | .ref k => iterR (sh.tr.lookup k) fun ds d => K ds { sh with tr := setT sh.tr k (.frz d) }
  | _ => False
theorem items_vl {G : Glo} {W : Wd} {h : Heap} {ks : List Str} {vs : List Value} (x : PySem.ItemsAre (sK G) ks vs) : VL G W h (ks.map .str) vs := by
  induction x with
  | nil => trivial
  | cons hk r ih =>
    obtain ⟨t, rfl⟩ := Value.isStrOf_shape hk
    exact ⟨V.str trivial, ih⟩
theorem Iter.keysH {G : Glo} {I d : Addr} {xs : List (List Str × Addr × Value)} {ep : Nat} {n : Nat} (hn : n = xs.length) :
    Iter G I ((xs.map (·.1)).map keyD) (fun i h => h.IsKeyIter I d i n ep) fun W h => W.own d = none ∧ HAt G h d xs ep ∧ ∀ x ∈ xs, KeyOk W h x.2.1 ∧ IsTupleKey (sK G) h x.1 x.2.1 where
  keepB := fun W h W' h' b l => by
    obtain ⟨b, c, e⟩ := b
    obtain ⟨o, es, ho, r⟩ := id c
    refine ⟨(l.fz _ _ b ho).1, ⟨o, es, (l.fz _ _ b ho).2, r⟩, fun x hx => ?_⟩
    obtain ⟨e1, ob, it, m, h1, h2⟩ := e x hx
    exact ⟨e1.mono l, ob, it, m, (l.fz _ _ e1.1 h1).2, h2⟩
  low := fun W h n e b => b
  keepP := fun i h h' p k => p.at k
  ex := fun i h p => by obtain ⟨o, ho, hc, hd⟩ := p; exact ⟨o, _, ho, hc, by decide +kernel, _, hd⟩
  item := fun i W A s Q E dd hh hd p b k => by
    subst hn
    obtain ⟨b, c, e⟩ := b
    rw [List.getElem?_map, List.getElem?_map] at hd
    obtain ⟨x, hx, rfl⟩ := map_out hd
    obtain ⟨q, hp, rfl⟩ := map_out hx
    refine pyNext_H p c (k := q.1) (a := q.2.1) (v := q.2.2) hp fun h' hit' hs' => k (.ref q.2.1) h' s.toks ?_ hit' (fun b o hb eo => (hs'.2 b hb).trans eo) (Nat.le_refl _)
    obtain ⟨⟨e1, it', m', h5⟩, ob, it, m, h1, h2, h3, h4⟩ := e q (List.mem_of_getElem? hp)
    rw [h5] at h1; cases h1; cases h3
    exact ⟨_, _, _, rfl, e1, h5, items_vl h4⟩
  done := fun i W A s Q E hh hd p b k => by
    subst hn
    exact pyEnd_H hh p b.2.1 (by rw [List.length_map, List.length_map] at hd; exact hd) fun h' he' => k h' s.toks (fun b o hb eo => he' b o hb eo) (Nat.le_refl _)
end Mine
namespace Mine
theorem Rep.let_go {G : Glo} {W : Wd} {tr} {h h' : Heap} (R : Rep G W tr h) {I : Addr} (hI : W.own I = some .f) (kk : ∀ b o, b ≠ I → h.get? b = some o → h'.get? b = some o) :
    Rep G (W.frz I) tr h' ∧ Lv W h (W.frz I) h' := by
  have ne : ∀ {b w}, W.own b = w → w ≠ some .f → b ≠ I := fun p n e => n (p.symm.trans (e ▸ hI))
  have l : Lv W h (W.frz I) h' := ⟨fun a o p q => ⟨(if_neg (ne p nofun)).trans p, kk a o (ne p nofun) q⟩, Nat.le_refl _, fun _ _ => rfl⟩
  refine ⟨R.chg l (fun b w q => ?_) fun j u q => .inl ⟨q, fun a x => ?_⟩, l⟩
  · by_cases hb : b = I
    · exact nos ((if_pos hb).symm.trans q)
    · obtain ⟨o, z⟩ := R.ownd b w ((if_neg hb).symm.trans q)
      exact ⟨o, kk b o hb z⟩
  · have n : a ≠ I := by
      cases x with
      | inl x => exact ne x nofun
      | inr x => exact ne x nofun
    exact ⟨if_neg n, fun o => kk a o n⟩
theorem Rep.upX {G : Glo} {W : Wd} {tr} {h h' : Heap} (R : Rep G W tr h) {a : Addr} (ha : W.own a = some .f) (kk : ∀ b o, b ≠ a → h.get? b = some o → h'.get? b = some o) {ob : Obj} (hob : h'.get? a = some ob) : Rep G W tr h' ∧ Le W h W h' := by
  have ne : ∀ {b w}, W.own b = w → w ≠ some .f → b ≠ a := fun p n e => n (p.symm.trans (e ▸ ha))
  have l : Le W h W h' := ⟨fun b o p q => ⟨p, kk b o (ne p nofun) q⟩, fun _ p => p, Nat.le_refl _, fun _ _ => rfl, fun b o p q => ⟨p, kk b o (ne p nofun) q⟩⟩
  refine ⟨R.chg l.v (fun b w q => ?_) fun j u q => .inl ⟨q, fun b x => ⟨rfl, fun o => kk b o ?_⟩⟩, l⟩
  · by_cases hb : b = a
    · exact ⟨ob, hb ▸ hob⟩
    · obtain ⟨o, z⟩ := R.ownd b w q
      exact ⟨o, kk b o hb z⟩
  · cases x with
    | inl x => exact ne x nofun
    | inr x => exact ne x nofun
section
variable {cf : Cf} {G : Glo} {r : Ev} {A : Around} {n : Nat} {E : Value → Shared → Prop} {env : Env} {ρ : Loc}
inductive Itd (G : Glo) (W : Wd) (A : Around) (n : Nat) (env : Env) (ρ : Loc) (s : Shared) (K : List D → Sh → Prop) (it : Value) (s₁ : Shared) : Prop
  | mk (ds : List D) (sh₁ : Sh) (W₁ : Wd) (h₁ : Heap) (I : Addr) (P : Nat → Heap → Prop) (B : Wd → Heap → Prop) (e0 : it = .ref I) (e1 : s₁ = { s with heap := h₁ }) (e2 : K ds sh₁) (e3 : S1 G W₁ sh₁ A n env ρ s₁) (e4 : Le W s.heap W₁ h₁) (e5 : Kp W s.heap h₁)
    (e6 : ∀ o, s.heap.get? I ≠ some o) (e7 : W₁.own I = some .f) (e8 : Iter G I ds P B) (e9 : P 0 h₁) (e10 : B W₁ h₁) : Itd G W A n env ρ s K it s₁
theorem itd_of {W : Wd} {sh : Sh} {s : Shared} {K : List D → Sh → Prop} {ds : List D} {o : Obj} {P : Nat → Heap → Prop} {B : Wd → Heap → Prop} (k : K ds sh) (st : S1 G W sh A n env ρ s) (hf : o.isFreed = false) (it : Iter G s.heap.objs.size ds P B)
    (p0 : P 0 (s.heap.push o)) (b0 : B W s.heap) : Itd G W A n env ρ s K (.ref s.heap.objs.size) { s with heap := s.heap.push o } := by
  obtain ⟨a, b, c, d⟩ := st.at_.hold hf
  exact ⟨ds, sh, _, _, _, P, B, rfl, rfl, k, ⟨st.rm.mono b c, a, st.is.mono b c⟩, b, c, fun o e => Nat.lt_irrefl _ (Heap.lt_size e), d, it, p0, it.keepB _ _ _ _ b0 b.v⟩
theorem Itd.back {W W' : Wd} {s : Shared} {K : List D → Sh → Prop} {it : Value} {s₁ : Shared} (x : Itd G W' A n env ρ s K it s₁) (l : Le W s.heap W' s.heap) (k : Kp W s.heap s.heap) : Itd G W A n env ρ s K it s₁ := by
  obtain ⟨ds, sh₁, W₁, h₁, I, P, B, a, b, c, d, e, f, g, h, i, j, m⟩ := x
  exact ⟨ds, sh₁, W₁, h₁, I, P, B, a, b, c, d, l.trans e, Kp.trans l k f, g, h, i, j, m⟩
theorem lst_itd {W : Wd} {sh : Sh} {s : Shared} {K : List D → Sh → Prop} {ds : List D} {v : Value} (k : K ds sh) (st : S1 G W sh A n env ρ s) (hv : V G W s.heap (.lst ds) v) :
    wpAny (model G.prog G.w) A (pyIter v) (fun it s₁ => Itd G W A n env ρ s K it s₁) E s := by
  obtain ⟨a, vs, m, rfl, ow, hl, rr⟩ := hv
  have hL : s.heap.IsList a vs := ⟨_, hl, rfl, _, rfl⟩
  exact wpAny_pyIter_list hL (itd_of k st rfl (Iter.list (ax := a) (items := vs)) ⟨_, Heap.get?_push_size _ rfl, rfl, rfl⟩ ⟨ow, hL, rr⟩)
theorem sd_itd {W : Wd} {sh : Sh} {s : Shared} {K : List D → Sh → Prop} {ks : List Str} {ds : List D} {v : Value} (k : K (ks.map .str) sh) (st : S1 G W sh A n env ρ s) (hv : V G W s.heap (.sd ks ds) v) :
    wpAny (model G.prog G.w) A (pyIter v) (fun it s₁ => Itd G W A n env ρ s K it s₁) E s := by
  obtain ⟨a, kvs, rfl, ow, sm, hd, rfl, rr⟩ := hv
  obtain ⟨o, es, ep, ho, h1, h2, h3, h4, h5⟩ := id hd
  have hA : s.heap.DictAt (sK G) a kvs ep := ⟨o, es, ho, h1, h2, h3, h4, h5⟩
  exact wpAny_pyIter_dict sm hA (itd_of k st rfl (Iter.keys (ep := ep) (d := a)) ⟨_, Heap.get?_push_size _ rfl, rfl, rfl⟩ ⟨ow, hA⟩)
theorem pd_itd {W : Wd} {sh : Sh} {s : Shared} {K : List D → Sh → Prop} {ks : List (List Str)} {ds : List D} {v : Value} (k : K (ks.map keyD) sh) (st : S1 G W sh A n env ρ s) (hv : V G W s.heap (.pd ks ds) v) :
    wpAny (model G.prog G.w) A (pyIter v) (fun it s₁ => Itd G W A n env ρ s K it s₁) E s := by
  obtain ⟨a, xs, rfl, ow, sm, hd, hk, rfl, rr⟩ := hv
  obtain ⟨o, es, ep, ho, h1, h2, h3, h4, h5⟩ := id hd
  have hA : HAt G s.heap a xs ep := ⟨o, es, ho, h1, h2, h3⟩
  exact pyIter_H sm hA (itd_of k st rfl (Iter.keysH (ep := ep) (d := a) rfl) ⟨_, Heap.get?_push_size _ rfl, rfl, rfl⟩ ⟨ow, hA, fun x hx => ⟨hk x hx, h4 x hx⟩⟩)
theorem rng_itd {W : Wd} {sh : Sh} {s : Shared} {K : List D → Sh → Prop} {m : Int} {v : Value} (c : 0 ≤ m ∧ m ≤ 10000) (k : K ((List.range m.toNat).map fun i : Nat => .int i) sh) (st : S1 G W sh A n env ρ s) (hv : V G W s.heap (.rng m) v) :
    wpAny (model G.prog G.w) A (pyIter v) (fun it s₁ => Itd G W A n env ρ s K it s₁) E s := by
  obtain ⟨a, t, u, cc, rfl, ow, hr⟩ := hv
  obtain ⟨k', rfl⟩ := Int.eq_ofNat_of_zero_le c.1
  have hsz : Builtin.Range.rangeSize 0 (k' : Int) 1 = k' := by rw [rangeSize_one]; split <;> lia
  refine wpAny_pyIter_range hr (small_one (by lia) (by lia) (by lia) (by lia)) (itd_of k st rfl (Iter.walk (fun A hh => Walks.range hh s.heap.objs.size 0 1 k') ((List.length_map ..).trans List.length_range) ?_ ?_) ⟨Nat.zero_le _, ?_⟩ trivial)
  · rintro i v d ⟨t, rfl⟩ hd W h
    rw [List.getElem?_map] at hd
    obtain ⟨j, hj, rfl⟩ := map_out hd
    obtain ⟨hlt, rfl⟩ := List.getElem?_eq_some_iff.mp hj
    rw [List.getElem_range, Int.zero_add, Int.mul_one]
    exact V.int trivial
  · exact fun i h e => ⟨_, _, e, rfl, by decide +kernel, _, rfl⟩
  · show Heap.get? _ _ = _
    rw [hsz]
    exact Heap.get?_push_size _ rfl
theorem str_itd {W : Wd} {sh : Sh} {s : Shared} {K : List D → Sh → Prop} {x : Str} {v : Value} (k : K (x.cps.toList.map fun c => .str ⟨#[c]⟩) sh) (st : S1 G W sh A n env ρ s) (hv : V G W s.heap (.str x) v) :
    wpAny (model G.prog G.w) A (pyIter v) (fun it s₁ => Itd G W A n env ρ s K it s₁) E s := by
  obtain ⟨t, _, rfl⟩ := hv
  have P : ∀ i v (d : D), SignAt x i v → (x.cps.toList.map fun c => D.str ⟨#[c]⟩)[i]? = some d → ∀ W h, V G W h d v := by
    rintro i v d ⟨c, u, hc, rfl⟩ hd W h
    rw [List.getElem?_map, Array.getElem?_toList, hc] at hd
    cases hd
    exact V.str trivial
  have hl : (x.cps.toList.map fun c => D.str ⟨#[c]⟩).length = x.cps.size := (List.length_map ..).trans Array.length_toList
  cases ha : x.cps.all (· < 128)
  · exact wpAny_pyIter_wide ha (itd_of k st rfl (Iter.walk (fun A hh => Walks.strWide hh _ x t) hl P (fun i h e => by obtain ⟨o, ho, hc, hd⟩ := e; exact ⟨o, _, ho, hc, by decide +kernel, _, hd⟩)) ⟨Nat.zero_le _, _, Heap.get?_push_size _ rfl, rfl, rfl⟩ trivial)
  · exact wpAny_pyIter_ascii ha (itd_of k st rfl (Iter.walk (fun A hh => Walks.strAscii hh _ x t) hl P (fun i h e => by obtain ⟨o, ho, hc, hd⟩ := e; exact ⟨o, _, ho, hc, by decide +kernel, _, hd⟩)) ⟨Nat.zero_le _, _, Heap.get?_push_size _ rfl, rfl, rfl⟩ trivial)
theorem iter_ok {d : D} {v : Value} {W : Wd} {sh : Sh} {s : Shared} {K : List D → Sh → Prop} (h : iterD d sh K) (st : S1 G W sh A n env ρ s) (hv : V G W s.heap d v) :
    wpAny (model G.prog G.w) A (pyIter v) (fun it s₁ => Itd G W A n env ρ s K it s₁) E s := by
  cases d with
  | tup ds =>
    obtain ⟨a, vs, m, rfl, ow, ht, rr⟩ := hv.toIsT
    have hT : s.heap.IsTuple a vs := ⟨_, ht, rfl, _, rfl⟩
    exact wpAny_pyIter_tuple hT (itd_of h st rfl (Iter.tuple (ax := a) (items := vs)) ⟨_, Heap.get?_push_size _ rfl, rfl, rfl⟩ ⟨ow, hT, rr⟩)
  | lst ds => exact lst_itd h st hv
  | sd ks ds => exact sd_itd h st hv
  | pd ks ds => exact pd_itd h st hv
  | rng m => exact let x := need_out h; rng_itd x.1 x.2 st hv
  | str x => exact str_itd h st hv
  | ref k =>
    obtain ⟨_, rfl⟩ := hv
    have h : iterR (sh.tr.lookup k) fun ds d => K ds { sh with tr := setT sh.tr k (.frz d) } := h
    cases iterR_out h with
    | l t ds e f h =>
      obtain ⟨W', a, b, c, d⟩ := st.at_.frz e f
      exact wpAny_mono (lst_itd h ⟨st.rm.mono b c, a, st.is.mono b c⟩ d) (fun it s₁ x => x.back b c) fun _ _ x => x
    | s t ks vs e f h =>
      obtain ⟨W', a, b, c, d⟩ := st.at_.frz e f
      exact wpAny_mono (sd_itd h ⟨st.rm.mono b c, a, st.is.mono b c⟩ d) (fun it s₁ x => x.back b c) fun _ _ x => x
  | _ => exact False.elim h
end
end Mine
namespace Mine
theorem iterT_not {T : String} (h : iterT T = true) : (["enumerate", "zip", "dict_itemiterator", "dict_reverseitemiterator", "odict_iterator", "itertools.zip_longest", "itertools.pairwise"] : List String).contains T = false := by
  unfold iterT at h
  simp only [Bool.or_eq_true, beq_iff_eq] at h
  rcases h with ((((h | h) | h) | h) | h) | h <;> subst h <;> decide +kernel
theorem letGo_ok {prog : Program} {w : World} {A : Around} {E : Value → Shared → Prop} {s : Shared} {target : Expr} {I : Addr} {v : Value} (hI : ItOb I s.heap) {Q : Unit → Shared → Prop} (h : Q () s) :
    wpAny (model prog w) A (letOwnedTupleGo target (.ref I) v) Q E s := by
  obtain ⟨o, T, ho, hc, hT, vs, hd⟩ := hI
  have key : ∀ x, wpAny (model prog w) A (if ["enumerate", "zip", "dict_itemiterator", "dict_reverseitemiterator", "odict_iterator", "itertools.zip_longest", "itertools.pairwise"].contains T && vs[0]? == some x then (do rule "for.unpacks-the-owned-tuple"; updateField I 0 .none) else pure ()) Q E s := fun x => by
    rw [iterT_not hT]
    exact wpAny_pure h
  obtain ⟨cls, dict, data, slots⟩ := o
  cases hc
  cases hd
  cases target <;> first
    | exact wpAny_pure h
    | (cases v <;> first | exact wpAny_pure h | exact wpAny_bind (wpAny_load ho (key _)))
inductive WkE (G : Glo) (n₀ : Nat) (lo lo' : List (Str × D)) (sh' : Sh) (W : Wd) (h : Heap) : Prop
  | mk (W' : Wd) (R : Rep G W' sh'.tr h) (n : W'.n = sh'.n) (le : n₀ ≤ W'.n) (ρ : ∀ k, k < n₀ → W'.ρ k = W.ρ k) (o0 : ∀ a, W.own a = none → W'.own a = none) (of : ∀ a, W.own a = some .f → W'.own a = some .f) (ox : ∀ a, W.own a = some .x → W'.own a = some .x)
    (lv : ∀ x d, lk lo' x = some d → ∃ d', lk lo x = some d' ∧ ∀ v, V G W h d' v → V G W' h d v) : WkE G n₀ lo lo' sh' W h
noncomputable def Wk (n₀ : Nat) (lo : List (Str × D)) (sh : Sh) (lo' : List (Str × D)) (sh' : Sh) : Prop := ∀ G W h, Rep G W sh.tr h → W.n = sh.n → WkE G n₀ lo lo' sh' W h
inductive WkT (n₀ : Nat) (lo : List (Str × D)) (sh : Sh) (K : List (Str × D) → Sh → Prop) : Prop
  | mk (lo' : List (Str × D)) (sh' : Sh) (w : Wk n₀ lo sh lo' sh') (k : K lo' sh') : WkT n₀ lo sh K
theorem Wk.drop {n₀ : Nat} {lo lo' : List (Str × D)} {sh : Sh} (le : n₀ ≤ sh.n) (h : ∀ x d, lk lo' x = some d → lk lo x = some d) : Wk n₀ lo sh lo' sh :=
  fun G W hp R e => ⟨W, R, e, e ▸ le, fun _ _ => rfl, fun _ x => x, fun _ x => x, fun _ x => x, fun x d q => ⟨d, h x d q, fun _ y => y⟩⟩
noncomputable def wkK (w : Option Nat) (lo : List (Str × D)) (sh : Sh) (K : List (Str × D) → Sh → Prop) : Prop := match w with
  | none => K lo sh
  | some n₀ => WkT n₀ lo sh K
noncomputable def forG (cf : Cf) (r : Ev) (t : Expr) (body : List Stmt) (sc : List (Str × NameKind)) (w : Option Nat) : List D → List (Str × D) → Sh → KB → Prop
  | [], lo, sh, K => K .next lo sh
  | d :: ds, lo, sh, K => assignE cf r t d ⟨sc, lo⟩ sh fun lo sh => r.B body ⟨sc, lo⟩ sh (fun fl lo sh => match fl with
    | .next => wkK w lo sh fun lo sh => forG cf r t body sc w ds lo sh K
    | .cont => wkK w lo sh fun lo sh => forG cf r t body sc w ds lo sh K
    | .brk => K .next lo sh
    | .ret d => K (.ret d) lo sh) noX
noncomputable abbrev forE (cf : Cf) (r : Ev) (t : Expr) (body : List Stmt) (sc : List (Str × NameKind)) (ds : List D) (lo : List (Str × D)) (sh : Sh) (K : KB) : Prop := forG cf r t body sc none ds lo sh K
noncomputable def isRng (d : D) : Bool := Nat.beq d.ctorIdx 13
noncomputable def forK (cf : Cf) (r : Ev) (t : Expr) (body : List Stmt) (sc : List (Str × NameKind)) (b : Bool) (ds : List D) (lo : List (Str × D)) (sh : Sh) (K : KB) : Prop := match b with
  | true => belowL sh.n ds = true ∧ forG cf r t body sc (some sh.n) ds lo sh K
  | false => forG cf r t body sc none ds lo sh K
noncomputable def whileE (r : Ev) (t : Expr) (body : List Stmt) (sc : List (Str × NameKind)) : Nat → List (Str × D) → Sh → KB → Prop
  | 0, _, _, _ => False
  | m + 1, lo, sh, K => r.T t ⟨sc, lo⟩ sh fun c sh => match c with
    | false => K .next lo sh
    | true => r.B body ⟨sc, lo⟩ sh (fun fl lo sh => match fl with
      | .next => whileE r t body sc m lo sh K
      | .cont => whileE r t body sc m lo sh K
      | .brk => K .next lo sh
      | .ret d => K (.ret d) lo sh) noX
noncomputable def loopS (cf : Cf) (P : Ev → Stmt → Loc → Sh → KB → KX → Prop) (r : Ev) (st : Stmt) (ρ : Loc) (sh : Sh) (K : KB) (X : KX) : Prop := match st with
  | .For t it body o _ => (match o with
    | [] => (match isSet it with
      | true => False
      | false => r.E it ρ sh fun d sh => iterD d sh fun ds sh => forK cf r t body ρ.sc (isRng d && sh.sym) ds ρ.lo sh K)
    | _ :: _ => False)
  | .While t body o _ => (match o with
    | [] => (match sh.sym with | true => ∃ m, whileE r t body ρ.sc m ρ.lo sh K | false => whileE r t body ρ.sc 200 ρ.lo sh K)
    | _ :: _ => False)
  | st => P r st ρ sh K X
section
variable {cf : Cf} {G : Glo} {r : Ev} {A : Around} {n : Nat} {E : Value → Shared → Prop} {env : Env} {ρ : Loc}
theorem folded_of {e : Expr} (h : isSet e = false) (x : Value) : foldedSetIterable e env x = pure x := by
  cases e <;> first | rfl | exact Bool.noConfusion h
noncomputable def KpI (env : Env) (I : Addr) (W : Wd) (h h' : Heap) : Prop := ∀ a o, W.own a = some .f → a ≠ I → a ≠ env.locals → (∀ x c, env.cells.lookup x = some c → a ≠ c) → h.get? a = some o → Sa h' a o
theorem KpI.trans {env I W W' h h' h''} (l : Le W h W' h') (x : KpI env I W h h') (y : KpI env I W' h' h'') : KpI env I W h h'' := fun a o p i q r z => (x a o p i q r z).trans fun o' e => y a o' (l.fr a p) i q r e
theorem KpB.i {env I W h h'} (x : KpB env W h h') : KpI env I W h h' := fun a o p _ q r z => x a o p q r z
inductive ForI (cf : Cf) (G : Glo) (r : Ev) (t : Expr) (body : List Stmt) (A : Around) (n : Nat) (env : Env) (sc : List (Str × NameKind)) (w : Option Nat) (ds : List D) (I : Addr) (P : Nat → Heap → Prop) (B : Wd → Heap → Prop) (K : KB) (W₁ : Wd) (s₁ : Shared) (m : Nat) (s' : Shared) : Prop
  | mk (i : Nat) (W' : Wd) (sh' : Sh) (lo' : List (Str × D)) (h' : Heap) (tk : Nat) (e0 : m + i = ds.length) (e1 : forG cf r t body sc w (ds.drop i) lo' sh' K) (e2 : s' = { s₁ with heap := h', toks := tk }) (e3 : S1 G W' sh' A n env ⟨sc, lo'⟩ s') (e4 : Le W₁ s₁.heap W' h') (e5 : KpI env I W₁ s₁.heap h') (e6 : W'.own I = some .f) (e7 : P i h') (e8 : B W' h') (e9 : s₁.toks ≤ tk) : ForI cf G r t body A n env sc w ds I P B K W₁ s₁ m s'
theorem Is.at {G : Glo} {W W' : Wd} {h h' : Heap} {env : Env} {sc : List (Str × NameKind)} {lo lo' : List (Str × D)} (is : Is G W h env ⟨sc, lo⟩) (own : ∀ a, (a = env.locals ∨ ∃ x, env.cells.lookup x = some a) → W.own a = some .f → W'.own a = some .f) (kp : ∀ a o, (a = env.locals ∨ ∃ x, env.cells.lookup x = some a) → h.get? a = some o → h'.get? a = some o)
    (hv : ∀ x d, lk lo' x = some d → ∃ d', lk lo x = some d' ∧ ∀ v, V G W h d' v → V G W' h' d v) : Is G W' h' env ⟨sc, lo'⟩ where
  kind := is.kind
  names := is.names
  glob := is.glob
  blt := is.blt
  own := own _ (.inl rfl) is.own
  cown := fun x c e => by
    obtain ⟨a, v, z⟩ := is.cown x c e
    exact ⟨own c (.inr ⟨x, e⟩) a, v, isCell_at z fun o eo => .of (kp c o (.inr ⟨x, e⟩) eo)⟩
  inj := is.inj
  cex := is.cex
  ns := by
    obtain ⟨mm, hn, hmm⟩ := is.ns
    refine ⟨mm, hn.at' fun o e => kp _ o (.inl rfl) e, fun y d e => ?_⟩
    obtain ⟨d', e', k⟩ := hv y d e
    rcases hmm y d' e' with ⟨h1, v, h2, h3⟩ | ⟨h1, c, v, h2, h3, h4⟩
    · exact .inl ⟨h1, v, h2, k v h3⟩
    · exact .inr ⟨h1, c, v, h2, isCell_at h3 fun o eo => .of (kp c o (.inr ⟨y, h2⟩) eo), k v h4⟩
theorem for_end {W W₁ : Wd} {s : Shared} {h₁ : Heap} {I : Addr} {K : KB} {Q : Flow → Shared → Prop} {sc : List (Str × NameKind)} (q : AfB G W env sc s K Q) (l₁ : Le W s.heap W₁ h₁) (p₁ : Kp W s.heap h₁) (hI : ∀ o, s.heap.get? I ≠ some o) (oI : W.own I = none)
    {W' : Wd} {h' : Heap} {sh' : Sh} {lo : List (Str × D)} {fl : Fl} {f : Flow} {tk : Nat} (k : K fl lo sh') (l : Lv W₁ h₁ W' h') (fr : ∀ a, W.own a = some .f → W'.own a = some .f) (xx : ∀ a o, W₁.own a = some .x → h₁.get? a = some o → W'.own a = some .x ∧ h'.get? a = some o) (kp : KpI env I W₁ h₁ h') (R : Rep G W' sh'.tr h') (nn : W'.n = sh'.n) (is : Is G W' h' env ⟨sc, lo⟩) (hf : FlOk G W' h' fl f) (ht : s.toks ≤ tk) :
    Q f { s with heap := h', toks := tk } := by
  refine q fl lo sh' W' h' f tk k ⟨fun a o p e => ?_, fr, Nat.le_trans l₁.n l.n, fun k hk => (l.ρ k (Nat.lt_of_lt_of_le hk l₁.n)).trans (l₁.ρ k hk), fun a o p e => let ⟨r, z⟩ := l₁.xx a o p e; xx a o r z⟩ (fun a o p q r e => ?_) R nn is hf ht
  · obtain ⟨a1, a2⟩ := l₁.fz a o p e
    exact l.fz a o a1 a2
  · exact (p₁ a o p e).trans fun o' e₁ => kp a o' (l₁.fr a p) (fun e' => by rw [e', oI] at p; cases p) q r e₁
theorem FrOk.at {W W' : Wd} {h h' : Heap} {l : List Env} (x : FrOk W h l) (own : ∀ a, W.own a = some .f → W'.own a = some .f) (kp : ∀ e ∈ l, ∀ L o, e.frame = some L → h.get? L = some o → h'.get? L = some o) : FrOk W' h' l := fun e he => by
  obtain ⟨a, L, b, c, o, es, ep, d, f⟩ := x e he
  exact ⟨a, L, b, own L c, o, es, ep, kp e he L o b d, f⟩
section
variable {t : Expr} {body : List Stmt} {w : Option Nat} {ds : List D} {W W₁ : Wd} {sh sh₁ : Sh} {s : Shared} {h₁ : Heap} {tk₁ : Nat} {I : Addr} {P : Nat → Heap → Prop} {B : Wd → Heap → Prop} {K : KB} {Q : Flow → Shared → Prop}
theorem for_again {W' : Wd} {sh' : Sh} {lo' : List (Str × D)} {h' : Heap} {tk i m : Nat} (hw : ∀ n₀, w = some n₀ → n₀ = W₁.n ∧ belowL n₀ ds = true) (it : Iter G I ds P B) (k : wkK w lo' sh' fun lo sh => forG cf r t body ρ.sc w (ds.drop (i + 1)) lo sh K) (hm : m + i = ds.length) (hi : i < ds.length)
    (st : S1 G W' sh' A n env ⟨ρ.sc, lo'⟩ { s with heap := h', toks := tk }) (l : Le W₁ h₁ W' h') (kp : KpI env I W₁ h₁ h') (oI : W'.own I = some .f) (p : P (i + 1) h') (b : B W' h') (ht : tk₁ ≤ tk) :
    ∃ m', m' < m ∧ ForI cf G r t body A n env ρ.sc w ds I P B K W₁ { s with heap := h₁, toks := tk₁ } m' { s with heap := h', toks := tk } := by
  have hm' : ds.length - (i + 1) + (i + 1) = ds.length := Nat.sub_add_cancel hi
  have lt : ds.length - (i + 1) < m := by lia
  cases w with
  | none => exact ⟨_, lt, i + 1, W', sh', lo', h', tk, hm', k, rfl, st, l, kp, oI, p, b, ht⟩
  | some n₀ =>
    obtain ⟨rfl, bl⟩ := hw n₀ rfl
    obtain ⟨lo2, sh2, wk, k⟩ := k
    obtain ⟨W2, R, hn, le, ρe, o0, of, ox, lo⟩ := wk G W' h' st.at_.rep st.at_.n
    have lv : Lv (W'.low W₁.n) h' W2 h' := ⟨fun a o p q => ⟨o0 a p, q⟩, le, ρe⟩
    refine ⟨_, lt, i + 1, W2, sh2, lo2, h', tk, hm', k, rfl, ⟨⟨st.rm.depth, st.rm.units, st.rm.hand, ?_⟩, ⟨R, hn, st.at_.tk⟩, Is.at st.is (fun a _ => of a) (fun _ _ _ e => e) lo⟩, ⟨fun a o p q => ⟨o0 a (l.fz a o p q).1, (l.fz a o p q).2⟩, fun a p => of a (l.fr a p), le, fun k hk => (ρe k hk).trans (l.ρ k hk), fun a o p q => ⟨ox a (l.xx a o p q).1, (l.xx a o p q).2⟩⟩, kp, of I oI, p, it.keepB _ _ _ _ (it.low _ _ _ bl b) lv, ht⟩
    obtain ⟨fl, fa, fb⟩ := st.rm.fr
    exact ⟨fl, fa, fb.at of fun _ _ _ _ _ e => e⟩
theorem for_ok (top : TopA A env) (ok : GOk cf G) (S : Sound G r n) (hw : ∀ n₀, w = some n₀ → n₀ = W₁.n ∧ belowL n₀ ds = true)
    (h : forG cf r t body ρ.sc w ds ρ.lo sh₁ K) (st : S1 G W sh A n env ρ s) (st₁ : S1 G W₁ sh₁ A n env ρ { s with heap := h₁, toks := tk₁ }) (ht₁ : s.toks ≤ tk₁) (l₁ : Le W s.heap W₁ h₁) (p₁ : Kp W s.heap h₁) (hI : ∀ o, s.heap.get? I ≠ some o) (oI : W₁.own I = some .f)
    (it : Iter G I ds P B) (p0 : P 0 h₁) (b0 : B W₁ h₁) (q : AfB G W env ρ.sc s K Q) :
    codeAny (model G.prog G.w) A (.forLoop t (.ref I) body [] env) (fun r s' => match r with | .ok f => Q f s' | .error e => cameBackBy (model G.prog G.w) A env E e s') { s with heap := h₁, toks := tk₁ } := by
  have oW : W.own I = none := Option.eq_none_iff_forall_ne_some.mpr fun w e => let ⟨o, z⟩ := st.at_.rep.ownd I w e; hI o z
  have neL : I ≠ env.locals := fun e => nos (oW.symm.trans (e ▸ st.is.own))
  have neC : ∀ x c, env.cells.lookup x = some c → I ≠ c := fun x c e e' => nos (oW.symm.trans (e' ▸ (st.is.cown x c e).1))
  have neI : ∀ a, (a = env.locals ∨ ∃ x, env.cells.lookup x = some a) → a ≠ I := fun a x e => by
    cases x with
    | inl x => exact neL (e.symm.trans x)
    | inr x => obtain ⟨x, y⟩ := x; exact neC x a y e.symm
  refine codeAny_forLoop_any (ForI cf G r t body A n env ρ.sc w ds I P B K W₁ { s with heap := h₁, toks := tk₁ }) ?_ ds.length ⟨0, W₁, sh₁, ρ.lo, h₁, tk₁, Nat.add_zero _, h, rfl, st₁, Le.refl, fun _ _ _ _ _ _ e => .of e, oI, p0, b0, Nat.le_refl _⟩
  intro m s' x
  obtain ⟨i, W', sh', lo', h', tk, hm, hf, rfl, st', l', kp', oI', hP, hB, ht'⟩ := x
  have ht'' : s.toks ≤ tk := Nat.le_trans ht₁ ht'
  cases hd : ds[i]? with
  | none =>
    have hge : ds.length ≤ i := List.getElem?_eq_none_iff.mp hd
    refine it.done i W' A _ _ _ st'.rm.hand hge hP hB fun h'' tk'' kk tl => ?_
    refine wpAny_execs_nil ?_
    rw [List.drop_eq_nil_of_le hge] at hf
    obtain ⟨R, lv⟩ := st'.at_.rep.let_go oI' kk
    have ne : ∀ {a w}, W.own a = some w → a ≠ I := fun p e => nos (oW.symm.trans (e ▸ p))
    have lv' : Lv W₁ h₁ (W'.frz I) h'' := ⟨fun a o p e => let x := l'.fz a o p e; lv.fz a o x.1 x.2, Nat.le_trans l'.n lv.n, fun k hk => (lv.ρ k (Nat.lt_of_lt_of_le hk l'.n)).trans (l'.ρ k hk)⟩
    refine for_end (I := I) q l₁ p₁ hI oW hf lv' (fun a p => (if_neg (ne p)).trans (l'.fr a (l₁.fr a p))) (fun a o p e => ?_) (fun a o p n1 n2 n3 e => (kp' a o p n1 n2 n3 e).trans fun o' e' => .of (kk a o' n1 e')) R st'.at_.n ?_ rfl (Nat.le_trans ht'' tl)
    · obtain ⟨r, z⟩ := l'.xx a o p e
      have ne : a ≠ I := fun e => nomatch oI'.symm.trans ((congrArg W'.own e).symm.trans r)
      exact ⟨(if_neg ne).trans r, kk a o ne z⟩
    · exact Is.at st'.is (fun a x p => (if_neg (neI a x)).trans p) (fun a o x e => kk a o (neI a x) e) fun x d e => ⟨d, e, fun _ => V.monoV lv⟩
  | some d =>
    have hlt : i < ds.length := (List.getElem?_eq_some_iff.mp hd).1
    have hdrop : ds.drop i = d :: ds.drop (i + 1) := (List.drop_eq_getElem_cons hlt).trans (congrArg (· :: _) (Option.some.inj ((List.getElem?_eq_getElem hlt).symm.trans hd)))
    rw [hdrop] at hf
    refine it.item i W' A _ _ _ d st'.rm.hand hd hP hB fun v h'' tk'' hv hP2 kk tl => ?_
    have ob := it.ex _ _ hP2
    refine letGo_ok ob ?_
    obtain ⟨o, T, ho, hc, hT, vs, hdat⟩ := ob
    obtain ⟨R, le⟩ := st'.at_.rep.upX oI' kk ho
    have is' : Is G W' h'' env ⟨ρ.sc, lo'⟩ := Is.at st'.is (fun _ _ p => p) (fun a o x e => kk a o (neI a x) e) fun x d e => ⟨d, e, fun _ => V.mono le⟩
    have rm' : Rm W' h'' A n := by
      refine ⟨st'.rm.depth, st'.rm.units, st'.rm.hand, ?_⟩
      obtain ⟨fl, fa, fb⟩ := st'.rm.fr
      obtain ⟨fl', fa', fb'⟩ := st.rm.fr
      obtain rfl : fl = fl' := Option.some.inj (fa.symm.trans fa')
      refine ⟨fl, fa, fb.at (fun _ p => p) fun e he L o eL eo => kk L o (fun z => ?_) eo⟩
      obtain ⟨_, L', d2, d3, _⟩ := fb' e he
      obtain rfl : L = L' := Option.some.inj (eL.symm.trans d2)
      exact nos (oW.symm.trans (z ▸ d3))
    have st'' : S1 G W' sh' A n env ⟨ρ.sc, lo'⟩ { s with heap := h'', toks := tk'' } := ⟨rm', ⟨R, st'.at_.n, fun e => st'.at_.tk (Nat.le_zero.mp (Nat.le_trans tl (Nat.le_of_eq e)))⟩, is'⟩
    refine assign_ok ok S.E hf st'' (V.mono le hv) fun lo₂ sh₂ W₂ h₂ t₂ k₂ l₂ p₂ r₂ n₂ i₂ ht₂ => ?_
    have st₂ := st''.stmt l₂ p₂ r₂ n₂ i₂ ht₂
    have kpA : KpI env I W₁ h₁ h'' := fun a o p n1 n2 n3 e => (kp' a o p n1 n2 n3 e).trans fun o' e' => .of (kk a o' n1 e')
    have lA := l'.trans le
    have oI'' : W₂.own I = some .f := l₂.fr I oI'
    refine S.B body ⟨ρ.sc, lo₂⟩ sh₂ _ noX A env W₂ { s with heap := h₂, toks := t₂ } _ _ ⟨k₂, top⟩ st₂ (fun fl lo₃ sh₃ W₃ h₃ f t₃ k₃ l₃ p₃ r₃ n₃ i₃ f₃ ht₃ => ?_) noX_ok
    have ht₃' : tk₁ ≤ t₃ := Nat.le_trans ht' (Nat.le_trans tl (Nat.le_trans ht₂ ht₃))
    have lC := l₂.trans l₃
    have lB := lA.trans lC
    have kpB : KpI env I W₁ h₁ h₃ := KpI.trans lA kpA (KpI.trans l₂ p₂.i p₃.i)
    have oI3 : W₃.own I = some .f := l₃.fr I oI''
    have pI : P (i + 1) h₃ := it.keepP _ _ _ hP2 fun o₁ e => by
      obtain rfl : o₁ = o := Option.some.inj (e.symm.trans ho)
      exact ((p₂ I _ oI' neL neC e).trans fun o' e' => p₃ I o' oI'' neL neC e').at fun es ep q => nomatch hdat.symm.trans q
    have again := fun k => for_again (cf := cf) (r := r) (t := t) (body := body) (ρ := ρ) (K := K) (s := s) hw it k hm hlt (st₂.stmt l₃ p₃ r₃ n₃ i₃ ht₃) lB kpB oI3 pI (it.keepB _ _ _ _ hB (le.trans lC).v) ht₃'
    have fin : ∀ {fl' : Fl} {f' : Flow}, K fl' lo₃ sh₃ → FlOk G W₃ h₃ fl' f' → Q f' { s with heap := h₃, toks := t₃ } := fun k hf =>
      for_end (I := I) q l₁ p₁ hI oW k lB.v (fun a p => lB.fr a (l₁.fr a p)) lB.xx kpB r₃ n₃ i₃ hf (Nat.le_trans ht₁ ht₃')
    cases fl with
    | next => cases f₃; exact again k₃
    | cont => cases f₃; exact again k₃
    | brk => cases f₃; exact fin k₃ rfl
    | ret d => obtain ⟨v, rfl, hv⟩ := f₃; exact fin k₃ ⟨v, rfl, hv⟩
end
inductive WhI (G : Glo) (r : Ev) (t : Expr) (body : List Stmt) (A : Around) (n : Nat) (env : Env) (sc : List (Str × NameKind)) (K : KB) (W : Wd) (s : Shared) (m : Nat) (s' : Shared) : Prop
  | mk (W' : _) (sh' : _) (lo' : _) (h' : _) (tk : _) (e0 : whileE r t body sc m lo' sh' K) (e1 : s' = { s with heap := h', toks := tk }) (e2 : S1 G W' sh' A n env ⟨sc, lo'⟩ s') (e3 : Le W s.heap W' h') (e4 : KpB env W s.heap h') (e5 : s.toks ≤ tk) : WhI G r t body A n env sc K W s m s'
theorem while_ok (top : TopA A env) (S : Sound G r n) {t : Expr} {body : List Stmt} {W : Wd} {sh : Sh} {s : Shared} {K : KB} {Q : Flow → Shared → Prop} {m : Nat}
    (h : whileE r t body ρ.sc m ρ.lo sh K) (st : S1 G W sh A n env ρ s) (q : AfB G W env ρ.sc s K Q) :
    codeAny (model G.prog G.w) A (.whileLoop t body [] env) (fun r s' => match r with | .ok f => Q f s' | .error e => cameBackBy (model G.prog G.w) A env E e s') s := by
  refine codeAny_whileLoop (WhI G r t body A n env ρ.sc K W s) ?_ m ⟨W, sh, ρ.lo, s.heap, s.toks, h, rfl, st, Le.refl, Kp.b Kp.refl, Nat.le_refl _⟩
  rintro m s' ⟨W', sh', lo', h', tk, hw, rfl, st', l', kp', ht'⟩
  cases m with
  | zero => exact hw.elim
  | succ m =>
    refine goT S.T hw st' fun c sh₁ W₁ h₁ t₁ k₁ st₁ l₁ p₁ ht₁ => ?_
    have ht₁' : tk ≤ t₁ := ht₁
    cases c with
    | false =>
      refine wpAny_execs_nil ?_
      exact q .next lo' sh₁ W₁ h₁ .next t₁ k₁ (l'.trans l₁) (kp'.trans l' (Kp.b p₁)) st₁.at_.rep st₁.at_.n st₁.is rfl (by omega)
    | true =>
      refine S.B body ⟨ρ.sc, lo'⟩ sh₁ _ noX A env W₁ { s with heap := h₁, toks := t₁ } _ _ ⟨k₁, top⟩ st₁ (fun fl lo₃ sh₃ W₃ h₃ f t₃ k₃ l₃ p₃ r₃ n₃ i₃ f₃ ht₃ => ?_) noX_ok
      have ht₃' : t₁ ≤ t₃ := ht₃
      have st₃ := st₁.stmt l₃ p₃ r₃ n₃ i₃ ht₃
      have lB := l'.trans (l₁.trans l₃)
      have kpB : KpB env W s.heap h₃ := kp'.trans l' ((Kp.b p₁).trans l₁ p₃)
      have again : whileE r t body ρ.sc m lo₃ sh₃ K → ∃ m', m' < m + 1 ∧ WhI G r t body A n env ρ.sc K W s m' { s with heap := h₃, toks := t₃ } := fun k =>
        ⟨m, Nat.lt_succ_self _, W₃, sh₃, lo₃, h₃, t₃, k, rfl, st₃, lB, kpB, by omega⟩
      cases fl with
      | next =>
        cases f₃
        exact again k₃
      | cont =>
        cases f₃
        exact again k₃
      | brk =>
        cases f₃
        exact q .next lo₃ sh₃ W₃ h₃ .next t₃ k₃ lB kpB r₃ n₃ i₃ rfl (by omega)
      | ret d =>
        obtain ⟨v, rfl, hv⟩ := f₃
        exact q (.ret d) lo₃ sh₃ W₃ h₃ (.ret v) t₃ k₃ lB kpB r₃ n₃ i₃ ⟨v, rfl, hv⟩ (by omega)
theorem loopS_sound {P : Ev → Stmt → Loc → Sh → KB → KX → Prop} (ok : GOk cf G) (S : Sound G r n)
    (hP : ∀ (st : Stmt) (ρ : Loc) (sh : Sh) (K : KB) (X : KX) (A : Around) (env : Env) (W : Wd) (s : Shared) (Q : Flow → Shared → Prop) (E : Value → Shared → Prop),
      P r st ρ sh K X ∧ TopN A env n → S1 G W sh A n env ρ s → AfB G W env ρ.sc s K Q → AfM G env W s X E → wpAny (model G.prog G.w) A (exec st env) Q E s) :
    ∀ (st : Stmt) (ρ : Loc) (sh : Sh) (K : KB) (X : KX) (A : Around) (env : Env) (W : Wd) (s : Shared) (Q : Flow → Shared → Prop) (E : Value → Shared → Prop),
      loopS cf P r st ρ sh K X ∧ TopN A env n → S1 G W sh A n env ρ s → AfB G W env ρ.sc s K Q → AfM G env W s X E → wpAny (model G.prog G.w) A (exec st env) Q E s := by
  intro st ρ sh K X A env W s Q E ⟨h, top⟩ st1 q qx
  cases st with
  | For t it body o p => cases o with
    | cons _ _ => exact False.elim h
    | nil =>
      obtain ⟨hs, h⟩ := falseE h
      refine wpAny_For (go S.E h st1 fun d sh₁ W₁ h₁ v₁ t₁ k₁ st₁ l₁ p₁ hv₁ ht₁ => wpAny_mono (iter_ok k₁ st₁ hv₁) (fun it s₂ x => ?_) fun _ _ x => x) (folded_of hs)
      obtain ⟨ds, sh₂, W₂, h₂, I, P, B, rfl, rfl, k₂, st₂, l₂, p₂, fI, oI, hit, p0, b0⟩ := x
      generalize (isRng d && sh₂.sym) = b at k₂
      cases b with
      | true => exact for_ok (s := { s with heap := h₁, toks := t₁ }) top.1 ok S (fun n₀ e => by cases e; exact ⟨st₂.at_.n.symm, k₂.1⟩) k₂.2 st₁ st₂ (Nat.le_refl _) l₂ p₂ fI oI hit p0 b0 (q.step l₁ (Kp.b p₁) ht₁)
      | false => exact for_ok (s := { s with heap := h₁, toks := t₁ }) top.1 ok S (fun n₀ e => nos e) k₂ st₁ st₂ (Nat.le_refl _) l₂ p₂ fI oI hit p0 b0 (q.step l₁ (Kp.b p₁) ht₁)
  | While t body o p => cases o with
    | cons _ _ => exact False.elim h
    | nil =>
      obtain ⟨tr, nn, sym, os⟩ := sh
      cases sym with
      | true => obtain ⟨m, h⟩ := h; exact wpAny_While (while_ok top.1 S h st1 q)
      | false => exact wpAny_While (while_ok (m := 200) top.1 S h st1 q)
  | _ => exact hP _ _ _ _ _ _ _ _ _ _ _ ⟨h, top⟩ st1 q qx
end
end Mine
namespace Mine
noncomputable def fzL (f : D → (D → Prop) → Prop) : List D → (List D → Prop) → Prop
  | [], K => K []
  | d :: ds, K => f d fun d => fzL f ds fun ds => K (d :: ds)
noncomputable def lfD (sym : Bool) (d : D) (K : D → Prop) : Prop := match sym with
  | true => K d
  | false => fD1 d K
noncomputable def lfS (sym : Bool) (ks : List Str) (K : List Str → Prop) : Prop := match sym with
  | true => K ks
  | false => fStrs ks K
noncomputable def lfP (sym : Bool) (ks : List (List Str)) (K : List (List Str) → Prop) : Prop := match sym with
  | true => K ks
  | false => fStrss ks K
noncomputable def fz (sym : Bool) (tr : List (Nat × T)) : Nat → D → (D → Prop) → Prop
  | 0, _, _ => False
  | m + 1, d, K => match d with
    | .ref k => withO (tr.lookup k) fun t => withO (frzOf t) fun d => fz sym tr m d K
    | .lst ds => fzL (fz sym tr m) ds fun ds => K (.lst ds)
    | .tup ds => fzL (fz sym tr m) ds fun ds => K (.tup ds)
    | .sd ks ds => lfS sym ks fun ks => fzL (fz sym tr m) ds fun ds => K (.sd ks ds)
    | .pd ks ds => lfP sym ks fun ks => fzL (fz sym tr m) ds fun ds => K (.pd ks ds)
    | .obj _ _ _ => False
    | d => lfD sym d K
noncomputable def zipLo : List Str → List D → List (Str × D)
  | [], _ => []
  | x :: xs, ds => match ds with
    | [] => []
    | d :: ds => put (zipLo xs ds) x d
noncomputable def bindD (fn : Fn) (args : List D) (K : List (Str × D) → Prop) : Prop :=
  match decide (args.length ≤ fn.params.length) && decide (fn.params.length ≤ args.length + fn.dflt.length) with
  | true => K (zipLo fn.params (args ++ fn.dflt.drop (fn.dflt.length + args.length - fn.params.length)))
  | false => False
noncomputable def impure (x : Str) : Bool := decide (x = Str.ofString "make_chain") || decide (x = Str.ofString "put_in") || decide (x = Str.ofString "note_dict") || decide (x = Str.ofString "take_handle")
noncomputable def retK (K : KE) : KB := fun fl _ sh => match fl with
  | .next => K .none sh
  | .ret d => K d sh
  | _ => False
noncomputable def isKind (o : Option NameKind) (n : Nat) : Bool := match o with
  | some k => Nat.beq k.ctorIdx n
  | Option.none => false
noncomputable def relK (k : NameKind) (o : Option NameKind) : NameKind := match Nat.beq k.ctorIdx NameKind.free.ctorIdx && isKind o NameKind.cell.ctorIdx with
  | true => .cell
  | false => k
noncomputable def relab (names outer : List (Str × NameKind)) : List (Str × NameKind) := names.map fun x => (x.1, relK x.2 (outer.lookup x.1))
noncomputable def isFree (k : NameKind) : Bool := Nat.beq k.ctorIdx NameKind.free.ctorIdx
noncomputable def keepLo (names : List (Str × NameKind)) : List (Str × D) → List (Str × D)
  | [] => []
  | p :: r => match isKind (names.lookup p.1) NameKind.free.ctorIdx with
    | true => p :: keepLo names r
    | false => keepLo names r
noncomputable def okSc : List (Str × NameKind) → Bool
  | [] => true
  | p :: r => (Nat.beq p.2.ctorIdx NameKind.local.ctorIdx || isFree p.2 || Nat.beq p.2.ctorIdx NameKind.globalImplicit.ctorIdx) && okSc r
noncomputable def freeOk (outer : List (Str × NameKind)) : List (Str × NameKind) → Bool
  | [] => true
  | p :: r => (!isFree p.2 || isKind (outer.lookup p.1) NameKind.cell.ctorIdx) && freeOk outer r
noncomputable def compE (r : Ev) (elt : Expr) (x : Str) (sc : List (Str × NameKind)) (d0 : D) (k : Nat) : Nat → Nat → List (Str × D) → Sh → KE → Prop
  | 0, i, lo, sh, K => withO (lstT sh.tr d0) fun ds => (match ds[i]? with
    | Option.none => K (.ref k) sh
    | some _ => False)
  | m + 1, i, lo, sh, K => withO (lstT sh.tr d0) fun ds => withO ds[i]? fun d => nrmD d sh fun d => r.E elt ⟨sc, put lo x d⟩ sh fun v sh => nrmD v sh fun v => callB (.bi "list.append") [.ref k, v] sh fun _ sh => compE r elt x sc d0 k m (i + 1) (put lo x d) sh K
noncomputable def genOf (gens : List Comprehension) : Option (Str × Expr) := (one gens).bind fun g => (nameOf g.target).bind fun x => match g.ifs.isEmpty && decide (g.is_async = 0) with
  | true => some (x, g.iter)
  | false => Option.none
theorem genOf_out {gens : List Comprehension} {x : Str} {iter : Expr} (h : genOf gens = some (x, iter)) : ∃ p, gens = [⟨.Name x p, iter, [], 0⟩] := by
  obtain ⟨g, e1, h⟩ := Option.bind_eq_some_iff.mp h
  obtain ⟨y, e2, h⟩ := Option.bind_eq_some_iff.mp h
  obtain rfl := one_out e1
  obtain ⟨t, it, ifs, a⟩ := g
  obtain ⟨p, rfl⟩ := nameOf_out e2
  have h : (match ifs.isEmpty && decide (a = 0) with | true => some (y, it) | false => Option.none) = some (x, iter) := h
  cases c : ifs.isEmpty && decide (a = 0) with
  | false => rw [c] at h; exact nos h
  | true =>
    rw [c] at h
    cases h
    obtain ⟨c1, c2⟩ := Bool.and_eq_true_iff.mp c
    obtain rfl := of_decide_eq_true c2
    obtain rfl := List.isEmpty_iff.mp c1
    exact ⟨p, rfl⟩
noncomputable def compL (r : Ev) (e : Expr) (ρ : Loc) (sh : Sh) (K : KE) : Prop := match e with
  | .ListComp elt gens scope _ => withO (genOf gens) fun g => (match isSet g.2 || !decide (scope.kind = .function) || !okSc scope.names || !decide (scope.names.lookup g.1 = some .local) || !freeOk ρ.sc scope.names || !nodupS (scope.names.map (·.1)) with
    | true => False
    | false => r.E g.2 ρ sh fun d sh => withO (lstT sh.tr d) fun ds => compE r elt g.1 (relab scope.names ρ.sc) d sh.n ds.length 0 (keepLo scope.names ρ.lo) { sh with tr := (sh.n, .lst []) :: sh.tr, n := sh.n + 1 } fun d sh => nrmS sh (K d))
  | _ => False
noncomputable def ltK (b : Int) (br : List D) (v : Int) (vr : List D) (sh : Sh) (K : Bool → Sh → Prop) : Prop := dec (decide (v = b)) sh fun c sh => match c with
  | false => dec (decide (v < b)) sh K
  | true => withO (br.head?.bind strOf) fun y => withO (vr.head?.bind strOf) fun x => need (x ≠ y) sh (dec (decide (x.cps.toList < y.cps.toList)) sh K)
noncomputable def headI (d : D) : Option (Int × List D) := match d with
  | .tup xs => (match xs with
    | [] => Option.none
    | a :: r => (intOf a).map fun i => (i, r))
  | _ => Option.none
theorem headI_out {d : D} {i : Int} {r : List D} (h : headI d = some (i, r)) : d = .tup (.int i :: r) := by
  cases d with
  | tup xs => cases xs with
    | nil => exact nos h
    | cons a xs =>
      obtain ⟨j, e, e2⟩ := map_out h
      cases e2
      obtain rfl := intOf_out e
      rfl
  | _ => exact nos h
noncomputable def minK : Int → List D → List D → Sh → KE → Prop
  | b, br, [], sh, K => K (.tup (.int b :: br)) sh
  | b, br, d :: rest, sh, K => withO (headI d) fun v => ltK b br v.1 v.2 sh fun c sh => match c with
    | true => minK v.1 v.2 rest sh K
    | false => minK b br rest sh K
noncomputable def minL (ds : List D) (sh : Sh) (K : KE) : Prop := match ds with
  | [] => False
  | d :: ds => withO (headI d) fun b => minK b.1 b.2 ds sh K
inductive DcT (o : Option (List Str × List D)) (K : List Str × List D → Prop) : Prop
  | mk (kv : List Str × List D) (h : o = some kv) (k : K kv) : DcT o K
noncomputable def dcP (sh : Sh) (o : Option (List Str × List D)) (K : List Str × List D → Prop) : Prop := match sh.sym with
  | true => DcT o K
  | false => withO o K
noncomputable def lstOf (d : D) : Option (List D) := match d with
  | .lst ds => some ds
  | _ => Option.none
theorem lstOf_out {d : D} {ds : List D} (h : lstOf d = some ds) : d = .lst ds := by
  cases d with
  | lst xs => exact congrArg D.lst (Option.some.inj h)
  | _ => exact nos h
noncomputable def sdOf (d : D) : Option (List Str × List D) := match d with
  | .sd ks vs => some (ks, vs)
  | _ => Option.none
theorem sdOf_out {d : D} {x : List Str × List D} (h : sdOf d = some x) : d = .sd x.1 x.2 := by
  cases d with
  | sd ks vs => cases h; rfl
  | _ => exact nos h
noncomputable def callX (f : D) (args : List D) (sh : Sh) (K : KE) : Prop := match f with
  | .bi x => (match decide (x = "min") with
    | true => withO (one args) fun a => withO (lstT sh.tr a) fun ds => minL ds sh K
    | false => callB (.bi x) args sh K)
  | .ty x => (match decide (x = "list") with
    | true => withO ((one args).bind sdOf) fun kv => need (kv.1.length ≤ 100000) sh (K (.lst (kv.1.map .str)) sh)
    | false => match decide (x = "dict") with
      | true => orO ((one args).bind lstOf) (fun ds => dcP sh (pairsOf ds) fun kv => need (nodupS kv.1 = true ∧ kv.1.length ≤ 1000) sh (K (.sd kv.1 kv.2) sh)) (callB (.ty x) args sh K)
      | false => callB (.ty x) args sh K)
  | _ => False
noncomputable def pureC (r : Ev) (fn : Fn) (sh : Sh) (K : KE) (sym : Bool) (args : List D) : Prop :=
  bindD fn args fun lo => r.B fn.body ⟨fn.sc, lo⟩ { sh with tr := [], n := 0, sym := sym } (retK fun d sh' => fz sym sh'.tr 9 d fun d => K d sh) noX
inductive CallT (r : Ev) (fn : Fn) (sh : Sh) (K : KE) (args : List D) : Prop
  | mk (P : D → Prop) (h : ∃ sym, pureC r fn sh (fun d _ => P d) sym args) (k : ∀ d, P d → K d sh) : CallT r fn sh K args
noncomputable def pureK (r : Ev) (fn : Fn) (sh : Sh) (K : KE) (args : List D) : Prop := match sh.sym with
  | true => CallT r fn sh K args
  | false => pureC r fn sh K false args
noncomputable def fzA (sym : Bool) (args : List D) (K : List D → Prop) : Prop := match sym with
  | true => belowL 0 args = true ∧ K args
  | false => fzL (fz false [] 5) args K
noncomputable def isNo (d : D) : Bool := Nat.beq d.ctorIdx 0
theorem isNo_out {d : D} (h : isNo d = true) : d = .none := by
  cases d <;> first | rfl | exact Bool.noConfusion h
noncomputable def stepC (cf : Cf) (r : Ev) (f : D) (args : List D) (sh : Sh) (K : KE) (X : KX) : Prop := match f with
  | .glob x => orO (cf.fn x) (fun fn => match impure x with
      | true => bindD fn args fun lo => r.B fn.body ⟨fn.sc, lo⟩ sh (retK K) X
      | false => fzA sh.sym args fun args => pureK r fn sh K args)
    (withO (cf.cls x) fun fa => bindD fa.1 (.ref sh.n :: args) fun lo => r.B fa.1.body ⟨fa.1.sc, lo⟩ { sh with tr := (sh.n, .obj x [] []) :: sh.tr, n := sh.n + 1 } (retK fun d sh' => match isNo d with | true => K (.ref sh.n) sh' | false => False) noX)
  | _ => callX f args sh K
noncomputable def cutT (n : Nat) : List (Nat × T) → List (Nat × T)
  | [] => []
  | (k, t) :: r => match decide (k < n) with
    | true => (k, t) :: cutT n r
    | false => cutT n r
noncomputable def belowTr (n : Nat) : List (Nat × T) → Bool
  | [] => true
  | (_, t) :: r => belowT n t && belowTr n r
noncomputable def cutK (n : Nat) (sh : Sh) (K : Sh → Prop) : Prop := match belowTr n (cutT n sh.tr) with
  | true => K { sh with tr := cutT n sh.tr, n := n }
  | false => False
noncomputable def globN (ρ : Loc) (x : Str) : Bool := (lk ρ.lo x).isNone && decide (ρ.sc.lookup x = some .globalImplicit)
inductive ExcT (cf : Cf) (r : Ev) (st : Stmt) (ρ : Loc) (sh : Sh) (K : KB) (X : KX) : Prop
  | raise (f code : Str) (p1 p2 p3 p4 : Pos) (kk : Nat) (e : st = .Raise (some (.Call (.Name f p1) [.Constant (.str code) kk p2] [] p3)) Option.none p4) (g : (decide (f = Str.ofString "refused") && globN ρ f) = true)
    (k : r.C (.glob (Str.ofString "words_of")) [.str code] sh (fun d sh => withO (strOf d) fun why => X code why sh) noX) : ExcT cf r st ρ sh K X
  | tri (f n told : Str) (p pos epos cp hpos tpos q1 q2 q3 q4 q5 q6 q7 : Pos) (kk : Nat) (args : List Expr)
    (e : st = .Try [.Expr (.Call (.Name f p) args [] pos) epos] [.ExceptHandler (some (.Name (Str.ofString "Refused") cp)) (some n) [.Assign [.Name told q1] (.Tuple [.Attribute (.Name n q2) (Str.ofString "code") q3, .Attribute (.Name n q4) (Str.ofString "why") q5] kk q6) q7] hpos] [] [] tpos)
    (g1 : globN ρ (Str.ofString "Refused") = true) (g2 : ρ.sc.lookup told = some .local) (g3 : ρ.sc.lookup n = some .local) (g4 : n ≠ told) (g5 : lk ρ.lo n = Option.none) (g6 : noStar args = true) (g7 : dbg n = false)
    (k : r.E (.Name f p) ρ sh fun fd sh => match callee cf fd args with
      | true => evL r args ρ sh fun ds sh => r.C fd ds sh (fun _ sh => nrmS sh (K .next ρ.lo)) (fun code why sh' => cutK sh.n sh' fun sh => nrmS sh (K .next (put ρ.lo told (.tup [.str code, .str why]))))
      | false => False) : ExcT cf r st ρ sh K X
noncomputable abbrev excS (cf : Cf) (r : Ev) (st : Stmt) (ρ : Loc) (sh : Sh) (K : KB) (X : KX) : Prop := ExcT cf r st ρ sh K X
noncomputable def evZ : Ev := ⟨fun _ _ _ _ => False, fun _ _ _ _ => False, fun _ _ _ _ _ => False, fun _ _ _ _ _ => False⟩
noncomputable def ev (cf : Cf) : Nat → Ev
  | 0 => evZ
  | m + 1 => ⟨stepE cf compL (ev cf m), stepT (ev cf m), stepB cf (loopS cf (excS cf)) (ev cf m), stepC cf (ev cf m)⟩
noncomputable def noneC (e : Expr) : Bool := match e with
  | .Constant c _ _ => Nat.beq c.ctorIdx 0
  | _ => false
noncomputable def dfltD (l : List Expr) : List D := l.map fun e => match noneC e with | true => .none | false => .ref 0
noncomputable def fnT (ps : Arguments) (b : List Stmt) (sc : Scope) : Fn := ⟨ps.args.map (·.arg), dfltD ps.defaults, b, sc.names⟩
noncomputable def fnsA (b : List Stmt) : List (Str × Arguments × List Stmt × Scope) := b.filterMap defV
noncomputable def fnIn (b : List Stmt) (x : Str) : Option Fn := ((fnsA b).find? fun p => decide (p.1 = x)).map fun p => fnT p.2.1 p.2.2.1 p.2.2.2
noncomputable def clsIn (b : List Stmt) (x : Str) : Option (Fn × List Str) := ((b.filterMap clsV).find? fun p => decide (p.1 = x)).bind fun p => match p.2.1 with
  | [] => (fnIn p.2.2.1 (Str.ofString "__init__")).map fun f => (f, p.2.2.2)
  | _ :: _ => none
noncomputable def bltT : List (Bool × String) := [(true, "len"), (false, "str"), (false, "dict"), (false, "range"), (true, "abs"), (true, "min"), (false, "tuple"), (false, "list")]
noncomputable def bltG (p : Bool × String) : D := match p.1 with
  | true => .bi p.2
  | false => .ty p.2
noncomputable def bltD (x : Str) : Option D := (bltT.find? fun p => decide (x = Str.ofString p.2)).map bltG
noncomputable def cfOf (b : List Stmt) : Cf := ⟨fun x => match (fnIn b x).isSome || (clsIn b x).isSome with
  | true => some (.glob x)
  | false => bltD x, fnIn b, clsIn b⟩
end Mine
section
open Classical
namespace Mine
theorem belowL_out {G : Glo} {W W' : Wd} {h : Heap} {ds : List D} {vs : List Value} (b : belowL 0 ds = true) (x : VL G W h ds vs) (k : ∀ a o, W.own a = none → h.get? a = some o → W'.own a = none) : VL G W' h ds vs :=
  VL.monoV (W := W.low 0) ⟨fun a o p q => ⟨k a o p q, q⟩, Nat.zero_le _, fun k hk => absurd hk (Nat.not_lt_zero k)⟩ (VL.low x b)
noncomputable def Wd.fram (W : Wd) (p : Addr → Prop) : Wd := ⟨fun b => if p b then some .f else W.own b, W.ρ, W.n⟩
noncomputable def Wd.shut (W : Wd) (p : Addr → Prop) : Wd := ⟨fun b => if p b then some .f else (W.own b).map fun w => match w with | .f => .f | _ => .x, W.ρ, 0⟩
section
variable {G : Glo} {W : Wd} {sh : Sh} {s : Shared} {h' : Heap} {tk : Nat} {p : Addr → Prop}
theorem At.fram (at_ : At G W sh s) (kk : ∀ b o, s.heap.get? b = some o → h'.get? b = some o) (hp : ∀ b, p b → (∀ o, s.heap.get? b ≠ some o) ∧ ∃ o, h'.get? b = some o) (ht : s.toks ≤ tk) :
    At G (W.fram p) sh { s with heap := h', toks := tk } ∧ Le W s.heap (W.fram p) h' ∧ Kp W s.heap h' := by
  have R := at_.rep
  have np : ∀ b o, s.heap.get? b = some o → ¬ p b := fun b o e q => (hp b q).1 o e
  have e1 : ∀ b, ¬ p b → (W.fram p).own b = W.own b := fun b n => if_neg n
  have l : Le W s.heap (W.fram p) h' := ⟨fun b o q e => ⟨(e1 b (np b o e)).trans q, kk b o e⟩, fun b q => by
    by_cases z : p b
    · exact if_pos z
    · exact (e1 b z).trans q, Nat.le_refl _, fun _ _ => rfl, fun b o q e => ⟨(e1 b (np b o e)).trans q, kk b o e⟩⟩
  refine ⟨⟨R.chg l.v (fun b w q => ?_) fun j u q => .inl ⟨q, fun a x => ?_⟩, at_.n, fun e => at_.tk (Nat.le_zero.mp (Nat.le_trans ht (Nat.le_of_eq e)))⟩, l, Kp.grow kk⟩
  · by_cases z : p b
    · exact (hp b z).2
    · obtain ⟨o, e⟩ := R.ownd b w ((e1 b z).symm.trans q)
      exact ⟨o, kk b o e⟩
  · have ex : ∃ o, s.heap.get? a = some o := by
      cases x with
      | inl x => exact R.ownd a _ x
      | inr x => exact R.ownd a _ x
    obtain ⟨o, e⟩ := ex
    exact ⟨e1 a (np a o e), kk a⟩
theorem At.shut (at_ : At G W sh s) (kk : ∀ b o, s.heap.get? b = some o → h'.get? b = some o) (hp : ∀ b, p b → (∀ o, s.heap.get? b ≠ some o) ∧ ∃ o, h'.get? b = some o) (ht : s.toks ≤ tk) :
    At G (W.shut p) { sh with tr := [], n := 0 } { s with heap := h', toks := tk } := by
  have R := at_.rep
  have np : ∀ b o, s.heap.get? b = some o → ¬ p b := fun b o e q => (hp b q).1 o e
  refine ⟨⟨fun b o e => ⟨?_, kk b o (R.base b o e).2⟩, fun b w q => ?_, fun j u q => ?_⟩, rfl, fun e => at_.tk (Nat.le_zero.mp (Nat.le_trans ht (Nat.le_of_eq e)))⟩
  · show (if p b then some Own.f else _) = none
    rw [if_neg (np b o (R.base b o e).2), (R.base b o e).1]; rfl
  · have q : (if p b then some Own.f else (W.own b).map fun w => match w with | .f => Own.f | _ => .x) = some w := q
    by_cases z : p b
    · exact (hp b z).2
    · rw [if_neg z] at q
      obtain ⟨w', e', _⟩ := Option.map_eq_some_iff.mp q
      obtain ⟨o, e⟩ := R.ownd b w' e'
      exact ⟨o, kk b o e⟩
  · cases q
theorem shut_f (np : ∀ b o, s.heap.get? b = some o → ¬ p b) {b : Addr} {o : Obj} (e : s.heap.get? b = some o) (q : W.own b = some .f) : (W.shut p).own b = some .f := by
  show (if p b then some Own.f else _) = _
  rw [if_neg (np b o e), q]; rfl
theorem shut_x (np : ∀ b o, s.heap.get? b = some o → ¬ p b) {b : Addr} {o : Obj} {w : Own} (e : s.heap.get? b = some o) (q : W.own b = some w) (hw : w ≠ .f) : (W.shut p).own b = some .x := by
  show (if p b then some Own.f else _) = _
  rw [if_neg (np b o e), q]
  cases w <;> first | rfl | exact absurd rfl hw
theorem shut_n (np : ∀ b o, s.heap.get? b = some o → ¬ p b) {b : Addr} {o : Obj} (e : s.heap.get? b = some o) (q : W.own b = none) : (W.shut p).own b = none := by
  show (if p b then some Own.f else _) = _
  rw [if_neg (np b o e), q]; rfl
end
structure Un (tr : List (Nat × T)) (h : Heap) (W₁ U W : Wd) : Prop where
  fz : ∀ a o, h.get? a = some o → W₁.own a = none → U.own a = none
  t : ∀ a k t, tr.lookup k = some t → W₁.own a = some (.t k) → U.own a = none
  back : ∀ a o, h.get? a = some o → U.own a = none → W.own a = none
  ρ : U.ρ = W₁.ρ
  n : U.n = W₁.n
section
variable {G : Glo} {W₁ U W : Wd} {h : Heap} {tr : List (Nat × T)}
theorem lfD_out {sym : Bool} {d : D} {K : D → Prop} (h : lfD sym d K) : K d := by
  cases sym with
  | true => exact h
  | false => exact Eq.mp (fD1_eq (d := d) (K := K)) h
theorem lfS_out {sym : Bool} {d : List Str} {K : List Str → Prop} (h : lfS sym d K) : K d := by
  cases sym with
  | true => exact h
  | false => exact Eq.mp (fStrs_eq (l := d) (K := K)) h
theorem lfP_out {sym : Bool} {d : List (List Str)} {K : List (List Str) → Prop} (h : lfP sym d K) : K d := by
  cases sym with
  | true => exact h
  | false => exact Eq.mp (fStrss_eq (l := d) (K := K)) h
theorem fzL_ok {f : D → (D → Prop) → Prop} (hf : ∀ d K, f d K → ∃ d', K d' ∧ ∀ v, V G U h d v → V G W h d' v) : ∀ (ds : List D) (K : List D → Prop), fzL f ds K → ∃ ds', K ds' ∧ ∀ vs, VL G U h ds vs → VL G W h ds' vs := by
  intro ds
  induction ds with
  | nil => exact fun K x => ⟨[], x, fun vs q => by cases vs with | nil => trivial | cons _ _ => exact False.elim q⟩
  | cons d ds ih =>
    intro K x
    obtain ⟨d', k1, k2⟩ := hf _ _ x
    obtain ⟨ds', k3, k4⟩ := ih _ k1
    refine ⟨d' :: ds', k3, fun vs q => ?_⟩
    cases vs with
    | nil => exact False.elim q
    | cons v vs => exact ⟨k2 v q.1, k4 vs q.2⟩
theorem fz_ref (un : Un tr h W₁ U W) (R : Rep G W₁ tr h) {k : Nat} {t : T} {d : D} {v : Value} (e : tr.lookup k = some t) (e0 : frzOf t = some d) (q : V G U h (.ref k) v) : V G U h d v := by
  have lv : Lv W₁ h U h := ⟨fun a o p q => ⟨un.fz a o q p, q⟩, Nat.le_of_eq un.n.symm, fun k _ => congrFun un.ρ k⟩
  obtain ⟨_, rfl⟩ := q
  obtain ⟨_, ow, ht⟩ := R.trk _ _ e
  rw [un.ρ]
  rcases own_of ow with ⟨d1, rfl, ow⟩ | ⟨nf, ow⟩
  · cases e0; exact V.monoV lv ht.2.2
  · have o' := un.t _ _ _ e ow
    cases t with
    | frz d' => exact absurd rfl (nf _)
    | lst xs => cases e0; obtain ⟨vs, n, a, b⟩ := ht; exact ⟨_, vs, n, rfl, o', a, VL.monoV lv b⟩
    | sd ks ds => cases e0; obtain ⟨kvs, a, b, c, f⟩ := ht; exact ⟨_, kvs, rfl, o', a, b, c, VL.monoV lv f⟩
    | pd ks ds => cases e0; obtain ⟨xs, a, b, c, f, g⟩ := ht; exact ⟨_, xs, rfl, o', a, b, fun x hx => (c x hx).mono lv, f, VL.monoV lv g⟩
    | obj C fs ds => exact nos e0
theorem fz_ok (un : Un tr h W₁ U W) (R : Rep G W₁ tr h) {sym : Bool} : ∀ (m : Nat) (d : D) (K : D → Prop), fz sym tr m d K → ∃ d', K d' ∧ ∀ v, V G U h d v → V G W h d' v := by
  intro m
  induction m with
  | zero => exact fun _ _ x => False.elim x
  | succ m ih =>
    intro d K x
    cases d with
    | ref k =>
      obtain ⟨t, e, x⟩ := someE x
      obtain ⟨d0, e0, x⟩ := someE x
      obtain ⟨d', k1, k2⟩ := ih _ _ x
      exact ⟨d', k1, fun v q => k2 v (fz_ref un R e e0 q)⟩
    | lst ds =>
      obtain ⟨ds', k1, k2⟩ := fzL_ok ih _ _ x
      refine ⟨_, k1, fun v q => ?_⟩
      obtain ⟨a, vs, n, e, o, i, r⟩ := q
      exact ⟨a, vs, n, e, un.back _ _ i o, i, k2 _ r⟩
    | tup ds =>
      obtain ⟨ds', k1, k2⟩ := fzL_ok ih _ _ x
      refine ⟨_, k1, fun v q => ?_⟩
      obtain ⟨a, vs, n, e, o, i, r⟩ := q
      exact ⟨a, vs, n, e, un.back _ _ i o, i, k2 _ r⟩
    | sd ks ds =>
      obtain ⟨ds', k1, k2⟩ := fzL_ok ih _ _ (lfS_out (K := fun ks => fzL (fz sym tr m) ds fun ds => K (.sd ks ds)) x)
      refine ⟨_, k1, fun v q => ?_⟩
      obtain ⟨a, kvs, e, o, sm, i, kk, r⟩ := q
      obtain ⟨ob, _, _, hob, _⟩ := id i
      exact ⟨a, kvs, e, un.back _ _ hob o, sm, i, kk, k2 _ r⟩
    | pd ks ds =>
      obtain ⟨ds', k1, k2⟩ := fzL_ok ih _ _ (lfP_out (K := fun ks => fzL (fz sym tr m) ds fun ds => K (.pd ks ds)) x)
      refine ⟨_, k1, fun v q => ?_⟩
      obtain ⟨a, xs, e, o, sm, i, ow, kk, r⟩ := q
      obtain ⟨ob, _, _, hob, _⟩ := id i
      exact ⟨a, xs, e, un.back _ _ hob o, sm, i, fun x hx => let y := ow x hx; let ⟨_, _, e⟩ := y.2; ⟨un.back _ _ e y.1, y.2⟩, kk, k2 _ r⟩
    | obj C fs ds => exact False.elim x
    | scr ns =>
      refine ⟨_, lfD_out (K := K) x, fun v q => ?_⟩
      obtain ⟨a, vs, e, o, i, r⟩ := q
      obtain ⟨ob, hob, _⟩ := id i
      exact ⟨a, vs, e, un.back _ _ hob o, i, r⟩
    | rng m =>
      refine ⟨_, lfD_out (K := K) x, fun v q => ?_⟩
      obtain ⟨a, t, u, c, e, o, i⟩ := q
      exact ⟨a, t, u, c, e, un.back _ _ i o, i⟩
    | _ => exact ⟨_, lfD_out (K := K) x, fun v q => q⟩
end
end Mine
end
section
open Classical
namespace Mine
theorem shut_back {G : Glo} {W W₁ : Wd} {sh : Sh} {s : Shared} {h₂ h₁ : Heap} {p : Addr → Prop} {tr₁ : List (Nat × T)} {env : Env} (at_ : At G W sh s) (kk : ∀ b o, s.heap.get? b = some o → h₂.get? b = some o)
    (hp : ∀ b, p b → ∀ o, s.heap.get? b ≠ some o) (pl : p env.locals) (pc : ∀ x c, env.cells.lookup x = some c → p c)
    (l : Le (W.shut p) h₂ W₁ h₁) (kb : KpB env (W.shut p) h₂ h₁) (R₁ : Rep G W₁ tr₁ h₁) :
    Rep G W sh.tr h₁ ∧ Le W s.heap W h₁ ∧ Kp W s.heap h₁ ∧ ∀ a, W₁.own a ≠ some .f → W₁.own a ≠ some .x → W.own a = none := by
  have R := at_.rep
  have np : ∀ b o, s.heap.get? b = some o → ¬ p b := fun b o e q => hp b q o e
  have F : ∀ a o, W.own a = some .f → s.heap.get? a = some o → Sa h₁ a o := fun a o q e =>
    kb a o (shut_f np e q) (fun z => np a o e (z ▸ pl)) (fun x c ec z => np a o e (z ▸ pc x c ec)) (kk a o e)
  have X : ∀ a o w, W.own a = some w → w ≠ .f → s.heap.get? a = some o → W₁.own a = some .x ∧ h₁.get? a = some o := fun a o w q hw e => l.xx a o (shut_x np e q hw) (kk a o e)
  have N : ∀ a o, W.own a = none → s.heap.get? a = some o → h₁.get? a = some o := fun a o q e => (l.fz a o (shut_n np e q) (kk a o e)).2
  have le : Le W s.heap W h₁ := ⟨fun a o q e => ⟨q, N a o q e⟩, fun _ q => q, Nat.le_refl _, fun _ _ => rfl, fun a o q e => ⟨q, (X a o .x q (by intro z; cases z) e).2⟩⟩
  refine ⟨⟨fun a o e => ⟨(R.base a o e).1, (R₁.base a o e).2⟩, fun a w q => ?_, fun j u q => ?_⟩, le, F, fun a n1 n2 => ?_⟩
  · obtain ⟨o, e⟩ := R.ownd a w q
    by_cases hw : w = .f
    · subst hw
      obtain ⟨o', e', _⟩ := F a o q e
      exact ⟨o', e'⟩
    · exact ⟨o, (X a o w q hw e).2⟩
  · obtain ⟨q1, q2, q3⟩ := R.trk j u q
    exact ⟨q1, q2, TR.mono le q1 (fun _ x => x) (fun b o z y => by rcases z with z | z <;> exact (X b o _ z (by intro z; cases z) y).2) q2 q3⟩
  · cases q : W.own a with
    | none => rfl
    | some w =>
      exfalso
      obtain ⟨o, e⟩ := R.ownd a w q
      by_cases hw : w = .f
      · subst hw
        exact n1 (l.fr a (shut_f np e q))
      · exact n2 (X a o w q hw e).1
theorem bindL_not {kindOf : Str → Option NameKind} {x : Str} : ∀ {binds : List (Str × Value)} {m : Str → Option Value}, x ∉ binds.map (·.1) → bindL kindOf binds m x = m x
  | [], m, _ => rfl
  | (n, v) :: r, m, h => by
    have h1 : x ≠ n := fun e => h (by rw [e]; exact List.mem_cons_self)
    have h2 : x ∉ r.map (·.1) := fun e => h (List.mem_cons_of_mem _ e)
    unfold bindL
    rw [bindL_not h2]
    split
    · exact if_neg h1
    · rfl
theorem bindC_not {kindOf : Str → Option NameKind} {x : Str} : ∀ {binds : List (Str × Value)} {m : Str → Option Value}, x ∉ binds.map (·.1) → bindC kindOf binds m x = m x
  | [], m, _ => rfl
  | (n, v) :: r, m, h => by
    have h1 : x ≠ n := fun e => h (by rw [e]; exact List.mem_cons_self)
    have h2 : x ∉ r.map (·.1) := fun e => h (List.mem_cons_of_mem _ e)
    unfold bindC
    rw [bindC_not h2]
    split
    · rfl
    · exact if_neg h1
theorem bindL_of {kindOf : Str → Option NameKind} {x : Str} {v : Value} (hk : kindOf x = some .local) {binds : List (Str × Value)} : ∀ {m : Str → Option Value}, (binds.map (·.1)).Nodup → (x, v) ∈ binds → bindL kindOf binds m x = some v := by
  induction binds with
  | nil => exact fun _ h => (List.not_mem_nil h).elim
  | cons p r ih =>
    intro m nd hm
    obtain ⟨nd1, nd2⟩ := List.nodup_cons.mp nd
    cases hm with
    | head => exact (bindL_not nd1).trans ((congrFun (if_pos hk) x).trans (if_pos rfl))
    | tail _ hm => exact ih nd2 hm
theorem bindC_of {kindOf : Str → Option NameKind} {x : Str} {v : Value} (hk : kindOf x ≠ some .local) {binds : List (Str × Value)} : ∀ {m : Str → Option Value}, (binds.map (·.1)).Nodup → (x, v) ∈ binds → bindC kindOf binds m x = some v := by
  induction binds with
  | nil => exact fun _ h => (List.not_mem_nil h).elim
  | cons p r ih =>
    intro m nd hm
    obtain ⟨nd1, nd2⟩ := List.nodup_cons.mp nd
    cases hm with
    | head => exact (bindC_not nd1).trans ((congrFun (if_neg hk) x).trans (if_pos rfl))
    | tail _ hm => exact ih nd2 hm
theorem cells_some {x : Str} {names : List (Str × NameKind)} : ∀ {n : Nat} {acc : List (Str × Addr)}, (x, NameKind.cell) ∈ names ∨ (acc.lookup x).isSome = true → ((cellsFrom n names acc).lookup x).isSome = true := by
  induction names with
  | nil =>
    intro n acc h
    cases h with
    | inl h => exact (List.not_mem_nil h).elim
    | inr h => exact h
  | cons p r ih =>
    obtain ⟨y, k⟩ := p
    intro n acc h
    unfold cellsFrom
    by_cases hk : (k == NameKind.cell) = true
    · rw [if_pos hk]
      refine ih ?_
      have self : ∀ z : Addr, (List.lookup x ((x, z) :: acc)).isSome = true := fun z => by rw [List.lookup_cons_self]; rfl
      by_cases e : x = y
      · exact .inr (e ▸ self n)
      · cases h with
        | inl h => cases h with
          | head => exact absurd rfl e
          | tail _ h => exact .inl h
        | inr h => exact .inr (by rw [List.lookup_cons, beq_false_of_ne e]; exact h)
    · rw [if_neg hk]
      refine ih ?_
      cases h with
      | inl h => cases h with
        | head => exact absurd (beq_self_eq_true NameKind.cell) hk
        | tail _ h => exact .inl h
      | inr h => exact .inr h
theorem zipLo_get {xs : List Str} : ∀ {ds : List D} {x : Str} {d : D}, lk (zipLo xs ds) x = some d → ∃ i : Nat, xs[i]? = some x ∧ ds[i]? = some d := by
  induction xs with
  | nil => exact fun h => nos h
  | cons y xs ih => intro ds x d h; cases ds with
    | nil => exact nos h
    | cons e ds =>
      have h : lk (put (zipLo xs ds) y e) x = some d := h
      rw [lk_put] at h
      by_cases q : y = x
      · rw [if_pos q] at h; cases h; exact ⟨0, congrArg some q, rfl⟩
      · rw [if_neg q] at h
        obtain ⟨i, a, b⟩ := ih h
        exact ⟨i + 1, a, b⟩
theorem zip_mem {xs : List Str} {vs : List Value} {i : Nat} {x : Str} {v : Value} (h1 : xs[i]? = some x) (h2 : vs[i]? = some v) : (x, v) ∈ xs.zip vs := by
  refine List.mem_of_getElem? (i := i) ?_
  rw [List.getElem?_zip_eq_some]
  exact ⟨h1, h2⟩
theorem bindD_out {fn : Fn} {args : List D} {K : List (Str × D) → Prop} (h : bindD fn args K) :
    args.length ≤ fn.params.length ∧ fn.params.length ≤ args.length + fn.dflt.length ∧ K (zipLo fn.params (args ++ fn.dflt.drop (fn.dflt.length - (fn.params.length - args.length)))) := by
  obtain ⟨c, h⟩ := trueE h
  obtain ⟨c1, c2⟩ := Bool.and_eq_true_iff.mp c
  have c1 := of_decide_eq_true c1
  have c2 := of_decide_eq_true c2
  exact ⟨c1, c2, (Nat.sub_sub_right fn.dflt.length c1).symm ▸ h⟩
noncomputable def pOf (env : Env) (b : Addr) : Prop := b = env.locals ∨ ∃ x, env.cells.lookup x = some b
structure Laid (G : Glo) (fn : Fn) (args : List D) (vs : List Value) (A : Around) (s : Shared) (env : Env) (s' : Shared) : Prop where
  kind : env.scope.kind = .function
  names : env.scope.names = fn.sc
  glob : env.globals = mainGlobals
  blt : env.builtins = builtinsNs
  frame : env.frame = some env.locals
  keep : ∀ b o, s.heap.get? b = some o → s'.heap.get? b = some o
  same : ∃ h' tk, s' = { s with heap := h', toks := tk } ∧ s.toks ≤ tk
  p : ∀ b, pOf env b → (∀ o, s.heap.get? b ≠ some o) ∧ ∃ o, s'.heap.get? b = some o
  is : ∀ W, (∀ b, pOf env b → W.own b = some .f) → VL G W s'.heap (args ++ fn.dflt.drop (fn.dflt.length - (fn.params.length - args.length))) vs → Is G W s'.heap env ⟨fn.sc, zipLo fn.params (args ++ fn.dflt.drop (fn.dflt.length - (fn.params.length - args.length)))⟩
section
variable {cf : Cf} {G : Glo} {r : Ev} {A : Around} {n : Nat} {E : Value → Shared → Prop} {W : Wd} {sh : Sh} {s : Shared} {Q : Value → Shared → Prop}
set_option backward.match.sparseCases true in
theorem enter (hlim₀ : G.h₀.NoLimit) {fv : Value} {fn : Fn} {args : List D} {vs : List Value} (ok : FnOk G fv fn) (hb1 : args.length ≤ fn.params.length) (hb2 : fn.params.length ≤ args.length + fn.dflt.length) (hvl : args.length = vs.length)
    (hbase : ∀ a o, G.h₀.get? a = some o → s.heap.get? a = some o) (hroom : A.depth < recursionLimit)
    (k : ∀ env s' dvs, (∀ W h, VL G W h fn.dflt dvs) → Laid G fn args (vs ++ dvs.drop (fn.dflt.length - (fn.params.length - args.length))) A s env s' →
      wpAny (model G.prog G.w) (A.deeper env) (execs fn.body env) (fun f s' => Q (match f with | .ret v => v | _ => .none) s')
        (fun e s' => wpAny (model G.prog G.w) (A.deeper env) (leaving env e) (fun _ s'' => E e s'') (fun e' s'' => E e' s'') s') s') :
    wpAny (model G.prog G.w) A (call fv vs) Q E s := by
  obtain ⟨f, fo, fd, rfl, ho, hcls, hd, hbody, hnames, hkind, hgen, hco, hglob, hclo, hblt, hcd, dvs, hdv, hbt⟩ := ok.ex
  have hk : fn.params.length - args.length ≤ fn.dflt.length := Nat.sub_le_iff_le_add'.mpr hb2
  have bt := hbt s vs (fn.params.length - args.length) hbase hk (hvl ▸ Nat.add_sub_cancel' hb1)
  have hlen : fn.params.length ≤ (vs ++ dvs.drop (fn.dflt.length - (fn.params.length - args.length))).length := by
    have : fn.dflt.length = dvs.length := (hdv ⟨fun _ => none, fun _ => 0, 0⟩ s.heap).length
    rw [List.length_append, List.length_drop, ← hvl, ← this, Nat.sub_sub_self hk, Nat.add_sub_cancel' hb1]; exact Nat.le_refl _
  have hfst : (fn.params.zip (vs ++ dvs.drop (fn.dflt.length - (fn.params.length - args.length)))).map (·.1) = fn.params := List.map_fst_zip hlen
  have hkinds : ∀ x ∈ fn.params.zip (vs ++ dvs.drop (fn.dflt.length - (fn.params.length - args.length))), fd.scope.names.lookup x.1 = some .local ∨ (fd.scope.names.lookup x.1 = some .cell ∧ ((cellsFrom (s.heap.objs.size + 1) fd.scope.names []).lookup x.1).isSome = true) := fun x hx => by
    have hm : x.1 ∈ fn.params := hfst ▸ List.mem_map_of_mem (f := (·.1)) hx
    rw [hnames]
    rcases ok.kinds x.1 hm with e | e
    · exact .inl e
    · exact .inr ⟨e, cells_some (.inl (mem_of_lookup e))⟩
  obtain ⟨c', oc', vs', tq', hc', hoc', hdc', hq'⟩ := hcd
  refine wpAny_call (codeAny_call_function (body := fn.body) hroom (hbase _ _ ho) hd hco hgen hbody ⟨c', oc', vs', tq', hc', hbase _ _ hoc', hdc', hq'⟩ (bt _ _ _ _ ?_))
  rw [hclo]
  refine wpAny_mono (wpAny_toks (wpAny_newFunctionEnv_cells (Q := fun env s' => env = newEnv fd.scope s.heap.objs.size fd.globals (cellsFrom (s.heap.objs.size + 1) fd.scope.names []) (fd.qualname ++ ".<locals>.") (some f) fd.code none fd.builtins ∧
    InCallC s env.locals (bindL env.kindOf (fn.params.zip (vs ++ dvs.drop (fn.dflt.length - (fn.params.length - args.length)))) fun _ => none) env.cells (bindC env.kindOf (fn.params.zip (vs ++ dvs.drop (fn.dflt.length - (fn.params.length - args.length)))) fun _ => none) s') hkind hkinds
    fun env he s' x => ⟨he, x⟩)) (fun env s' hh => ?_) fun _ _ y => y.2
  obtain ⟨tl, he, x⟩ := hh
  refine ⟨(hlim₀.keeps hbase).keeps x.toInCall.keep, codeAny_func (k env s' dvs hdv ?_)⟩
  have e1 : env.scope = fd.scope := by rw [he]; rfl
  have e2 : env.locals = s.heap.objs.size := by rw [he]; rfl
  have e3 : env.cells = cellsFrom (s.heap.objs.size + 1) fd.scope.names [] := by rw [he]; rfl
  have e4 : env.globals = mainGlobals := by rw [he]; exact hglob
  have e5 : env.builtins = builtinsNs := by rw [he]; exact hblt
  have e6 : env.frame = some env.locals := by rw [he]; rfl
  have ko : ∀ y, env.kindOf y = fn.sc.lookup y := fun y => by show env.scope.names.lookup y = _; rw [e1, hnames]
  have pp : ∀ b, pOf env b → (∀ o, s.heap.get? b ≠ some o) ∧ ∃ o, s'.heap.get? b = some o := fun b hb => by
    rcases hb with rfl | ⟨y, hy⟩
    · exact ⟨fun o e => Nat.lt_irrefl _ (by have := Heap.lt_size e; rw [e2] at this; exact this), let ⟨o, _, _, e, _⟩ := x.toInCall.ns; ⟨o, e⟩⟩
    · refine ⟨fun o e => ?_, let ⟨o, e, _⟩ := x.cell y b hy; ⟨o, e⟩⟩
      have h1 := Heap.lt_size e
      have h2 := x.above y b (mem_of_lookup hy)
      rw [e2] at h2
      exact Nat.lt_irrefl _ (Nat.lt_trans h1 h2)
  have sm : ∃ h' tk, s' = { s with heap := h', toks := tk } ∧ s.toks ≤ tk := by
    obtain ⟨h', tk, rfl⟩ := x.toInCall.same
    exact ⟨h', tk, rfl, tl⟩
  refine ⟨by rw [e1]; exact hkind, by rw [e1]; exact hnames, e4, e5, e6, x.toInCall.keep, sm, pp, fun W' ow vl => ?_⟩
  refine ⟨by rw [e1]; exact hkind, by rw [e1]; exact hnames, e4, e5, ow _ (.inl rfl), fun y c hy => ⟨ow _ (.inr ⟨y, hy⟩), _, x.cell y c hy⟩, x.apart, fun y hy => ?_, _, x.toInCall.ns, fun y d hy => ?_⟩
  · rw [e3, ← Option.isSome_iff_exists]
    rw [e1] at hy
    exact cells_some (.inl (mem_of_lookup hy))
  · obtain ⟨i, h1, h2⟩ := zipLo_get hy
    obtain ⟨v, h3, h4⟩ := vl.get h2
    have hm := zip_mem h1 h3
    have nd : ((fn.params.zip (vs ++ dvs.drop (fn.dflt.length - (fn.params.length - args.length)))).map (·.1)).Nodup := by rw [hfst]; exact ok.nodup
    rcases ok.kinds y (List.mem_of_getElem? h1) with e | e
    · exact .inl ⟨by rw [e1, hnames]; exact e, v, bindL_of (by rw [ko]; exact e) nd hm, h4⟩
    · have : ((cellsFrom (s.heap.objs.size + 1) fd.scope.names []).lookup y).isSome = true := cells_some (.inl (by rw [hnames]; exact mem_of_lookup e))
      obtain ⟨c, hc⟩ := Option.isSome_iff_exists.mp this
      rw [← e3] at hc
      have := x.cell y c hc
      rw [bindC_of (by rw [ko, e]; intro z; cases z) nd hm] at this
      exact .inr ⟨.inl (by rw [e1, hnames]; exact e), c, v, hc, this, h4⟩
end
end Mine
end
section
open Classical
namespace Mine
section
variable {cf : Cf} {G : Glo} {r : Ev} {A : Around} {n : Nat} {E : Value → Shared → Prop} {W : Wd} {sh : Sh} {s : Shared} {Q : Value → Shared → Prop} {K : KE} {X : KX}
theorem shut_none {p : Addr → Prop} {b : Addr} : (W.shut p).own b = none ↔ ¬ p b ∧ W.own b = none := by
  unfold Wd.shut
  dsimp only
  by_cases z : p b
  · simp [z]
  · rw [if_neg z]
    cases W.own b <;> simp [z]
structure RmL (W : Wd) (h : Heap) (A : Around) (n : Nat) : Prop where
  depth : A.depth + 3 * n + 11 < recursionLimit
  units : A.units + 8 * n + 203 < cLine
  hand : A.handled = none
  fr : ∃ l, A.frames = some l ∧ FrOk W h l
theorem Rm.l {W : Wd} {h : Heap} {A : Around} (x : Rm W h A (n + 1)) : RmL W h A n := ⟨by have := x.depth; lia, by have := x.units; lia, x.hand, x.fr⟩
theorem RmL.deep {W W' : Wd} {h h' : Heap} {A : Around} {env : Env} (x : RmL W h A n) (f : ∀ l, A.frames = some l → FrOk W' h' l) (kf : env.scope.kind = .function) (fe : env.frame = some env.locals) (ow : W'.own env.locals = some .f) {m : Str → Option Value} (hn : h'.Ns env.locals m) :
    Rm W' h' (A.deeper env) n := by
  obtain ⟨l, e, _⟩ := x.fr
  refine ⟨by have := x.depth; show A.depth + 1 + _ + _ < _; lia, by have := x.units; show A.units + 3 + _ + _ < _; lia, x.hand, env :: l, by show A.frames.map _ = _; rw [e]; rfl, fun e' he => ?_⟩
  rcases List.mem_cons.mp he with rfl | he
  · obtain ⟨o, es, ep, ho, hd, _⟩ := hn
    exact ⟨kf, _, fe, ow, o, es, ep, ho, hd⟩
  · exact f l e e' he
noncomputable def Wd.kept (W : Wd) : Wd := ⟨fun a => match W.own a with | some .f => some .f | some .x => some .x | _ => none, W.ρ, W.n⟩
theorem kept_none {W : Wd} (a : Addr) : W.kept.own a = none ↔ W.own a ≠ some .f ∧ W.own a ≠ some .x := by
  show (match W.own a with | some Own.f => some Own.f | some .x => some .x | _ => none) = none ↔ _
  cases W.own a with
  | none => exact ⟨fun _ => ⟨nofun, nofun⟩, fun _ => rfl⟩
  | some w => cases w with
    | f => exact ⟨nofun, fun x => absurd rfl x.1⟩
    | x => exact ⟨nofun, fun x => absurd rfl x.2⟩
    | _ => exact ⟨fun _ => ⟨nofun, nofun⟩, fun _ => rfl⟩
theorem pureK_out {fn : Fn} {args : List D} (h : pureK r fn sh K args) : CallT r fn sh K args := by
  obtain ⟨tr, m, sym, os⟩ := sh
  cases sym with
  | true => exact h
  | false => exact ⟨fun d => K d ⟨tr, m, false, os⟩, ⟨false, h⟩, fun d k => k⟩
theorem fzA_out {W' : Wd} {h : Heap} {sym : Bool} {args : List D} {K' : List D → Prop} (un0 : Un [] h W W W') (R0 : Rep G W [] h) (k : ∀ a o, W.own a = none → h.get? a = some o → W'.own a = none) (x : fzA sym args K') : ∃ ds', K' ds' ∧ ∀ vs, VL G W h args vs → VL G W' h ds' vs := by
  cases sym with
  | true => exact ⟨args, x.2, fun vs y => belowL_out x.1 y k⟩
  | false => exact fzL_ok (fun d K y => fz_ok un0 R0 5 d K y) _ _ x
theorem pure_ok (hS : SB G r n) (hlim : G.h₀.NoLimit) {fv : Value} {fn : Fn} {args : List D} {vs : List Value} (okf : FnOk G fv fn)
    (h : fzA sh.sym args fun args => pureK r fn sh K args)
    (st : S0 G W sh A (n + 1) s) (hv : VL G W s.heap args vs) (q : Af G (V G) W s K Q) : wpAny (model G.prog G.w) A (call fv vs) Q E s := by
  have R := st.at_.rep
  have R0 : Rep G W [] s.heap := ⟨R.base, R.ownd, fun k t e => nos e⟩
  have un0 : Un [] s.heap W W (W.shut fun _ => False) := ⟨fun _ _ _ e => e, fun _ _ _ e => nos e, fun a o e q => shut_none.mpr ⟨id, q⟩, rfl, rfl⟩
  obtain ⟨args', hb, hargs⟩ := fzA_out (W := W) (W' := W.shut fun _ => False) un0 R0 (fun a o p q => shut_none.mpr ⟨id, p⟩) h
  have hv' := hargs _ hv
  obtain ⟨P, ⟨sym, hb⟩, hP⟩ := pureK_out hb
  obtain ⟨hb1, hb2, hb⟩ := bindD_out hb
  refine enter hlim okf hb1 hb2 hv'.length (fun a o e => (R.base a o e).2) (by have := st.rm.depth; omega) fun env s' dvs hdv la => ?_
  obtain ⟨h₂, t₂, rfl, tl⟩ := la.same
  have hp := fun b pb => (la.p b pb).1
  have np : ∀ b o, s.heap.get? b = some o → ¬ pOf env b := fun b o e z => hp b z o e
  have at2 := st.at_.shut (p := pOf env) la.keep la.p tl
  have lv : Lv (W.shut fun _ => False) s.heap (W.shut (pOf env)) h₂ := ⟨fun a o p e => ⟨shut_none.mpr ⟨np a o e, (shut_none.mp p).2⟩, la.keep a o e⟩, Nat.le_refl _, fun k hk => absurd hk (Nat.not_lt_zero k)⟩
  have is2 := la.is (W.shut (pOf env)) (fun b pb => if_pos pb) (VL.append (VL.monoV lv hv') (VL.drop _ (hdv _ _)))
  obtain ⟨m, hn, _⟩ := id is2.ns
  have rm2 : Rm (W.shut (pOf env)) h₂ (A.deeper env) n := st.rm.l.deep (fun l e => by
    obtain ⟨l', e', fr⟩ := st.rm.fr
    rw [e] at e'; cases e'
    intro x hx
    obtain ⟨a, L, b, c, o, es, ep, d, f⟩ := fr x hx
    exact ⟨a, L, b, shut_f np d c, o, es, ep, la.keep _ _ d, f⟩) la.kind la.frame (if_pos (.inl rfl)) hn
  have topA : TopA (A.deeper env) env := by
    obtain ⟨l, e, _⟩ := st.rm.fr
    exact ⟨⟨l, by show A.frames.map _ = _; rw [e]; rfl⟩, la.frame⟩
  refine hS fn.body _ _ _ noX (A.deeper env) env (W.shut (pOf env)) { s with heap := h₂, toks := t₂ } _ _ ⟨hb, topA⟩ ⟨rm2, ⟨at2.rep, at2.n, at2.tk⟩, is2⟩ (fun fl lo sh' W₁ h₁ f tk k l kb R₁ n₁ i₁ f₁ ht => ?_) noX_ok
  obtain ⟨b1, b2, b3, b4⟩ := shut_back st.at_ la.keep hp (.inl rfl) (fun x c e => .inr ⟨x, e⟩) l kb R₁
  let U : Wd := W₁.kept
  have un1 : Un sh'.tr h₁ W₁ U W := ⟨fun a o _ e => (kept_none a).mpr ⟨nofun ∘ e.symm.trans, nofun ∘ e.symm.trans⟩, fun a k t _ e => (kept_none a).mpr ⟨nofun ∘ e.symm.trans, nofun ∘ e.symm.trans⟩,
    fun a o _ e => b4 a ((kept_none a).mp e).1 ((kept_none a).mp e).2, rfl, rfl⟩
  have lvU : Lv W₁ h₁ U h₁ := ⟨fun a o p e => ⟨un1.fz a o e p, e⟩, Nat.le_refl _, fun _ _ => rfl⟩
  have tl' : t₂ ≤ tk := ht
  have fin : ∀ {d : D} {v : Value}, fz sym sh'.tr 9 d (fun d => P d) → V G W₁ h₁ d v → Q v { s with heap := h₁, toks := tk } := fun k hv => by
    obtain ⟨d', k1, k2⟩ := fz_ok un1 R₁ 9 _ _ k
    exact q d' sh W h₁ _ tk (hP _ k1) b2 b3 b1 st.at_.n (k2 _ (V.monoV lvU hv)) (Nat.le_trans tl tl')
  cases fl with
  | next =>
    cases f₁
    exact fin (d := .none) k V.vnone
  | ret d =>
    obtain ⟨v, rfl, hv⟩ := f₁
    exact fin (d := d) k hv
  | brk => exact k.elim
  | cont => exact k.elim
theorem imp_ok (hS : SB G r n) (hlim : G.h₀.NoLimit) {fv : Value} {fn : Fn} {args : List D} {vs : List Value} (okf : FnOk G fv fn)
    (h : bindD fn args fun lo => r.B fn.body ⟨fn.sc, lo⟩ sh (retK K) X) (rm : RmL W s.heap A n) (at_ : At G W sh s) (hv : VL G W s.heap args vs) (q : Af G (V G) W s K Q)
    (hX : ∀ env s' vs, Laid G fn args vs A s env s' → S1 G (W.fram (pOf env)) sh (A.deeper env) n env ⟨fn.sc, zipLo fn.params (args ++ fn.dflt.drop (fn.dflt.length - (fn.params.length - args.length)))⟩ s' → Le W s.heap (W.fram (pOf env)) s'.heap → AfM G env (W.fram (pOf env)) s' X
      (fun e s' => wpAny (model G.prog G.w) (A.deeper env) (leaving env e) (fun _ s'' => E e s'') (fun e' s'' => E e' s'') s')) : wpAny (model G.prog G.w) A (call fv vs) Q E s := by
  have R := at_.rep
  obtain ⟨hb1, hb2, hb⟩ := bindD_out h
  refine enter hlim okf hb1 hb2 hv.length (fun a o e => (R.base a o e).2) (by have := rm.depth; omega) fun env s' dvs hdv la => ?_
  have la' := la
  obtain ⟨h₂, t₂, rfl, tl⟩ := la.same
  obtain ⟨at2, le2, kp2⟩ := at_.fram (p := pOf env) la.keep la.p tl
  have is2 := la.is (W.fram (pOf env)) (fun b pb => if_pos pb) (VL.append (VL.mono le2 hv) (VL.drop _ (hdv _ _)))
  obtain ⟨m, hn, _⟩ := id is2.ns
  have rm2 : Rm (W.fram (pOf env)) h₂ (A.deeper env) n := rm.deep (fun l e => by
    obtain ⟨l', e', fr⟩ := rm.fr
    rw [e] at e'; cases e'
    exact fr.mono le2 kp2) la.kind la.frame (if_pos (.inl rfl)) hn
  have np : ∀ b o, s.heap.get? b = some o → ¬ pOf env b := fun b o e z => (la.p b z).1 o e
  have topA : TopA (A.deeper env) env := by
    obtain ⟨l, e, _⟩ := rm.fr
    exact ⟨⟨l, by show A.frames.map _ = _; rw [e]; rfl⟩, la'.frame⟩
  refine hS fn.body _ sh _ X (A.deeper env) env (W.fram (pOf env)) { s with heap := h₂, toks := t₂ } _ _ ⟨hb, topA⟩ ⟨rm2, ⟨at2.rep, at2.n, at2.tk⟩, is2⟩ (fun fl lo sh' W₁ h₁ f tk k l kb R₁ n₁ i₁ f₁ ht => ?_) (hX env _ _ la' ⟨rm2, at2, is2⟩ le2)
  have tl' : t₂ ≤ tk := ht
  have kp : Kp W s.heap h₁ := fun a o p e => kb a o ((le2.fr a p)) (fun z => np a o e (.inl z)) (fun x c ec z => np a o e (.inr ⟨x, z ▸ ec⟩)) (la.keep a o e)
  have fin : ∀ {d : D} {v : Value}, K d sh' → V G W₁ h₁ d v → Q v { s with heap := h₁, toks := tk } := fun k hv => q _ sh' W₁ h₁ _ tk k (le2.trans l) kp R₁ n₁ hv (Nat.le_trans tl tl')
  cases fl with
  | next =>
    cases f₁
    exact fin k V.vnone
  | ret d =>
    obtain ⟨v, rfl, hv⟩ := f₁
    exact fin k hv
  | brk => exact k.elim
  | cont => exact k.elim
noncomputable def Wd.newO (W : Wd) (x dx : Addr) : Wd := ⟨fun b => if b = x then some (.t W.n) else if b = dx then some (.d W.n) else W.own b, fun k => if k = W.n then x else W.ρ k, W.n + 1⟩
theorem At.newO (at_ : At G W sh s) {x dx c : Addr} {C : Str} {h' : Heap} (hm : Heap.MadeObj s.heap h' x dx c) (hc : G.mg C = some (.ref c)) :
    At G (W.newO x dx) { sh with tr := (sh.n, .obj C [] []) :: sh.tr, n := sh.n + 1 } { s with heap := h' } ∧ Le W s.heap (W.newO x dx) h' ∧ Kp W s.heap h' ∧ (W.newO x dx).ρ sh.n = x := by
  have R := at_.rep
  have hn := at_.n
  have nx : ∀ b o, s.heap.get? b = some o → b ≠ x ∧ b ≠ dx := fun b o e => ⟨fun z => (by rw [z, hm.newX] at e; cases e), fun z => (by rw [z, hm.newD] at e; cases e)⟩
  have ow : ∀ b o, s.heap.get? b = some o → (W.newO x dx).own b = W.own b := fun b o e => by
    show (if b = x then _ else if b = dx then _ else _) = _
    rw [if_neg (nx b o e).1, if_neg (nx b o e).2]
  have ox : (W.newO x dx).own x = some (.t W.n) := if_pos rfl
  have l : Le W s.heap (W.newO x dx) h' := ⟨fun b o p e => ⟨(ow b o e).trans p, hm.keeps b o e⟩, fun b p => let ⟨o, e⟩ := R.ownd b _ p; (ow b o e).trans p, Nat.le_succ _, fun k hk => if_neg (Nat.ne_of_lt hk), fun b o p e => ⟨(ow b o e).trans p, hm.keeps b o e⟩⟩
  obtain ⟨o, ho, hoc, hod, hin⟩ := hm.inst
  have hdx := hm.dict o ho
  rcases hin with hin | ⟨dx', e1, e2, e3⟩
  · rw [hdx] at hin; first | (cases hin.1) | (obtain ⟨hin, _⟩ := hin; cases hin)
  rw [hdx] at e1; cases e1
  have odx : (W.newO x dx).own dx = some (.d W.n) := by
    show (if dx = x then _ else if dx = dx then _ else _) = _
    rw [if_neg e2, if_pos rfl]
  have ρx : (W.newO x dx).ρ sh.n = x := hn ▸ if_pos rfl
  refine ⟨⟨R.chg l.v (fun b w q => ?_) fun j u q => ?_, congrArg (· + 1) hn, at_.tk⟩, l, Kp.grow hm.keeps, ρx⟩
  · by_cases z : b = x
    · exact ⟨o, z ▸ ho⟩
    · by_cases z' : b = dx
      · obtain ⟨o', _, _, ho', _⟩ := e3
        exact ⟨o', z' ▸ ho'⟩
      · obtain ⟨o', e⟩ := R.ownd b w ((if_neg z').symm.trans ((if_neg z).symm.trans q))
        exact ⟨o', hm.keeps _ _ e⟩
  · by_cases hj : j = sh.n
    · subst hj
      rw [List.lookup_cons_self] at q
      cases q
      refine .inr ⟨hn ▸ Nat.lt_succ_self W.n, (congrArg _ ρx).trans (hn ▸ ox), ?_⟩
      show TRa G _ _ _ ((W.newO x dx).ρ sh.n) _
      rw [ρx]
      exact ⟨c, dx, o, [], _, hn ▸ odx, hc, ho, hoc, hod, hdx, e2, e3, rfl, trivial, fun f => rfl⟩
    · rw [List.lookup_cons, beq_false_of_ne hj] at q
      refine .inl ⟨q, fun a z => ?_⟩
      have ex : ∃ o, s.heap.get? a = some o := by
        cases z with
        | inl z => exact R.ownd a _ z
        | inr z => exact R.ownd a _ z
      obtain ⟨o', e⟩ := ex
      exact ⟨ow a o' e, fun o => hm.keeps a o⟩
theorem noM_ok {env : Env} : AfM G env W s noX E := noX_ok
theorem new_ok (ok : GOk cf G) (hS : SB G r n) {x : Str} {fn : Fn} {as : List Str} {fv : Value} {args : List D} {vs : List Value} (hc : cf.cls x = some (fn, as))
    (h : bindD fn (.ref sh.n :: args) fun lo => r.B fn.body ⟨fn.sc, lo⟩ { sh with tr := (sh.n, .obj x [] []) :: sh.tr, n := sh.n + 1 } (retK fun d sh' => match isNo d with | true => K (.ref sh.n) sh' | false => False) noX)
    (st : S0 G W sh A (n + 1) s) (hf : V G W s.heap (.glob x) fv) (hv : VL G W s.heap args vs) (q : Af G (V G) W s K Q) : wpAny (model G.prog G.w) A (call fv vs) Q E s := by
  obtain ⟨c, N, mN, fI, hg, X, hi, okf, _⟩ := ok.cls _ _ _ hc
  obtain rfl : fv = .ref c := Option.some.inj (Eq.trans (Eq.symm hf) hg)
  obtain ⟨f, fo, fd, ef, hfo, hcls, _⟩ := okf.ex
  cases ef
  have kp : ∀ b o, G.h₀.get? b = some o → s.heap.get? b = some o := fun b o e => (st.at_.rep.base b o e).2
  have X' := X.keeps kp
  obtain ⟨nm, q', bs, sn, sub, col, dd, k0, k1, k2, k3, k5, hC⟩ := X'.obj
  have hn := X'.ns
  have hfI := kp _ _ hfo
  obtain ⟨hp, g, d, tk, os⟩ := s
  refine wpAny_call_obj_init PySem.F.objNew hC hn hi hfI hcls fun h' xa dx hm => ?_
  obtain ⟨at1, l1, p1, ρ1⟩ := st.at_.newO hm hg
  have hn' := st.at_.n
  refine imp_ok (K := fun d sh' => match isNo d with | true => K (.ref sh.n) sh' | false => False) (X := noX) hS ok.nolimit (args := .ref sh.n :: args) okf h ⟨?_, ?_, ?_, ?_⟩ at1 ?_ ?_ fun _ _ _ _ _ _ => noM_ok
  · rw [depth_under_make]; have := st.rm.depth; lia
  · rw [units_under_make]; have := st.rm.units; lia
  · exact st.rm.hand
  · obtain ⟨l, e, fr⟩ := st.rm.fr
    exact ⟨l, e, fr.mono l1 p1⟩
  · exact ⟨⟨hn' ▸ Nat.lt_succ_self W.n, congrArg Value.ref ρ1.symm⟩, VL.mono l1 hv⟩
  · intro d sh' W' h'' v tk' k l2 p2 r2 n2 v2 t2
    obtain ⟨e, k⟩ := trueE k
    obtain rfl := isNo_out e
    cases v2
    have hlt : sh.n < (W.newO xa dx).n := hn' ▸ Nat.lt_succ_self W.n
    exact ⟨rfl, q _ sh' W' h'' _ tk' k (l1.trans l2) (Kp.trans l1 p1 p2) r2 n2 ⟨Nat.lt_of_lt_of_le hlt l2.n, congrArg Value.ref ((l2.ρ _ hlt).trans ρ1).symm⟩ t2⟩
end
end Mine
end
section
open Classical
namespace Mine
theorem isFree_out {k : NameKind} (h : isFree k = true) : k = .free := by
  cases k <;> first | rfl | exact Bool.noConfusion h
theorem free_beq (k : NameKind) : (k == NameKind.free) = isFree k := by cases k <;> rfl
theorem isKind_cell {o : Option NameKind} (h : isKind o NameKind.cell.ctorIdx = true) : o = some .cell := by
  cases o with
  | none => exact Bool.noConfusion h
  | some k => cases k <;> first | rfl | exact Bool.noConfusion h
theorem isKind_free {o : Option NameKind} (h : isKind o NameKind.free.ctorIdx = true) : o = some .free := by
  cases o with
  | none => exact Bool.noConfusion h
  | some k => cases k <;> first | rfl | exact Bool.noConfusion h
noncomputable def clAdd (o : Option Addr) (n : Str) (acc : List (Str × Addr)) : List (Str × Addr) := match o with
  | some c => (n, c) :: acc
  | Option.none => acc
noncomputable def clOf (cells : List (Str × Addr)) : List (Str × NameKind) → List (Str × Addr) → List (Str × Addr)
  | [], acc => acc
  | p :: r, acc => clOf cells r (match isFree p.2 with | true => clAdd (cells.lookup p.1) p.1 acc | false => acc)
theorem clos_go {env : Env} {outer : List (Str × NameKind)} (hc : ∀ x, outer.lookup x = some .cell → ∃ c, env.cells.lookup x = some c) (names : List (Str × NameKind)) : ∀ (acc : List (Str × Addr)), freeOk outer names = true →
    (forIn names acc (fun (x : Str × NameKind) (cs : List (Str × Addr)) => (if x.2 == .free then do let c ← cellOf env x.1; pure (ForInStep.yield ((x.1, c) :: cs)) else pure (ForInStep.yield cs) : Sem (ForInStep (List (Str × Addr)))))) = (pure (clOf env.cells names acc) : Sem _) := by
  induction names with
  | nil => exact fun acc _ => List.forIn_nil
  | cons p r ih =>
    intro acc h
    obtain ⟨h1, h2⟩ := Bool.and_eq_true_iff.mp h
    rw [List.forIn_cons, free_beq]
    show _ = (pure (clOf env.cells r (match isFree p.2 with | true => clAdd (env.cells.lookup p.1) p.1 acc | false => acc)) : Sem _)
    cases hk : isFree p.2 with
    | true =>
      rw [hk] at h1
      obtain ⟨c, ec⟩ := hc p.1 (isKind_cell h1)
      have : cellOf env p.1 = (pure c : Sem Addr) := by unfold cellOf; rw [ec]
      rw [if_pos rfl, this, ec, pure_bind, pure_bind]
      exact ih _ h2
    | false =>
      rw [if_neg nofun, pure_bind]
      exact ih _ h2
theorem clos_ok {env : Env} {outer : List (Str × NameKind)} {scope : Scope} (hc : ∀ x, outer.lookup x = some .cell → ∃ c, env.cells.lookup x = some c) (h : freeOk outer scope.names = true) :
    closureFor scope env = pure (clOf env.cells scope.names []) := by
  unfold closureFor
  have e := clos_go hc scope.names [] h
  show ((forIn scope.names [] _ : Sem _) >>= fun cs => pure cs) = _
  rw [bind_pure]
  exact e
inductive ClM (cells : List (Str × Addr)) (n : Str) (c : Addr) (names : List (Str × NameKind)) (acc : List (Str × Addr)) : Prop
  | a (h : (n, c) ∈ acc) : ClM cells n c names acc
  | n (h : cells.lookup n = some c) (m : n ∈ names.map (·.1)) : ClM cells n c names acc
theorem clOf_mem {cells : List (Str × Addr)} {n : Str} {c : Addr} {names : List (Str × NameKind)} : ∀ {acc : List (Str × Addr)}, (n, c) ∈ clOf cells names acc → ClM cells n c names acc := by
  induction names with
  | nil => exact fun h => .a h
  | cons p r ih =>
    intro acc h
    cases ih h with
    | n h m => exact .n h (List.mem_cons_of_mem _ m)
    | a h =>
      cases hk : isFree p.2 with
      | false => rw [hk] at h; exact .a h
      | true =>
        rw [hk] at h
        cases e : cells.lookup p.1 with
        | none => rw [e] at h; exact .a h
        | some c' =>
          rw [e] at h
          have h : (n, c) ∈ (p.1, c') :: acc := h
          cases h with
          | head => exact .n e List.mem_cons_self
          | tail _ h => exact .a h
theorem clOf_look {cells : List (Str × Addr)} {n : Str} {c : Addr} (hc : cells.lookup n = some c) {names : List (Str × NameKind)} : ∀ {acc : List (Str × Addr)}, (names.lookup n = some .free ∨ acc.lookup n = some c) → (acc.lookup n = some c ∨ acc.lookup n = Option.none) → (clOf cells names acc).lookup n = some c := by
  induction names with
  | nil =>
    intro acc h _
    cases h with
    | inl h => exact nos h
    | inr h => exact h
  | cons p r ih =>
    intro acc h ha
    obtain ⟨y, k⟩ := p
    show (clOf cells r (match isFree k with | true => clAdd (cells.lookup y) y acc | false => acc)).lookup n = _
    by_cases hy : n = y
    · subst hy
      cases hk : isFree k with
      | true =>
        rw [hc]
        exact ih (.inr List.lookup_cons_self) (.inl List.lookup_cons_self)
      | false =>
        refine ih ?_ ha
        cases h with
        | inl h => rw [List.lookup_cons_self] at h; cases h; exact Bool.noConfusion hk
        | inr h => exact .inr h
    · have e3 : (match isFree k with | true => clAdd (cells.lookup y) y acc | false => acc).lookup n = acc.lookup n := by
        cases isFree k with
        | false => rfl
        | true => cases cells.lookup y with
          | none => rfl
          | some z => exact (List.lookup_cons ..).trans (by rw [beq_false_of_ne hy])
      refine ih ?_ (e3.symm ▸ ha)
      cases h with
      | inl h => rw [List.lookup_cons, beq_false_of_ne hy] at h; exact .inl h
      | inr h => exact .inr (e3.trans h)
theorem clOf_apart {cells : List (Str × Addr)} (hp : cells.Pairwise fun x y => x.2 ≠ y.2) {names : List (Str × NameKind)} : ∀ {acc : List (Str × Addr)}, (names.map (·.1)).Nodup → (∀ n c, (n, c) ∈ acc → cells.lookup n = some c ∧ n ∉ names.map (·.1)) → (acc.Pairwise fun x y => x.2 ≠ y.2) →
    (clOf cells names acc).Pairwise fun x y => x.2 ≠ y.2 := by
  induction names with
  | nil => exact fun _ _ h => h
  | cons p r ih =>
    intro acc nd ha h
    obtain ⟨nd1, nd2⟩ := List.nodup_cons.mp nd
    have ha' : ∀ n c, (n, c) ∈ acc → cells.lookup n = some c ∧ n ∉ r.map (·.1) := fun n c hm => ⟨(ha n c hm).1, fun z => (ha n c hm).2 (List.mem_cons_of_mem _ z)⟩
    show (clOf cells r (match isFree p.2 with | true => clAdd (cells.lookup p.1) p.1 acc | false => acc)).Pairwise _
    cases isFree p.2 with
    | false => exact ih nd2 ha' h
    | true => cases e : cells.lookup p.1 with
      | none => exact ih nd2 ha' h
      | some c =>
        refine ih nd2 (fun n z hm => ?_) (List.pairwise_cons.mpr ⟨fun w hw q => ?_, h⟩)
        · cases hm with
          | head => exact ⟨e, nd1⟩
          | tail _ hm => exact ha' n z hm
        · obtain ⟨h1, h2⟩ := ha w.1 w.2 hw
          have q : c = w.2 := q
          have : p.1 = w.1 := name_of_addr hp (mem_of_lookup e) (q ▸ mem_of_lookup h1)
          exact h2 (this ▸ List.mem_cons_self)
theorem relab_look {outer : List (Str × NameKind)} {x : Str} {names : List (Str × NameKind)} : (relab names outer).lookup x = (names.lookup x).map fun k => relK k (outer.lookup x) := by
  induction names with
  | nil => rfl
  | cons p r ih =>
    obtain ⟨y, k⟩ := p
    show List.lookup x ((y, relK k (outer.lookup y)) :: relab r outer) = _
    by_cases hy : x = y
    · subst hy
      rw [List.lookup_cons_self, List.lookup_cons_self]; rfl
    · rw [List.lookup_cons, List.lookup_cons, beq_false_of_ne hy]
      exact ih
theorem relabel_eq {scope : Scope} {env : Env} {outer : List (Str × NameKind)} (hk : env.scope.kind = .function) (hn : env.scope.names = outer) : (relabel scope env).names = relab scope.names outer := by
  unfold relabel relab
  refine List.map_congr_left fun x hx => ?_
  obtain ⟨n, k⟩ := x
  have e : env.kindOf n = outer.lookup n := by show env.scope.names.lookup n = _; rw [hn]
  dsimp only
  rw [hk, e]
  cases k <;> cases outer.lookup n <;> first | rfl | (rename_i q; cases q <;> rfl)
theorem okSc_of {names : List (Str × NameKind)} : okSc names = true → ∀ y ∈ names, y.2 ≠ .cell := by
  induction names with
  | nil => exact fun _ y hy => (List.not_mem_nil hy).elim
  | cons p r ih =>
    intro h y hy
    obtain ⟨h1, h2⟩ := Bool.and_eq_true_iff.mp h
    cases hy with
    | head => intro q; rw [q] at h1; cases h1
    | tail _ hy => exact ih h2 y hy
theorem keepLo_of {names : List (Str × NameKind)} {x : Str} {d : D} {lo : List (Str × D)} : lk (keepLo names lo) x = some d → names.lookup x = some .free ∧ lk lo x = some d := by
  induction lo with
  | nil => exact fun h => nos h
  | cons p r ih =>
    intro h
    have h : lk (match isKind (names.lookup p.1) NameKind.free.ctorIdx with | true => p :: keepLo names r | false => keepLo names r) x = some d := h
    have e (l : List (Str × D)) : lk (p :: l) x = match decide (p.1 = x) with | true => some p.2 | false => lk l x := rfl
    rw [e]
    cases q : isKind (names.lookup p.1) NameKind.free.ctorIdx with
    | true =>
      rw [q] at h
      have h : lk (p :: keepLo names r) x = some d := h
      rw [e] at h
      by_cases hy : p.1 = x
      · rw [decide_eq_true hy] at h ⊢
        exact ⟨hy ▸ isKind_free q, h⟩
      · rw [decide_eq_false hy] at h ⊢
        exact ih h
    | false =>
      rw [q] at h
      obtain ⟨h1, h2⟩ := ih h
      refine ⟨h1, ?_⟩
      by_cases hy : p.1 = x
      · rw [hy, h1] at q; cases q
      · rw [decide_eq_false hy]; exact h2
theorem lookup_of_mem {x : Str} {k : NameKind} {names : List (Str × NameKind)} : (names.map (·.1)).Nodup → (x, k) ∈ names → names.lookup x = some k := by
  induction names with
  | nil => exact fun _ h => (List.not_mem_nil h).elim
  | cons p r ih =>
    intro nd hm
    obtain ⟨nd1, nd2⟩ := List.nodup_cons.mp nd
    cases hm with
    | head => exact List.lookup_cons_self
    | tail _ hm =>
      have : x ≠ p.1 := fun e => nd1 (List.mem_map.mpr ⟨_, hm, e⟩)
      exact (List.lookup_cons ..).trans (by rw [beq_false_of_ne this]; exact ih nd2 hm)
end Mine
end
section
open Classical
namespace Mine
section
variable {cf : Cf} {G : Glo} {r : Ev} {A : Around} {n : Nat} {E : Value → Shared → Prop}
noncomputable def Kp2 (I C : Addr) (W : Wd) (h h' : Heap) : Prop := ∀ a o, W.own a = some .f → a ≠ I → a ≠ C → h.get? a = some o → Sa h' a o
theorem Kp2.trans {I C W W' h h' h''} (l : Le W h W' h') (x : Kp2 I C W h h') (y : Kp2 I C W' h' h'') : Kp2 I C W h h'' := fun a o p i q r => (x a o p i q r).trans fun o' e => y a o' (l.fr a p) i q e
theorem Kp.two {I C W h h'} (x : Kp W h h') : Kp2 I C W h h' := fun a o p _ _ e => x a o p e
inductive CoI (G : Glo) (r : Ev) (elt : Expr) (x : Str) (sc : List (Str × NameKind)) (d0 : D) (k : Nat) (A : Around) (n : Nat) (cenv : Env) (I Da ax : Addr) (K : KE) (W₁ : Wd) (s₁ : Shared) (m : Nat) (s' : Shared) : Prop
  | mk (i : Nat) (W' : Wd) (sh' : Sh) (lo' : List (Str × D)) (h' : Heap) (tk : Nat) (e1 : compE r elt x sc d0 k m i lo' sh' K) (e2 : s' = { s₁ with heap := h', toks := tk }) (e3 : S1 G W' sh' A n cenv ⟨sc, lo'⟩ s') (e4 : Le W₁ s₁.heap W' h') (e5 : Kp2 I cenv.locals W₁ s₁.heap h') (e6 : W'.own I = some .f) (e7 : h'.IsListIter I ax i) (e8 : V G W' h' d0 (.ref ax)) (e9 : V G W' h' (.ref k) (.ref Da)) (e10 : s₁.toks ≤ tk) : CoI G r elt x sc d0 k A n cenv I Da ax K W₁ s₁ m s'
theorem comp_loop (S : SE G r n) {elt iter : Expr} {x : Str} {px pos : Pos} {scope : Scope} {sc : List (Str × NameKind)} {d0 : D} {k : Nat} {cenv : Env} {I Da ax : Addr} {K : KE} {W₁ : Wd} {sh₁ : Sh} {s₁ : Shared} {lo₁ : List (Str × D)} {R : Result → Shared → Prop} {m : Nat}
    (h : compE r elt x sc d0 k m 0 lo₁ sh₁ K) (st : S1 G W₁ sh₁ A n cenv ⟨sc, lo₁⟩ s₁) (hx : cenv.scope.names.lookup x = some .local) (oI : W₁.own I = some .f) (hit : s₁.heap.IsListIter I ax 0) (h0 : V G W₁ s₁.heap d0 (.ref ax)) (hD : V G W₁ s₁.heap (.ref k) (.ref Da))
    (neI : I ≠ cenv.locals) (neC : ∀ y c, cenv.cells.lookup y = some c → I ≠ c)
    (hR : ∀ d sh' W' h' tk, K d sh' → Le W₁ s₁.heap W' h' → Kp2 I cenv.locals W₁ s₁.heap h' → Rep G W' sh'.tr h' → W'.n = sh'.n → V G W' h' d (.ref Da) → W'.own I = some .f → W'.own cenv.locals = some .f → (∃ m, h'.Ns cenv.locals m) → s₁.toks ≤ tk →
      ∀ h'', Heap.ExtBut I h' h'' → R (.ok .next) { s₁ with heap := h'', toks := tk }) :
    codeAny (model G.prog G.w) A (.compLoop (.ListComp elt [⟨.Name x px, iter, [], 0⟩] scope pos) 0 (.ref I) (.ref Da) cenv) R s₁ := by
  refine codeAny_compLoop_list (CoI G r elt x sc d0 k A n cenv I Da ax K W₁ s₁) ?_ m ⟨0, W₁, sh₁, lo₁, s₁.heap, s₁.toks, h, rfl, st, Le.refl, fun _ _ _ _ _ e => .of e, oI, hit, h0, hD, Nat.le_refl _⟩
  intro m s' y
  obtain ⟨i, W', sh', lo', h', tk, hc, rfl, st', l', kp', oI', hit', h0', hD', ht'⟩ := y
  cases m with
  | zero =>
    obtain ⟨ds, e, hc⟩ := someE hc
    obtain ⟨a, vs, q, ea, hL, hvl⟩ := lstT_of st'.at_.rep h0' e
    cases ea
    cases e2 : ds[i]? with
    | some d => rw [e2] at hc; exact False.elim hc
    | none =>
      rw [e2] at hc
      have hv : vs[i]? = Option.none := Array.getElem?_eq_none (hvl.size ▸ List.getElem?_eq_none_iff.mp e2)
      obtain ⟨mm, hn, _⟩ := st'.is.ns
      exact wpAny_pyNext_list_end st'.rm.hand hit' ⟨_, hL, rfl, _, rfl⟩ hv fun h'' he => hR _ sh' W' h' tk hc l' kp' st'.at_.rep st'.at_.n hD' oI' st'.is.own ⟨mm, hn⟩ ht' h'' he
  | succ m =>
    obtain ⟨ds, e, hc⟩ := someE hc
    obtain ⟨d, e2, hc⟩ := someE hc
    rw [nrmD_eq] at hc
    obtain ⟨a, vs, q, ea, hL, hvl⟩ := lstT_of st'.at_.rep h0' e
    cases ea
    obtain ⟨v, hv, hvd⟩ := hvl.get e2
    rw [Array.getElem?_toList] at hv
    refine wpAny_pyNext_list_item hit' ⟨_, hL, rfl, _, rfl⟩ hv fun h₂ hit₂ sb₂ => ?_
    obtain ⟨ob, hob, hoc, hod⟩ := id hit₂
    obtain ⟨R₂, l₂⟩ := st'.at_.rep.updF oI' sb₂ hob
    have kk : ∀ a o, a ≠ I → h'.get? a = some o → h₂.get? a = some o := fun a o n e => (sb₂.2 a n).trans e
    have neI' : ∀ a, (a = cenv.locals ∨ ∃ x, cenv.cells.lookup x = some a) → a ≠ I := fun a x e => by
      cases x with
      | inl x => exact neI (e.symm.trans x)
      | inr x => obtain ⟨x, y⟩ := x; exact neC x a y e.symm
    have rm₂ : Rm W' h₂ A n := by
      obtain ⟨fl, fa, fb⟩ := st'.rm.fr
      refine ⟨st'.rm.depth, st'.rm.units, st'.rm.hand, fl, fa, fb.at (fun _ p => p) fun e he L o eL eo => kk L o (fun z => ?_) eo⟩
      obtain ⟨_, L', d2, _, o', es, ep, c4, c5⟩ := fb e he
      obtain rfl : L = L' := Option.some.inj (eL.symm.trans d2)
      obtain ⟨oi, hoi, _, hdi⟩ := hit'
      obtain rfl : oi = o' := Option.some.inj (hoi.symm.trans (z ▸ c4))
      exact nomatch hdi.symm.trans c5
    have st₂ : S1 G W' sh' A n cenv ⟨sc, lo'⟩ { s₁ with heap := h₂, toks := tk } := ⟨rm₂, ⟨R₂, st'.at_.n, st'.at_.tk⟩, Is.at st'.is (fun _ _ p => p) (fun a o x e => kk a o (neI' a x) e) fun x d e => ⟨d, e, fun _ => V.mono l₂⟩⟩
    refine wpAny_assign_Name (storeL_ok (d := d) hx st₂ (V.mono l₂ hvd) fun h₃ sb₃ r₃ l₃ i₃ => ?_)
    have st₃ : S1 G W' sh' A n cenv ⟨sc, put lo' x d⟩ { s₁ with heap := h₃, toks := tk + 1 } := st₂.stmt l₃ (fun a o _ ne _ e => .of ((sb₃.2 a ne).trans e)) r₃ st'.at_.n i₃ (Nat.le_succ _)
    have kpA : Kp2 I cenv.locals W' h' h₃ := fun a o p n1 n2 e => .of ((sb₃.2 a n2).trans (kk a o n1 e))
    have lA := l₂.trans l₃
    refine S elt _ sh' _ A cenv W' _ _ _ hc st₃ fun v₄ sh₄ W₄ h₄ u₄ t₄ k₄ l₄ p₄ r₄ n₄ hv₄ ht₄ => ?_
    rw [nrmD_eq] at k₄
    have st₄ := st₃.step l₄ p₄ r₄ n₄ ht₄
    refine callB_ok (f := .bi "list.append") k₄ st₄.at_ rfl ⟨V.mono l₄ (V.mono lA hD'), hv₄, trivial⟩ st₄.rm.u70 fun d₅ sh₅ W₅ h₅ v₅ t₅ k₅ l₅ p₅ r₅ n₅ hv₅ ht₅ => ?_
    have lB := lA.trans (l₄.trans l₅)
    have keepI : h₅.get? I = some ob := by
      have nd : ∀ es ep, ob.data ≠ .dict es ep := fun es ep z => nomatch hod.symm.trans z
      have e4 := (p₄ I ob oI' ((sb₃.2 I neI).trans hob)).at nd
      exact (p₅ I ob (l₄.fr I oI') e4).at nd
    exact ⟨m, Nat.lt_succ_self _, i + 1, W₅, sh₅, put lo' x d, h₅, t₅, k₅, rfl, st₄.step l₅ p₅ r₅ n₅ ht₅, l'.trans lB, Kp2.trans l' kp' (Kp2.trans lA kpA (Kp2.trans l₄ p₄.two p₅.two)), l₅.fr I (l₄.fr I oI'), ⟨ob, keepI, hoc, hod⟩, V.mono lB h0', V.mono lB hD', Nat.le_trans ht' (Nat.le_trans (Nat.le_succ _) (Nat.le_trans ht₄ ht₅))⟩
end
end Mine
end
section
open Classical
namespace Mine
section
variable {cf : Cf} {G : Glo} {r : Ev} {A : Around} {n : Nat} {E : Value → Shared → Prop} {env : Env} {ρ : Loc}
theorem relK_free {o : Option NameKind} (h : isKind o NameKind.cell.ctorIdx = true) : relK .free o = .cell := by
  show (match (true && isKind o NameKind.cell.ctorIdx) with | true => NameKind.cell | false => .free) = _
  rw [h]; rfl
theorem relK_cell {k : NameKind} {o : Option NameKind} (h : relK k o = .cell) : k = .cell ∨ k = .free := by
  cases k <;> first | exact .inl rfl | exact .inr rfl | exact NameKind.noConfusion h
theorem freeOk_look {outer : List (Str × NameKind)} {y : Str} {names : List (Str × NameKind)} : freeOk outer names = true → names.lookup y = some .free → outer.lookup y = some .cell := by
  induction names with
  | nil => exact fun _ z => nos z
  | cons p r ih =>
    obtain ⟨a, k⟩ := p
    intro hf z
    obtain ⟨h1, h2⟩ := Bool.and_eq_true_iff.mp hf
    by_cases hy : y = a
    · subst hy
      rw [List.lookup_cons_self] at z
      cases z
      exact isKind_cell h1
    · rw [List.lookup_cons, beq_false_of_ne hy] at z
      exact ih h2 z
theorem comp_is {W : Wd} {h : Heap} {cenv : Env} {scope : Scope} {C : Addr} (is : Is G W h env ρ) (hok : okSc scope.names = true) (hfree : freeOk ρ.sc scope.names = true) (hnd : (scope.names.map (·.1)).Nodup) (hkind : scope.kind = .function)
    (e1 : cenv.scope = relabel scope env) (e2 : cenv.locals = C) (e3 : cenv.cells = clOf env.cells scope.names []) (e4 : cenv.globals = env.globals) (e5 : cenv.builtins = env.builtins) (oC : W.own C = some .f) {m : Str → Option Value} (hn : h.Ns C m) :
    Is G W h cenv ⟨relab scope.names ρ.sc, keepLo scope.names ρ.lo⟩ := by
  have en : cenv.scope.names = relab scope.names ρ.sc := by rw [e1]; exact relabel_eq is.kind is.names
  have mem : ∀ {y c}, cenv.cells.lookup y = some c → env.cells.lookup y = some c := fun e => by
    rw [e3] at e
    cases clOf_mem (mem_of_lookup e) with
    | a z => exact (List.not_mem_nil z).elim
    | n z _ => exact z
  have look : ∀ {y}, scope.names.lookup y = some .free → ρ.sc.lookup y = some .cell ∧ ∃ c, env.cells.lookup y = some c ∧ cenv.cells.lookup y = some c := fun {y} e => by
    have hc := freeOk_look hfree e
    obtain ⟨c, ec⟩ := is.cex y (is.names.symm ▸ hc)
    exact ⟨hc, c, ec, e3.symm ▸ clOf_look ec (.inl e) (.inr rfl)⟩
  refine ⟨by rw [e1]; exact hkind, en, e4.trans is.glob, e5.trans is.blt, by rw [e2]; exact oC, fun y c e => is.cown y c (mem e), ?_, fun y e => ?_, m, by rw [e2]; exact hn, fun y d e => ?_⟩
  · rw [e3]
    exact clOf_apart is.inj hnd (fun n c z => (List.not_mem_nil z).elim) List.Pairwise.nil
  · rw [en, relab_look] at e
    obtain ⟨k, ek, er⟩ := map_out e
    obtain rfl : k = .free := (relK_cell er.symm).resolve_left fun z => okSc_of hok _ (mem_of_lookup ek) z
    obtain ⟨_, c, _, z⟩ := look ek
    exact ⟨c, z⟩
  · obtain ⟨h1, h2⟩ := keepLo_of e
    obtain ⟨hc, c, ec, ec'⟩ := look h1
    obtain ⟨m', hn', hm'⟩ := is.ns
    rcases hm' y d h2 with ⟨a1, _⟩ | ⟨a1, c', v', a2, a3, a4⟩
    · rw [is.names, hc] at a1; cases a1
    · rw [ec] at a2; cases a2
      exact .inr ⟨.inl (by rw [en, relab_look, h1, hc]; rfl), c, v', ec', a3, a4⟩
theorem comp_tail (S : SE G r n) {elt iter : Expr} {x : Str} {px pos : Pos} {scope : Scope} {d₁ : D} {k : Nat} {cenv : Env} {I Da C ax : Addr} {K : KE} {W₁ W₄ : Wd} {sh₁ sh₂ : Sh} {s₁ : Shared} {h₄ : Heap} {t₄ m : Nat} {Q : Value → Shared → Prop}
    (k₁ : compE r elt x (relab scope.names ρ.sc) d₁ k m 0 (keepLo scope.names ρ.lo) sh₂ fun d sh => nrmS sh (K d))
    (hok : okSc scope.names = true) (hfree : freeOk ρ.sc scope.names = true) (hnd : (scope.names.map (·.1)).Nodup) (hkind : scope.kind = .function) (hx : scope.names.lookup x = some .local)
    (st₁ : S1 G W₁ sh₁ A n env ρ s₁) (l : Le W₁ s₁.heap W₄ h₄) (p : Kp W₁ s₁.heap h₄) (st₄ : S1 G W₄ sh₂ A n env ρ { s₁ with heap := h₄, toks := t₄ }) (tl : s₁.toks ≤ t₄)
    (fI : ∀ o, s₁.heap.get? I ≠ some o) (fC : ∀ o, s₁.heap.get? C ≠ some o) (oI : W₄.own I = some .f) (oC : W₄.own C = some .f) (nIC : I ≠ C) (it : h₄.IsListIter I ax 0) {mC : Str → Option Value} (hns : h₄.Ns C mC)
    (hD : V G W₄ h₄ (.ref k) (.ref Da)) (h0 : V G W₄ h₄ d₁ (.ref ax))
    (e1 : cenv.scope = relabel scope env) (e2 : cenv.locals = C) (e3 : cenv.cells = clOf env.cells scope.names []) (e4 : cenv.globals = env.globals) (e5 : cenv.builtins = env.builtins)
    (q : Af G (V G) W₁ s₁ K Q) :
    codeAny (model G.prog G.w) A (.compLoop (.ListComp elt [⟨.Name x px, iter, [], 0⟩] scope pos) 0 (.ref I) (.ref Da) cenv) (compPost (model G.prog G.w) A E Option.none Q (.ref Da) C) { s₁ with heap := h₄, toks := t₄ } := by
  subst e2
  have is4 := comp_is st₄.is hok hfree hnd hkind e1 rfl e3 e4 e5 oC hns
  have own1 : ∀ b w, W₁.own b = some w → ∃ o, s₁.heap.get? b = some o := fun b w e => st₁.at_.rep.ownd b w e
  refine comp_loop S k₁ ⟨st₄.rm, st₄.at_, is4⟩ ?_ oI it h0 hD nIC (fun y c e z => ?_) ?_
  · rw [is4.names]
    show (relab scope.names ρ.sc).lookup x = some .local
    rw [relab_look, hx]; rfl
  · have e' : env.cells.lookup y = some c := by
      rw [e3] at e
      cases clOf_mem (mem_of_lookup e) with
      | a z => exact (List.not_mem_nil z).elim
      | n z _ => exact z
    obtain ⟨_, v, o, ho, _⟩ := st₁.is.cown y c e'
    exact fI o (z ▸ ho)
  · intro d sh' W' h' tk kd lE kpE R' n' hv oI' oC' hmm ht h'' he
    obtain ⟨mm, hnn⟩ := hmm
    rw [nrmS_eq] at kd
    show ∃ m, h''.Ns cenv.locals m ∧ ∀ h₃, Heap.SameBut cenv.locals h'' h₃ → Q (.ref Da) { s₁ with heap := h₃, toks := tk }
    refine ⟨mm, hnn.extBut he (Ne.symm nIC), fun h₃ sb => ?_⟩
    obtain ⟨R1, v1⟩ := R'.let_go oI' (h' := h'') fun b o hb eo => he b o hb eo
    have oC1 : (W'.frz I).own cenv.locals = some .f := (if_neg (Ne.symm nIC)).trans oC'
    obtain ⟨R2, v2⟩ := R1.let_go oC1 (h' := h₃) fun b o hb eo => (sb.2 b hb).trans eo
    have lA := l.trans lE
    have neI : ∀ a w, W₁.own a = some w → a ≠ I := fun a w e z => let ⟨o, ho⟩ := own1 a w e; fI o (z ▸ ho)
    have neC : ∀ a w, W₁.own a = some w → a ≠ cenv.locals := fun a w e z => let ⟨o, ho⟩ := own1 a w e; fC o (z ▸ ho)
    have ownE : ∀ a, a ≠ I → a ≠ cenv.locals → ((W'.frz I).frz cenv.locals).own a = W'.own a := fun a n1 n2 => (if_neg n2).trans (if_neg n1)
    refine q d sh' ((W'.frz I).frz cenv.locals) h₃ _ tk kd ⟨fun a o e1 e2 => ?_, fun a e => ?_, lA.n, lA.ρ, fun a o e1 e2 => ?_⟩ (fun a o e1 e2 => ?_) R2 n' (V.monoV v2 (V.monoV v1 hv)) (Nat.le_trans tl ht)
    · obtain ⟨z1, z2⟩ := lA.fz a o e1 e2
      obtain ⟨z3, z4⟩ := v1.fz a o z1 z2
      exact v2.fz a o z3 z4
    · rw [ownE a (neI a _ e) (neC a _ e)]
      exact lA.fr a e
    · rw [ownE a (neI a _ e1) (neC a _ e1)]
      obtain ⟨z1, z2⟩ := lA.xx a o e1 e2
      exact ⟨z1, (sb.2 a (neC a _ e1)).trans (he a o (neI a _ e1) z2)⟩
    · refine ((p a o e1 e2).trans fun o' e' => kpE a o' (l.fr a e1) (neI a _ e1) (neC a _ e1) e').trans fun o' e' => .of ?_
      exact (sb.2 a (neC a _ e1)).trans (he a o' (neI a _ e1) e')
theorem comp_ok (S : SE G r n) {e : Expr} {sh : Sh} {K : KE} {W : Wd} {s : Shared} {Q : Value → Shared → Prop} (h : compL r e ρ sh K) (st : S1 G W sh A n env ρ s) (q : Af G (V G) W s K Q) :
    wpAny (model G.prog G.w) A (eval e env) Q E s := by
  cases e with
  | ListComp elt gens scope pos =>
    obtain ⟨⟨x, iter⟩, eg, h⟩ := someE h
    obtain ⟨px, rfl⟩ := genOf_out eg
    obtain ⟨hc, h⟩ := falseE h
    obtain ⟨hc, hnd⟩ := Bool.or_eq_false_iff.mp hc
    obtain ⟨hc, hfree⟩ := Bool.or_eq_false_iff.mp hc
    obtain ⟨hc, hx⟩ := Bool.or_eq_false_iff.mp hc
    obtain ⟨hc, hok⟩ := Bool.or_eq_false_iff.mp hc
    obtain ⟨hset, hkind⟩ := Bool.or_eq_false_iff.mp hc
    have hnd := nodup_of (notF hnd)
    have hfree := notF hfree
    have hx := of_decide_eq_true (notF hx)
    have hok := notF hok
    have hkind := of_decide_eq_true (notF hkind)
    have is0 := st.is
    have hclos := clos_ok (scope := scope) (env := env) (outer := ρ.sc) (fun y e => is0.cex y (by rw [is0.names]; exact e)) hfree
    rw [eval_ListComp]
    refine wpAny_comprehension_free (use := Option.none) (g := ⟨.Name x px, iter, [], 0⟩) (gs := []) rfl (folded_of hset) hclos hkind (fun y hy hl => lookup_of_mem hnd (by rw [← hl]; exact hy)) ?_
    refine go S h st fun d₁ sh₁ W₁ h₁ v₁ t₁ k₁ st₁ l₁ p₁ hv₁ ht₁ => ?_
    obtain ⟨ds, e1, k₁⟩ := someE k₁
    obtain ⟨ax, vs, q1, rfl, hL, hvl⟩ := lstT_of st₁.at_.rep hv₁ e1
    have hL' : h₁.IsList ax vs := ⟨_, hL, rfl, _, rfl⟩
    refine wpAny_pyIter_list hL' ?_
    obtain ⟨at2, l2, p2, oI⟩ := st₁.at_.hold (o := { cls := .type "list_iterator", dict := none, data := .fields #[Value.ref ax, .int 0 0] }) rfl
    have st₂ : S1 G _ sh₁ A n env ρ _ := ⟨st₁.rm.mono l2 p2, at2, st₁.is.mono l2 p2⟩
    refine wpAny_newObj_type ?_
    have tr3 : TR G ((W₁.hold h₁.objs.size).new (h₁.push { cls := .type "list_iterator", dict := none, data := .fields #[Value.ref ax, .int 0 0] }).objs.size) ((h₁.push { cls := .type "list_iterator", dict := none, data := .fields #[Value.ref ax, .int 0 0] }).push { cls := .type "list", dict := none, data := .seq ([] : List Value).toArray }) (W₁.hold h₁.objs.size).n (.lst []) := by
      show TRa G _ _ _ ((Wd.new _ _).ρ _) _
      rw [new_ρ]
      exact ⟨#[], 0, Heap.get?_push_size _ rfl, trivial⟩
    obtain ⟨at3, l3, p3⟩ := st₂.at_.newT (o := { cls := .type "list", dict := none, data := .seq ([] : List Value).toArray }) rfl tr3
    have st₃ : S1 G _ _ A n env ρ _ := ⟨st₂.rm.mono l3 p3, at3, st₂.is.mono l3 p3⟩
    refine wpAny_newFunctionEnv (okSc_of hok) (fun y hy => (List.not_mem_nil hy).elim) (fun h₄ hns₄ hsb₄ => ?_) hkind
    dsimp only at hns₄ hsb₄ ⊢
    have kk4 : ∀ b o, ((h₁.push { cls := .type "list_iterator", dict := none, data := .fields #[Value.ref ax, .int 0 0] }).push { cls := .type "list", dict := none, data := .seq ([] : List Value).toArray }).get? b = some o → h₄.get? b = some o := fun b o e => hsb₄.extBut b o (Nat.ne_of_lt (Heap.lt_size e)) (Heap.get?_push_of_some _ e)
    obtain ⟨at4, l4, p4⟩ := st₃.at_.fram (p := fun b => b = ((h₁.push { cls := .type "list_iterator", dict := none, data := .fields #[Value.ref ax, .int 0 0] }).push { cls := .type "list", dict := none, data := .seq ([] : List Value).toArray }).objs.size) (h' := h₄) (tk := t₁) kk4
      (fun b hb => ⟨fun o e => by subst hb; exact Nat.lt_irrefl _ (Heap.lt_size e), let ⟨o, _, _, e, _⟩ := hns₄; ⟨o, hb ▸ e⟩⟩) (Nat.le_refl _)
    have st₄ : S1 G _ _ A n env ρ _ := ⟨st₃.rm.mono l4 p4, at4, st₃.is.mono l4 p4⟩
    have itI : h₄.IsListIter h₁.objs.size ax 0 := ⟨_, kk4 _ _ (Heap.get?_push_of_some _ (Heap.get?_push_size _ rfl)), rfl, rfl⟩
    have lA := l2.trans (l3.trans l4)
    have e2n : (W₁.hold h₁.objs.size).n = sh₁.n := at2.n
    have hD0 : V G ((W₁.hold h₁.objs.size).new (h₁.push { cls := .type "list_iterator", dict := none, data := .fields #[Value.ref ax, .int 0 0] }).objs.size) ((h₁.push { cls := .type "list_iterator", dict := none, data := .fields #[Value.ref ax, .int 0 0] }).push { cls := .type "list", dict := none, data := .seq ([] : List Value).toArray }) (.ref sh₁.n)
        (.ref (h₁.push { cls := .type "list_iterator", dict := none, data := .fields #[Value.ref ax, .int 0 0] }).objs.size) := by
      rw [← e2n]; exact V.newRef
    have hDk := V.mono l4 hD0
    have loop : codeAny (model G.prog G.w) A (.compLoop (.ListComp elt [⟨.Name x px, iter, [], 0⟩] scope pos) 0 (.ref h₁.objs.size) (.ref (h₁.push { cls := .type "list_iterator", dict := none, data := .fields #[Value.ref ax, .int 0 0] }).objs.size) _) _ _ :=
      comp_tail (s₁ := { s with heap := h₁, toks := t₁ }) (E := E) S k₁ hok hfree hnd hkind hx st₁ lA (Kp.trans l2 p2 (Kp.trans l3 p3 p4)) st₄ (Nat.le_refl _) (fun o e => Nat.lt_irrefl _ (Heap.lt_size e))
        (fun o e => by have e' := Heap.lt_size e; rw [Heap.size_push, Heap.size_push] at e'; exact absurd e' (Nat.not_lt.mpr (Nat.le_add_right _ 2))) (l4.fr _ (l3.fr _ oI)) (if_pos rfl) (by rw [Heap.size_push, Heap.size_push]; exact Nat.ne_of_lt (Nat.lt_succ_of_lt (Nat.lt_succ_self _))) itI hns₄ hDk (V.mono lA hv₁) (cenv := { newEnv scope _ env.globals (clOf env.cells scope.names []) env.qual Option.none .none (some env) builtinsNs with scope := relabel scope env }) rfl rfl rfl rfl rfl (q.step l₁ p₁ ht₁)
    exact codeAny_compStart_list loop (wpAny_pyIter_listiter itI loop)
  | _ => exact False.elim h
end
end Mine
end
section
open Classical
namespace Mine
section
variable {prog : Program} {w : World} {A : Around} {E : Value → Shared → Prop} {s : Shared}
theorem isT_typeIs {a : Addr} {xs : Array Value} {n : Nat} (h : IsT s.heap a xs n) : s.TypeIs (.ref a) "tuple" := ⟨_, h, rfl⟩
theorem tup_lt {a b : Addr} {x y : Int} {xs ys : Array Value} {n m : Nat} {t u : Tok} {xr yr : List Value} {Q : Value → Shared → Prop} (hx : IsT s.heap a xs n) (hy : IsT s.heap b ys m) (ex : xs.toList = .int x t :: xr) (ey : ys.toList = .int y u :: yr) (ne : x ≠ y) (hu : A.units < cLine)
    (h : Q (.bool (decide (x < y))) s) : wpAny (model prog w) A (richCompare .Lt (.ref a) (.ref b)) Q E s := by
  refine wpAny_richCompare_same_room (op := .Lt) (isT_typeIs hx) (isT_typeIs hy) F.slot_tuple_lt (wpAny_call_entry F.slot_tuple_lt (isT_typeIs hx) F.entry_tuple_lt ?_ (F.args_tuple_lt_2 _ _)) hu
  show wpAny _ _ (isInstance (.ref b) (.type "tuple") >>= _) _ _ s
  refine wpAny_bind (wpAny_isInstance (isT_typeIs hy) isSubtype_tuple_tuple ?_)
  simp only [Bool.not_true, Bool.false_eq_true, if_false]
  refine wpAny_bind (wpAny_tupleItemsOf hx rfl ?_)
  refine wpAny_bind (wpAny_tupleItemsOf hy rfl ?_)
  rw [ex, ey]
  rw [List.zip_cons_cons, List.forIn_cons]
  refine wpAny_bind (wpAny_bind (wpAny_bind (wpAny_eqBool_int ?_)))
  have e0 : (x == y) = false := beq_false_of_ne ne
  rw [e0]
  simp only [Bool.not_false, if_true]
  refine wpAny_bind (wpAny_rule (wpAny_bind (wpAny_lt_int (wpAny_bind (wpAny_pure (wpAny_pure (wpAny_pure ?_)))))))
  exact wpAny_pure ⟨_, rfl, by simp, h⟩
theorem tup_lt2 {a b : Addr} {x : Int} {p q : Str} {xs ys : Array Value} {n m : Nat} {t u t' u' : Tok} {xr yr : List Value} {Q : Value → Shared → Prop} (hx : IsT s.heap a xs n) (hy : IsT s.heap b ys m) (ex : xs.toList = .int x t :: .str p t' :: xr) (ey : ys.toList = .int x u :: .str q u' :: yr) (ne : p ≠ q) (hu : A.units < cLine)
    (h : Q (.bool (decide (p.cps.toList < q.cps.toList))) s) : wpAny (model prog w) A (richCompare .Lt (.ref a) (.ref b)) Q E s := by
  refine wpAny_richCompare_same_room (op := .Lt) (isT_typeIs hx) (isT_typeIs hy) F.slot_tuple_lt (wpAny_call_entry F.slot_tuple_lt (isT_typeIs hx) F.entry_tuple_lt ?_ (F.args_tuple_lt_2 _ _)) hu
  show wpAny _ _ (isInstance (.ref b) (.type "tuple") >>= _) _ _ s
  refine wpAny_bind (wpAny_isInstance (isT_typeIs hy) isSubtype_tuple_tuple ?_)
  simp only [Bool.not_true, Bool.false_eq_true, if_false]
  refine wpAny_bind (wpAny_tupleItemsOf hx rfl ?_)
  refine wpAny_bind (wpAny_tupleItemsOf hy rfl ?_)
  rw [ex, ey]
  rw [List.zip_cons_cons, List.forIn_cons]
  refine wpAny_bind (wpAny_bind (wpAny_bind (wpAny_eqBool_int ?_)))
  have e0 : (x == x) = true := beq_self_eq_true x
  rw [e0]
  simp only [Bool.not_true, Bool.false_eq_true, if_false]
  refine wpAny_pure ?_
  dsimp only
  rw [List.zip_cons_cons, List.forIn_cons]
  refine wpAny_bind (wpAny_bind (wpAny_eqBool_str ?_))
  rw [decide_eq_false ne]
  simp only [Bool.not_false, if_true]
  refine wpAny_bind (wpAny_rule (wpAny_bind (PyProof.Rows.lt_str (wpAny_bind (wpAny_pure (wpAny_pure (wpAny_pure ?_)))))))
  exact wpAny_pure ⟨_, rfl, by simp, h⟩
end
end Mine
end
namespace Mine
theorem entry_dict_update_loop : entryFor table "dict.update.loop" = some Builtin.«dict.update.loop» := entryFor_of_tree (by kernel_rfl)
theorem plain_dict_update_loop : plainId "dict.update.loop" = true := by decide +kernel
noncomputable def Prs (h : Heap) (vs : List Value) (ps : List (Str × Value)) : Prop := vs.length = ps.length ∧ ∀ (i : Nat) (p : Str × Value), ps[i]? = some p → ∃ a o t n, vs[i]? = some (.ref a) ∧ h.get? a = some o ∧ o.cls = .type "tuple" ∧ o.data = .seq #[.str p.1 t, p.2] n
theorem stored_take {ps : List (Str × Value)} (nd : (ps.map (·.1)).Nodup) {i : Nat} (hi : i < ps.length) : stored (ps.take i) ps[i].1 ps[i].2 = ps.take (i + 1) := by
  have hn : ((ps.take i).any fun kv => decide (kv.1 = ps[i].1)) = false := by
    rw [List.any_eq_false]
    intro kv hkv q
    have q := of_decide_eq_true q
    obtain ⟨j, hj, e⟩ := List.getElem_of_mem hkv
    have hj' : j < i := by rw [List.length_take] at hj; omega
    rw [List.getElem_take] at e
    have hjl : j < ps.length := by omega
    have := List.pairwise_iff_getElem.mp nd j i (by simpa using hjl) (by simpa using hi) hj'
    apply this
    rw [List.getElem_map, List.getElem_map, e]
    exact q
  unfold stored
  rw [hn, if_neg (by decide), List.take_add_one, List.getElem?_eq_getElem hi]
  rfl
section
variable {prog : Program} {w : World} {A : Around} {R : Result → Shared → Prop}
theorem dict_loop {h₀ : Heap} {D I l : Addr} {items : Array Value} {pairs : List (Str × Value)} (hh : A.in1.handled = none) (hDI : D ≠ I) (hne : l ≠ I) (h₀D : h₀.get? D = none) (h₀I : h₀.get? I = none) (hl : h₀.IsList l items) (hp : Prs h₀ items.toList pairs)
    (nd : (pairs.map (·.1)).Nodup) (hsz : pairs.length ≤ 100000) :
    ∀ (k i : Nat) (ti : Tok) (s : Shared), pairs.length - i = k → i ≤ pairs.length → (∀ b o, h₀.get? b = some o → s.heap.get? b = some o) → s.heap.IsListIter I l i → s.heap.DictOf (strKind prog w) D (pairs.take i) →
      (∀ h' tk, (∀ b o, h₀.get? b = some o → h'.get? b = some o) → h'.DictOf (strKind prog w) D pairs → s.toks ≤ tk → R (.ok (.ret .none)) { s with heap := h', toks := tk }) →
      codeAny (model prog w) A (.builtin "dict.update.loop" ⟨[.ref D, .ref I, .int i ti, .none], []⟩) R s := by
  have hlk : ∀ {h : Heap}, (∀ b o, h₀.get? b = some o → h.get? b = some o) → h.IsList l items := fun k => let ⟨o, e, c, n, d⟩ := hl; ⟨o, k _ _ e, c, n, d⟩
  have hlen : items.size = pairs.length := by have := hp.1; simpa using this
  intro k
  induction k with
  | zero =>
    intro i ti s hk hi keep it hd hR
    have hin : i = pairs.length := by omega
    subst hin
    refine codeAny_builtin entry_dict_update_loop ?_
    rw [Around.under_plainId plain_dict_update_loop _]
    show wpAny _ A.in1 (pyNext (.ref I) >>= _) _ _ s
    refine wpAny_bind (wpAny_pyNext_list_end hh it (hlk keep) (by simp [hlen]) fun h' he' => ?_)
    have hd' : h'.DictOf (strKind prog w) D pairs := by
      have := hd.extBut he' hDI
      rwa [List.take_length] at this
    show wpAny _ _ (pure () >>= fun _ => ret Value.none) _ _ _
    refine wpAny_bind (wpAny_pure (wpAny_pure ?_))
    exact hR h' s.toks (fun b o e => he' b o (fun z => by rw [z, h₀I] at e; cases e) (keep b o e)) hd' (Nat.le_refl _)
  | succ k ih =>
    intro i ti s hk hi keep it hd hR
    refine codeAny_builtin entry_dict_update_loop ?_
    rw [Around.under_plainId plain_dict_update_loop _]
    show wpAny _ A.in1 (pyNext (.ref I) >>= _) _ _ s
    obtain ⟨a, o, t, n, ea, ho, hc, hdt⟩ := hp.2 i (pairs[i]'(by omega)) (List.getElem?_eq_getElem (by omega))
    refine wpAny_bind (wpAny_pyNext_list_item it (hlk keep) (x := .ref a) (by simpa using ea) fun h' hit' hs' => ?_)
    have keep' : ∀ b o, h₀.get? b = some o → h'.get? b = some o := fun b o e => by
      rw [hs'.2 b (fun z => by rw [z, h₀I] at e; cases e)]; exact keep b o e
    have hd' : h'.DictOf (strKind prog w) D (pairs.take i) := hd.sameBut hs' hDI
    have ho' := keep' _ _ ho
    refine wpAny_bind (wpAny_holding ?_)
    refine wpAny_bind (wpAny_tryCatch ?_)
    unfold Builtin.Dict.pairItems
    refine wpAny_bind (wpAny_typeOf (T := "tuple") ⟨o, ho', hc⟩ ?_)
    rw [if_pos (by decide)]
    refine wpAny_bind (wpAny_seqItems ho' hdt (wpAny_pure ?_))
    refine wpAny_holding ?_
    unfold dictSet
    refine wpAny_holding ?_
    refine wpAny_bind ((strKind prog w).pyHash (k := (pairs[i]'(by omega)).1) (strKind_is _ _ _ _) ?_)
    refine wpAny_dictSetHashed_pairs (knd := strKind prog w) (strKind_is _ _ _ _) hd' (fun h'' hd2 hs2 => ?_) (by rw [sizeLine_eq]; simp; omega)
    rw [stored_take nd (by omega)] at hd2
    refine wpAny_pure ⟨plainId_quiet plain_dict_update_loop _, ?_⟩
    have keep2 : ∀ b o, h₀.get? b = some o → h''.get? b = some o := fun b o e => by
      rw [hs2.2 b (fun z => by rw [z, h₀D] at e; cases e)]; exact keep' b o e
    have it2 : h''.IsListIter I l (i + 1) := by
      obtain ⟨oi, e1, r⟩ := hit'
      exact ⟨oi, by rw [hs2.2 I (fun z => hDI z.symm)]; exact e1, r⟩
    exact ih (i + 1) _ _ (by omega) (by omega) keep2 it2 hd2 fun h3 tk k3 d3 t3 => hR h3 tk k3 d3 (Nat.le_trans (Nat.le_succ _) t3)
end
end Mine
namespace Mine
noncomputable def raisesT (o : Value) (name : Str) : PySem.Spec := fun A R s => A.handled = none ∧ ∀ h' tk e, Heap.NewAttrErr s.heap h' e o name → s.toks ≤ tk → R (.error (.ref e)) { s with heap := h', toks := tk }
section
variable {α : Type} {prog : Program} {w : World} {A : Around} {E : Value → Shared → Prop} {s : Shared}
theorem raise_miss {o : Value} {name : Str} {msg : Str} {Q : α → Shared → Prop} (hh : A.handled = none) (hm : msg.length ≤ sizeLine)
    (h : ∀ h' tk e, Heap.NewAttrErr s.heap h' e o name → s.toks ≤ tk → E (.ref e) { s with heap := h', toks := tk }) :
    wpAny (model prog w) A (raiseAttrError o name msg : Sem α) Q E s := by
  unfold raiseAttrError
  refine wpAny_bind (wpAny_mkStr (wpAny_bind ?_) hm)
  unfold newExc newTuple
  refine wpAny_bind (wpAny_newObj_type ?_ (by size_fits))
  refine wpAny_bind (m := firstArgMember _ _) (wpAny_of_eq (a := Value.none) (by simp only [firstArgMember, attrError_no_first]; rfl) ?_)
  rw [ownMembersOf_AttributeError]
  refine wpAny_newObj_type ?_ (by size_fits)
  obtain ⟨hp, g, d, tk, os⟩ := s
  have f1 := sub_AttributeError
  repeat (any_goals (first | assumption | wp_step))
  unfold raiseNew
  refine wpAny_bind (wpAny_handled ?_)
  rw [hh]
  first
    | refine wpAny_throw ?_
    | refine wpAny_bind (wpAny_pure (wpAny_throw ?_))
  dsimp only
  refine h _ _ _ ⟨fun b ob hb => ?_, Heap.get?_none_of_le (by simp), ?_⟩ ?_
  · have hlt : b < hp.objs.size := Heap.lt_size hb
    refine (Heap.get?_update_other _ _ ?_).trans (Heap.get?_push_of_some _ (Heap.get?_push_of_some _ hb))
    simp only [Heap.size_push]
    exact Nat.ne_of_gt (Nat.lt_succ_of_lt hlt)
  · exact ⟨_, _, Heap.get?_update_self _ (Heap.get?_push_size _ rfl) rfl⟩
  · show tk ≤ tk + 1 + 1
    omega
end
theorem meets_miss (a : Addr) (xs : Array Value) (k : Nat) (sl : Array (Option Value)) (u : Tok) :
    Meets (Builtin.«object.__getattribute__» ⟨[.ref a, .str "keys" u], []⟩) (fun A R s => s.heap.get? a = some { cls := .type "list", dict := none, data := .seq xs k, slots := sl } ∧ raisesT (.ref a) "keys" A R s) :=
  Meets.of_wp fun prog w A R s hs => by
    have hmiss : typeLookup (.type "list") ("keys" : Str) = pure none := am_miss_of_fast (by decide +kernel)
    have hname : (["__module__", "__name__", "__qualname__", "__doc__", "__annotations__"] : List Str).contains ("keys" : Str) = false := by decide +kernel
    obtain ⟨hp, g, d, tk, os⟩ := s
    obtain ⟨hx, hs⟩ := hs
    have hT : (⟨hp, g, d, tk, os⟩ : Shared).TypeIs (.ref a) "list" := ⟨_, hx, rfl⟩
    unfold Builtin.«object.__getattribute__»
    repeat (any_goals (first | assumption | wp_step))
    try simp only [hname, Bool.false_eq_true, if_false]
    repeat (any_goals (first | assumption | wp_step))
    exact raise_miss hs.1 (attrMsg_fits (by decide +kernel) (by rw [sizeLine_eq]; decide +kernel)) hs.2
section
variable {prog : Program} {w : World} {A : Around} {E : Value → Shared → Prop} {s : Shared}
theorem miss_call {a : Addr} {xs : Array Value} {k : Nat} {u : Tok} {R : Result → Shared → Prop} (hx : s.heap.get? a = some { cls := .type "list", data := .seq xs k }) (hA : A.handled = none)
    (h : ∀ h' tk e, Heap.NewAttrErr s.heap h' e (.ref a) "keys" → s.toks ≤ tk → R (.error (.ref e)) { s with heap := h', toks := tk }) :
    codeAny (model prog w) A (.call (.builtin "list.__getattribute__") ⟨[.ref a, .str "keys" u], []⟩) R s :=
  codeAny_call_builtin F.slot_list_getattribute.plain am_entry_list_getattribute (F.slot_list_getattribute.check _ _ _ _ _ _ _ _ (show s.TypeIs (.ref a) "list" from ⟨_, hx, rfl⟩) (F.args_list_getattribute_2 _ _) (meets_miss a xs k _ _ prog w A R s ⟨hx, hA, h⟩))
theorem keys_none {a : Addr} {xs : Array Value} {k : Nat} {Q : Option Value → Shared → Prop} (hx : s.heap.get? a = some { cls := .type "list", data := .seq xs k }) (hA : A.handled = none)
    (h : ∀ h' tk, (∀ b o, s.heap.get? b = some o → h'.get? b = some o) → s.toks ≤ tk → Q none { s with heap := h', toks := tk }) :
    wpAny (model prog w) A (getAttr? (.ref a) "keys") Q E s := by
  obtain ⟨hp, g, d, tk, os⟩ := s
  have hT : ∀ tk', (⟨hp, g, d, tk', os⟩ : Shared).TypeIs (.ref a) "list" := fun _ => ⟨_, hx, rfl⟩
  have f1 := sub_AttributeError
  have f3 := F.slot_list_getattribute.lookup
  have f4 := F.slot_list_getattribute.bind (.ref a)
  have f5 := am_list_getattr_none
  unfold getAttr? getAttrBy? getAttrBy
  repeat (any_goals (first | assumption | exact hT _ | wp_step))
  refine miss_call hx hA fun h' tk' e hx' ht' => ?_
  obtain ⟨t', u', he⟩ := hx'.there
  have hT2 : ∀ tk', (⟨h', g, d, tk', os⟩ : Shared).TypeIs (.ref e) "AttributeError" := fun _ => ⟨_, he, rfl⟩
  dsimp only
  unfold getattributeRaised
  repeat (any_goals (first | assumption | exact hT2 _ | wp_step))
  exact h h' tk' hx'.keeps (Nat.le_trans (Nat.le_succ tk) ht')
theorem call_dict_pairs {l : Addr} {vs : Array Value} {n : Nat} {pairs : List (Str × Value)} {Q : Value → Shared → Prop} (hh : A.handled = none) (hl : IsL s.heap l vs n) (hp : Prs s.heap vs.toList pairs) (nd : (pairs.map (·.1)).Nodup) (hsz : pairs.length ≤ 100000)
    (h : ∀ h' d tk, (∀ b o, s.heap.get? b = some o → h'.get? b = some o) → s.heap.get? d = none → h'.DictOf (strKind prog w) d pairs → s.toks ≤ tk → Q (.ref d) { s with heap := h', toks := tk }) :
    wpAny (model prog w) A (call (.type "dict") [.ref l]) Q E s := by
  refine callType_codes (Q₁ := fun obj s₁ => obj = .ref s.heap.objs.size ∧ s₁ = { s with heap := s.heap.push { cls := .type "dict", data := .dict #[] } }) F.kt_called_dict (F.kt_typeCall_dict_1 _) F.entry_dict_init (kt_code_dict_new _ ⟨rfl, rfl⟩) ?_
  rintro obj s₁ ⟨rfl, rfl⟩
  have hnew : (s.heap.push { cls := .type "dict", data := .dict #[] }).DictOf (strKind prog w) s.heap.objs.size [] := Heap.DictOf.new s.heap
  have hl' : IsL (s.heap.push { cls := .type "dict", data := .dict #[] }) l vs n := Heap.get?_push_of_some _ hl
  have hT : ∀ gg d tk os, (⟨s.heap.push { cls := .type "dict", data := .dict #[] }, gg, d, tk, os⟩ : Shared).TypeIs (.ref l) "list" := fun _ _ _ _ => ⟨_, hl', rfl⟩
  refine ⟨hnew.typeIs, F.args_dict_init_2 _ _, ?_⟩
  unfold Builtin.«dict.__init__»
  refine wpAny_bind ?_
  unfold Builtin.Dict.selfAndRest
  refine wpAny_bind (wpAny_notOrdered_dict hnew.typeIs ?_)
  show wpAny _ _ (pure (s.heap.objs.size, [Value.ref l])) _ _ _
  refine wpAny_pure ?_
  show wpAny _ _ (Builtin.Dict.updateFrom "dict.__init__" s.heap.objs.size (.ref l) [] .none) _ _ _
  unfold Builtin.Dict.updateFrom
  refine wpAny_bind (wpAny_typeOf (hT _ _ _ _) ?_)
  rw [if_pos (by decide)]
  refine wpAny_bind (keys_none hl' hh fun h1 t1 k1 l1 => ?_)
  rw [if_pos (show (none : Option Value).isNone = true from rfl)]
  refine wpAny_bind (wpAny_rule ?_)
  refine wpAny_bind (wpAny_pyIter_list (l := l) (items := vs) (by exact ⟨_, k1 _ _ hl', rfl, _, rfl⟩) ?_)
  have k0 : ∀ b o, s.heap.get? b = some o → h1.get? b = some o := fun b o e => k1 _ _ (Heap.get?_push_of_some _ e)
  have hD : s.heap.get? s.heap.objs.size = none := Heap.get?_none_of_le (Nat.le_refl _)
  have sz : s.heap.objs.size < h1.objs.size := Heap.lt_size (k1 _ _ (Heap.get?_push_size _ rfl))
  refine wpAny_pure ⟨Code.quiet_builtin _ (by decide +kernel), ?_⟩
  refine dict_loop (A := A.in1) (h₀ := s.heap) (D := s.heap.objs.size) (I := h1.objs.size) (l := l) (items := vs) (pairs := pairs) hh (Nat.ne_of_lt sz) (Nat.ne_of_lt (Nat.lt_trans (Heap.lt_size hl) sz)) hD (Heap.get?_none_of_le (Nat.le_of_lt sz)) ⟨_, hl, rfl, _, rfl⟩ hp nd hsz _ 0 _ _ rfl (Nat.zero_le _)
    ?_ ?_ ?_ fun h2 t2 k2 d2 l2 => ?_
  · exact fun b o e => Heap.get?_push_of_some _ (k0 b o e)
  · exact ⟨_, Heap.get?_push_size _ rfl, rfl, rfl⟩
  · have e : pairs.take 0 = [] := rfl
    rw [e]
    exact (hnew.keep k1).push _
  · exact ⟨rfl, h h2 _ t2 k2 hD d2 (Nat.le_trans l1 l2)⟩
end
end Mine
section
open Classical
namespace Mine
section
variable {G : Glo} {A : Around} {E : Value → Shared → Prop} {W : Wd} {sh : Sh} {s : Shared} {K : D → Sh → Prop} {Q : Value → Shared → Prop}
inductive TupI (h : Heap) (b : Int) (v : Value) : Prop
  | mk (a : Addr) (vs : Array Value) (n t : Nat) (r : List Value) (e : v = .ref a) (i : IsT h a vs n) (l : vs.toList = .int b t :: r) : TupI h b v
theorem tup_int {h : Heap} {b : Int} {br : List D} {v : Value} (x : V G W h (.tup (.int b :: br)) v) : TupI h b v := by
  obtain ⟨a, vs, n, e, o, i, r⟩ := x.toIsT
  cases hl : vs.toList with
  | nil => rw [hl] at r; exact False.elim r
  | cons u us =>
    rw [hl] at r
    obtain ⟨⟨t, _, rfl⟩, _⟩ := r
    exact ⟨a, vs, n, t, us, e, i, hl⟩
inductive TupS (h : Heap) (b : Int) (y : Str) (v : Value) : Prop
  | mk (a : Addr) (vs : Array Value) (n t u : Nat) (r : List Value) (e : v = .ref a) (i : IsT h a vs n) (l : vs.toList = .int b t :: .str y u :: r) : TupS h b y v
theorem tup_two {h : Heap} {b : Int} {y : Str} {br : List D} {v : Value} (x : V G W h (.tup (.int b :: br)) v) (hy : br.head?.bind strOf = some y) : TupS h b y v := by
  obtain ⟨a, vs, n, e, o, i, r⟩ := x.toIsT
  cases hl : vs.toList with
  | nil => rw [hl] at r; exact False.elim r
  | cons u us =>
    rw [hl] at r
    obtain ⟨⟨t, _, rfl⟩, r2⟩ := r
    cases br with
    | nil => exact nos hy
    | cons z br => cases us with
      | nil => exact False.elim r2
      | cons w ws =>
        obtain rfl := strOf_out hy
        obtain ⟨⟨u, _, rfl⟩, _⟩ := r2
        exact ⟨a, vs, n, t, u, ws, e, i, hl⟩
inductive LtAt (G : Glo) (A : Around) (sh : Sh) (s : Shared) (vb vv : Value) (K : Bool → Sh → Prop) : Prop
  | mk (c : Bool) (k : K c sh) (h : ∀ (h' : Heap) (Q : Value → Shared → Prop) (E : Value → Shared → Prop), (∀ b o, s.heap.get? b = some o → h'.get? b = some o) → Q (.bool c) { s with heap := h' } → wpAny (model G.prog G.w) A (richCompare .Lt vv vb) Q E { s with heap := h' }) : LtAt G A sh s vb vv K
theorem ltK_ok {b v : Int} {br vr : List D} {vb vv : Value} {K : Bool → Sh → Prop} (hm : ltK b br v vr sh K) (hb : V G W s.heap (.tup (.int b :: br)) vb) (hv : V G W s.heap (.tup (.int v :: vr)) vv) (hu : A.units < cLine) : LtAt G A sh s vb vv K := by
  replace hm := dec_out hm
  cases e : decide (v = b) with
  | false =>
    rw [e] at hm
    obtain ⟨aa, xs, na, ta, ra, rfl, hx, exs⟩ := tup_int hv
    obtain ⟨ab, ys, nb, tb, rb, rfl, hy, eys⟩ := tup_int hb
    exact ⟨_, dec_out hm, fun h' Q E kk h => tup_lt (s := { s with heap := h' }) (kk _ _ hx) (kk _ _ hy) exs eys (of_decide_eq_false e) hu h⟩
  | true =>
    rw [e] at hm
    obtain rfl := of_decide_eq_true e
    obtain ⟨y, ey, hm⟩ := someE hm
    obtain ⟨x, ex, hm⟩ := someE hm
    obtain ⟨ne, hm⟩ := need_out hm
    obtain ⟨aa, xs, na, ta, ua, ra, rfl, hx, exs⟩ := tup_two hv ex
    obtain ⟨ab, ys, nb, tb, ub, rb, rfl, hy, eys⟩ := tup_two hb ey
    exact ⟨_, dec_out hm, fun h' Q E kk h => tup_lt2 (s := { s with heap := h' }) (kk _ _ hx) (kk _ _ hy) exs eys ne hu h⟩
theorem min_loop {R : Result → Shared → Prop} {I Sa ax : Addr} {items : Array Value} {ds : List D} (hu : A.units + 70 < cLine) (hh : A.handled = none) (hL : s.heap.IsList ax items) (hds : VL G W s.heap ds items.toList) (nIS : I ≠ Sa) (nI : ∀ o, s.heap.get? I ≠ some o) (nS : ∀ o, s.heap.get? Sa ≠ some o)
    (hR : ∀ d h' v, K d sh → (∀ b o, s.heap.get? b = some o → h'.get? b = some o) → V G W s.heap d v → R (.ok (.ret v)) { s with heap := h' }) :
    ∀ (rest : List D) (i : Nat) (b : Int) (br : List D) (h : Heap) (vb : Value) (c : Nat), minK b br rest sh K → ds.drop i = rest → V G W s.heap (.tup (.int b :: br)) vb →
      (∀ b o, s.heap.get? b = some o → h.get? b = some o) → h.IsListIter I ax i → h.get? Sa = some { cls := .type "list", dict := none, data := .seq #[vb, vb] c, slots := #[] } →
      codeAny (model G.prog G.w) A (.builtin "min.loop" ⟨[.ref I, .none, .ref Sa], []⟩) R { s with heap := h } := by
  intro rest
  induction rest with
  | nil =>
    intro i b br h vb c hm hd hb kk it hS
    refine codeAny_builtin F.entry_min_loop ?_
    rw [Around.under_plainId F.plain_min_loop _]
    show wpAny _ A.in1 (seqItems? (.ref Sa) >>= _) _ _ _
    refine wpAny_bind (wpAny_seqItems hS rfl ?_)
    show wpAny _ A.in1 (tryCatch (pyNext (.ref I)) _ >>= _) _ _ _
    have hnone : items[i]? = none := Array.getElem?_eq_none (hds.size ▸ List.drop_eq_nil_iff.mp hd)
    refine wpAny_bind (wpAny_tryCatch (wpAny_pyNext_list_end hh it (hL.at fun o e => kk _ o e) hnone fun h' he => ?_))
    have hS' := he Sa _ (Ne.symm nIS) hS
    show wpAny _ A.in1 (updateSeq Sa (fun _ => #[]) >>= _) _ _ _
    refine wpAny_bind ?_
    exact wpAny_updateSeq hS' rfl (wpAny_bind (wpAny_letGo (wpAny_pure (hR _ _ vb hm (fun b o e => (Heap.get?_update_other _ _ (fun z : Sa = b => nS o (z ▸ e))).trans (he b o (fun z => nI o (z ▸ e)) (kk b o e))) hb))))
  | cons d rest ih =>
    intro i b br h vb c hm hd hb kk it hS
    have hname : (toString "min" ++ toString ".loop" : String) = "min.loop" := by decide
    obtain ⟨⟨v, vr⟩, ed, hm⟩ := someE hm
    obtain rfl := headI_out ed
    refine codeAny_builtin F.entry_min_loop ?_
    rw [Around.under_plainId F.plain_min_loop _]
    show wpAny _ A.in1 (seqItems? (.ref Sa) >>= _) _ _ _
    refine wpAny_bind (wpAny_seqItems hS rfl ?_)
    show wpAny _ A.in1 (tryCatch (pyNext (.ref I)) _ >>= _) _ _ _
    have hdi : ds[i]? = some (.tup (.int v :: vr)) := List.head?_drop.symm.trans (congrArg List.head? hd)
    obtain ⟨u, hui, hv⟩ := hds.get hdi
    rw [Array.getElem?_toList] at hui
    refine wpAny_bind (wpAny_tryCatch (wpAny_pyNext_list_item it (hL.at fun o e => kk _ o e) hui fun h' it' sb => ?_))
    have hS' : h'.get? Sa = _ := (sb.2 Sa (Ne.symm nIS)).trans hS
    have kk' : ∀ b o, s.heap.get? b = some o → h'.get? b = some o := fun b o e => (sb.2 b (fun z => nI o (z ▸ e))).trans (kk b o e)
    obtain ⟨cc, hm, hlt⟩ := ltK_ok (A := A.in1) hm hb hv (by show A.units + 1 < cLine; lia)
    obtain ⟨aa, xs, na, ta, ra, rfl, hx, exs⟩ := tup_int hv
    obtain ⟨ab, ys, nb, tb, rb, rfl, hy, eys⟩ := tup_int hb
    show wpAny _ A.in1 (tryCatch (holding [Value.ref aa, Value.ref aa] (richCompare .Lt (.ref aa) (.ref ab) >>= _)) _ >>= _) _ _ _
    refine wpAny_bind (wpAny_tryCatch (wpAny_holding (wpAny_bind (hlt h' _ _ kk' ?_))))
    refine wpAny_bind (wpAny_holding (wpAny_truthy_bool ?_))
    refine wpAny_bind (wpAny_letGo (wpAny_pure ?_))
    have hd' : ds.drop (i + 1) = rest := List.drop_drop.symm.trans (congrArg (List.drop 1) hd)
    cases cc with
    | true =>
      rw [if_pos rfl]
      refine wpAny_bind ?_
      refine wpAny_updateSeq hS' rfl (wpAny_bind (wpAny_letGo ?_))
      rw [hname]
      obtain ⟨o, ho, r⟩ := it'
      exact wpAny_pure ⟨plainId_quiet F.plain_min_loop _, ih (i + 1) _ _ _ (.ref aa) _ hm hd' hv (fun b o e => (Heap.get?_update_other _ _ (fun z : Sa = b => nS o (z ▸ e))).trans (kk' b o e)) ⟨o, (Heap.get?_update_other _ _ (Ne.symm nIS)).trans ho, r⟩ (Heap.get?_update_self _ hS' rfl)⟩
    | false =>
      rw [if_neg Bool.false_ne_true]
      refine wpAny_bind (wpAny_letGo ?_)
      rw [hname]
      exact wpAny_pure ⟨plainId_quiet F.plain_min_loop _, ih (i + 1) _ _ _ (.ref ab) _ hm hd' hb kk' it' hS'⟩
theorem min_ok {xs : List D} {b : Int} {br : List D} {fv : Value} {d : D} (e : lstT sh.tr d = some (.tup (.int b :: br) :: xs)) (h : minK b br xs sh K) (at_ : At G W sh s) (hu : A.units + 70 < cLine) (hh : A.handled = none)
    (hv : V G W s.heap d fv) (q : Aft G W s K Q) : wpAny (model G.prog G.w) A (call (.builtin "min") [fv]) Q E s := by
  obtain ⟨ax, vs, n, rfl, hL, hvl⟩ := lstT_of at_.rep hv e
  have hname : (toString "min" ++ toString ".loop" : String) = "min.loop" := by decide
  have hLL : s.heap.IsList ax vs := ⟨_, hL, rfl, _, rfl⟩
  refine call_function_tree F.kind_min F.plain_min F.entry_min (F.args_min1 _) ?_
  show wpAny _ A.in1 (Builtin.Builtins.bindParams "min" ["key", "default"] 0 ⟨[], []⟩ >>= _) _ _ s
  refine wpAny_bind (wpAny_of_eq (show Builtin.Builtins.bindParams "min" ["key", "default"] 0 ⟨[], []⟩ = pure [none, none] from rfl) ?_)
  refine wpAny_bind (wpAny_pure ?_)
  refine wpAny_bind (wpAny_pyIter_list hLL ?_)
  refine wpAny_bind (wpAny_newObj_type ?_)
  rw [hname]
  obtain ⟨v0, h0, hv0⟩ := hvl.get (i := 0) rfl
  rw [Array.getElem?_toList] at h0
  have nI : ∀ o, s.heap.get? s.heap.objs.size ≠ some o := fun o e => Nat.lt_irrefl _ (Heap.lt_size e)
  have nS : ∀ o, s.heap.get? (s.heap.objs.size + 1) ≠ some o := fun o e => absurd (Heap.lt_size e) (Nat.not_lt.mpr (Nat.le_succ _))
  have eS : (s.heap.push { cls := .type "list_iterator", data := .fields #[.ref ax, .int 0 0] }).objs.size = s.heap.objs.size + 1 := Heap.size_push ..
  have nIS : s.heap.objs.size ≠ s.heap.objs.size + 1 := Nat.ne_of_lt (Nat.lt_succ_self _)
  generalize hH : (s.heap.push { cls := .type "list_iterator", data := .fields #[.ref ax, .int 0 0] }).push { cls := .type "list", dict := none, data := .seq ([] : List Value).toArray } = H
  have itH : H.IsListIter s.heap.objs.size ax 0 := ⟨_, by rw [← hH]; exact Heap.get?_push_of_some _ (Heap.get?_push_size _ rfl), rfl, rfl⟩
  have sH : H.get? (s.heap.objs.size + 1) = some { cls := .type "list", dict := none, data := .seq #[] 0, slots := #[] } := by rw [← hH, ← eS]; exact Heap.get?_push_size _ rfl
  have kH : ∀ b o, s.heap.get? b = some o → H.get? b = some o := fun b o e => by rw [← hH]; exact Heap.get?_push_of_some _ (Heap.get?_push_of_some _ e)
  have eS' : ({ s with heap := s.heap.push { cls := .type "list_iterator", data := .fields #[.ref ax, .int 0 0] } } : Shared).heap.objs.size = s.heap.objs.size + 1 := eS
  rw [eS']
  refine wpAny_pure ⟨plainId_quiet F.plain_min_loop _, ?_⟩
  refine codeAny_builtin F.entry_min_loop ?_
  rw [Around.under_plainId F.plain_min_loop _]
  show wpAny _ A.in1 (seqItems? (.ref (s.heap.objs.size + 1)) >>= _) _ _ _
  have sH' : ({ s with heap := H } : Shared).heap.get? (s.heap.objs.size + 1) = some { cls := .type "list", dict := none, data := .seq #[] 0, slots := #[] } := sH
  refine wpAny_bind (wpAny_seqItems (s := { s with heap := H }) sH' rfl ?_)
  show wpAny _ A.in1 (tryCatch (pyNext (.ref s.heap.objs.size)) _ >>= _) _ _ _
  refine wpAny_bind (wpAny_tryCatch (wpAny_pyNext_list_item (s := { s with heap := H }) itH (hLL.at fun o e => kH _ o e) h0 fun h' it' sb => ?_))
  have hS' : h'.get? (s.heap.objs.size + 1) = _ := (sb.2 _ (Ne.symm nIS)).trans sH
  show wpAny _ A.in1 (updateSeq (s.heap.objs.size + 1) (fun _ => #[v0, v0]) >>= _) _ _ _
  refine wpAny_bind ?_
  refine wpAny_updateSeq (s := { s with heap := h' }) hS' rfl ?_
  rw [hname]
  refine wpAny_pure ⟨plainId_quiet F.plain_min_loop _, ?_⟩
  obtain ⟨o, ho, r⟩ := it'
  exact min_loop (s := s) (W := W) (K := K) (ds := .tup (.int b :: br) :: xs) hu hh hLL hvl nIS nI nS (fun d h'' v kd kk hv => q d sh W h'' v s.toks kd (Le.grow kk) (Kp.grow kk) (at_.rep.grow kk) at_.n (V.mono (Le.grow kk) hv) (Nat.le_refl _)) xs 1 _ _ _ v0 _ h rfl hv0
    (fun b o e => (Heap.get?_update_other _ _ (fun z : s.heap.objs.size + 1 = b => nS o (z ▸ e))).trans ((sb.2 b (fun z => nI o (z ▸ e))).trans (kH b o e))) ⟨o, (Heap.get?_update_other _ _ (Ne.symm nIS)).trans ho, r⟩ (Heap.get?_update_self _ hS' rfl)
inductive PrsE (G : Glo) (W : Wd) (h : Heap) (vals : List Value) (ks : List Str) (vs : List D) : Prop
  | mk (pairs : List (Str × Value)) (p : Prs h vals pairs) (e : pairs.map (·.1) = ks) (r : VL G W h vs (pairs.map (·.2))) : PrsE G W h vals ks vs
theorem pairOf_out {d : D} {k : Str} {x : D} (h : pairOf d = some (k, x)) : d = .tup [.str k, x] := by
  cases d with
  | tup xs => cases xs with
    | nil => exact nos h
    | cons a xs => cases xs with
      | nil => cases a <;> exact nos h
      | cons b xs => cases xs with
        | nil => cases a with
          | str y => cases h; rfl
          | _ => exact nos h
        | cons _ _ => cases a <;> exact nos h
  | _ => exact nos h
theorem prs_of {h : Heap} {ds : List D} : ∀ {vals : List Value} {ks : List Str} {vs : List D}, VL G W h ds vals → pairsOf ds = some (ks, vs) → PrsE G W h vals ks vs := by
  induction ds with
  | nil => intro vals ks vs x e; cases vals with
    | cons _ _ => exact False.elim x
    | nil => cases e; exact ⟨[], ⟨rfl, fun i p e => nos e⟩, rfl, trivial⟩
  | cons d ds ih => intro vals ks vs x e; cases vals with
    | nil => exact False.elim x
    | cons v vals =>
      obtain ⟨⟨k, d'⟩, ⟨ks', vs'⟩, e1, e', ee⟩ := bind_map e
      cases ee
      obtain rfl := pairOf_out e1
      obtain ⟨pairs, ⟨p1, p2⟩, p3, p4⟩ := ih x.2 e'
      obtain ⟨a, tv, n, rfl, ow, ht, rr⟩ := x.1.toIsT
      obtain ⟨v1, v2, q1, ⟨t, _, rfl⟩, q3⟩ := rr.two
      refine ⟨(k, v2) :: pairs, ⟨congrArg (· + 1) p1, fun i p ep => ?_⟩, congrArg (k :: ·) p3, q3, p4⟩
      cases i with
      | zero =>
        cases ep
        obtain rfl : tv = #[.str k t, v2] := Array.toList_inj.mp q1
        exact ⟨a, _, t, n, rfl, ht, rfl, rfl⟩
      | succ i => exact p2 i p ep
theorem items_vl2 {h : Heap} (ks : List (Str × Value)) : ∀ (vs : List Value), vs.length = ks.length → (∀ (j : Nat) v, vs[j]? = some v → ∃ k x, ks[j]? = some (k, x) ∧ (sK G).is k v = true) → VL G W h ((ks.map (·.1)).map .str) vs := by
  induction ks with
  | nil => intro vs hl _; cases vs with
    | nil => trivial
    | cons _ _ => cases hl
  | cons p r ih => intro vs hl ha; cases vs with
    | nil => cases hl
    | cons v vs =>
      refine ⟨?_, ih vs (Nat.succ.inj hl) fun j w e => ha (j + 1) w e⟩
      obtain ⟨k, x, e1, e2⟩ := ha 0 v rfl
      cases e1
      obtain ⟨t, rfl⟩ := Value.isStrOf_shape e2
      exact V.str trivial
inductive KdlE (G : Glo) (s : Shared) (kvs : List (Str × Value)) (v : Value) (s' : Shared) : Prop
  | mk (h' : Heap) (tk : Nat) (acc : Array Value) (c' : Nat) (ev : v = .ref s.heap.objs.size) (es : s' = { s with heap := h', toks := tk }) (kk : ∀ b o, s.heap.get? b = some o → h'.get? b = some o) (hl : h'.get? s.heap.objs.size = some { cls := .type "list", dict := none, data := .seq acc c', slots := #[] })
    (hi : ItemsOf (fun i v => ∃ k x, kvs[i]? = some (k, x) ∧ (sK G).is k v = true) acc kvs.length) : KdlE G s kvs v s'
theorem dcP_out {o : Option (List Str × List D)} {K : List Str × List D → Prop} (h : dcP sh o K) : DcT o K := by
  obtain ⟨tr, n, sym, os⟩ := sh
  cases sym with
  | true => exact h
  | false => obtain ⟨kv, e, k⟩ := someE h; exact ⟨kv, e, k⟩
theorem list_sd {kv : List Str × List D} {v : Value} (c : kv.1.length ≤ 100000) (h : K (.lst (kv.1.map .str)) sh) (at_ : At G W sh s) (hv : V G W s.heap (.sd kv.1 kv.2) v) (hh : A.handled = none) (q : Aft G W s K Q) : wpAny (model G.prog G.w) A (call (.type "list") [v]) Q E s := by
  obtain ⟨ks, ds⟩ := kv
  obtain ⟨a, kvs, rfl, ow, sm, hd, rfl, rr⟩ := hv
  obtain ⟨o, es, ep, ho, h1, h2, h3, h4, h5⟩ := id hd
  have hA : s.heap.DictAt (sK G) a kvs ep := ⟨o, es, ho, h1, h2, h3, h4, h5⟩
  have hlen : kvs.length ≤ 100000 := Nat.le_trans (Nat.le_of_eq (List.length_map ..).symm) c
  refine wpAny_mono (wpAny_toks (kdl_call (Q := KdlE G s kvs) (kdl_dict sm) hh hA (by rw [sizeLine_eq]; lia) fun h' tk acc c' kk hl hi => ⟨h', tk, acc, c', rfl, rfl, kk, hl, hi⟩)) (fun v s' y => ?_) fun _ _ y => y.2
  obtain ⟨tl, h', tk, acc, c', rfl, rfl, kk, hl, hsz, hat⟩ := y
  exact q.grown at_ h kk ⟨_, acc, c', rfl, at_.rep.fresh, hl, items_vl2 kvs acc.toList (Array.length_toList.trans hsz) fun j v e => hat j v (Array.getElem?_toList.symm.trans e)⟩ tl
theorem dict_prs {ds : List D} {v : Value} (h : dcP sh (pairsOf ds) fun kv => need (nodupS kv.1 = true ∧ kv.1.length ≤ 1000) sh (K (.sd kv.1 kv.2) sh)) (at_ : At G W sh s) (hv : V G W s.heap (.lst ds) v) (hh : A.handled = none) (q : Aft G W s K Q) : wpAny (model G.prog G.w) A (call (.type "dict") [v]) Q E s := by
  obtain ⟨⟨ks, vs'⟩, e, h⟩ := dcP_out h
  obtain ⟨⟨c1, c2⟩, h⟩ := need_out h
  obtain ⟨a, vs, n, rfl, ow, hl, rr⟩ := hv
  obtain ⟨pairs, p1, rfl, p3⟩ := prs_of rr e
  refine call_dict_pairs hh hl p1 (nodup_of c1) (Nat.le_trans (Nat.le_of_eq (List.length_map (as := pairs) (·.1)).symm) (Nat.le_trans c2 (by decide))) fun h' d tk kk hd hD tl => ?_
  have ow' : W.own d = none := Option.eq_none_iff_forall_ne_some.mpr fun w z => let ⟨o, ho⟩ := at_.rep.ownd d w z; nos (hd.symm.trans ho)
  have sm' : (d == sysModules) = false := beq_false_of_ne fun z => by
    obtain ⟨o, ho⟩ := G.sm
    exact nos (hd.symm.trans (z ▸ (at_.rep.base _ _ ho).2))
  exact q.grown at_ h kk ⟨_, pairs, rfl, ow', sm', hD, rfl, VL.mono (Le.grow kk) p3⟩ tl
theorem one_v {args : List D} {vs : List Value} {h : Heap} {α : Type} {f : D → Option α} {x : α} (e : (one args).bind f = some x) (hvs : VL G W h args vs) : ∃ d v, vs = [v] ∧ V G W h d v ∧ f d = some x := by
  obtain ⟨d, e1, e2⟩ := Option.bind_eq_some_iff.mp e
  obtain rfl := one_out e1
  obtain ⟨v, rfl, hv⟩ := hvs.one
  exact ⟨d, v, rfl, hv, e2⟩
theorem callX_ok {f : D} {args : List D} {fv : Value} {vs : List Value} (h : callX f args sh K) (at_ : At G W sh s) (hf : V G W s.heap f fv) (hvs : VL G W s.heap args vs) (hu : A.units + 70 < cLine) (hh : A.handled = none) (q : Aft G W s K Q) :
    wpAny (model G.prog G.w) A (call fv vs) Q E s := by
  cases f with
  | bi x => cases ifE h with
    | t e h =>
      subst e
      cases hf
      obtain ⟨a, e1, h⟩ := someE h
      obtain ⟨ds, e, h⟩ := someE h
      obtain rfl := one_out e1
      obtain ⟨v, rfl, hv⟩ := hvs.one
      cases ds with
      | nil => exact False.elim h
      | cons d ds =>
        obtain ⟨⟨b, br⟩, e2, h⟩ := someE h
        obtain rfl := headI_out e2
        exact min_ok e h at_ hu hh hv q
    | f h => exact callB_ok h at_ hf hvs hu q
  | ty x => cases ifE h with
    | t e h =>
      subst e
      cases hf
      obtain ⟨kv, e, h⟩ := someE h
      obtain ⟨c, h⟩ := need_out h
      obtain ⟨d, v, rfl, hv, e2⟩ := one_v e hvs
      obtain rfl := sdOf_out e2
      exact list_sd c h at_ hv hh q
    | f h => cases ifE h with
      | t e h =>
        subst e
        cases lkE h with
        | s ds e h =>
          cases hf
          obtain ⟨d, v, rfl, hv, e2⟩ := one_v e hvs
          obtain rfl := lstOf_out e2
          exact dict_prs h at_ hv hh q
        | n _ h => exact callB_ok h at_ hf hvs hu q
      | f h => exact callB_ok h at_ hf hvs hu q
  | _ => exact False.elim h
end
end Mine
end
section
open Classical
namespace Mine
theorem funFrames {W : Wd} {base h : Heap} (hb : ∀ L, base.get? L = none) {l : List Env} : FrOk W h l → h.FunFrames base l := by
  induction l with
  | nil => exact fun _ => trivial
  | cons e l ih =>
    intro f
    obtain ⟨a, L, b, c, o, es, ep, d, q⟩ := f e List.mem_cons_self
    exact ⟨by rw [a]; decide, ⟨L, o, b, hb L, d, fun vs z => nomatch q.symm.trans z⟩, ih fun x hx => f x (List.mem_cons_of_mem _ hx)⟩
noncomputable def nil0 : Heap := { }
theorem nil0_none (L : Addr) : nil0.get? L = none := by
  cases z : nil0.get? L with
  | none => rfl
  | some o => exact absurd (Heap.lt_size z) (Nat.not_lt_zero _)
noncomputable def Wd.own1 (W : Wd) (a : Addr) (k : Nat) : Wd := ⟨fun b => if b = a then some (.t k) else W.own b, W.ρ, W.n⟩
structure Stn (W : Wd) (k : Nat) (W' : Wd) (h h' : Heap) : Prop where
  own : ∀ a o, h.get? a = some o → W'.own a = W.own a
  ownd : ∀ a w, W'.own a = some w → ∃ o, h'.get? a = some o
  keep : ∀ a o, h.get? a = some o → W.own a ≠ some (.t k) → Sa h' a o ∧ (W.own a ≠ some .f → h'.get? a = some o)
  n : W'.n = W.n
  ρ : W'.ρ = W.ρ
theorem Stn.out {G : Glo} {W W' : Wd} {k : Nat} {h h' : Heap} {tr : List (Nat × T)} (x : Stn W k W' h h') (R : Rep G W tr h) (hk : W.n ≤ k) : Rep G W' tr h' ∧ Le W h W' h' ∧ Kp W h h' := by
  have ne : ∀ {a w w'}, W.own a = w → w ≠ some w' → W.own a ≠ some w' := fun p n e => n (p.symm.trans e)
  have kp : ∀ a o w, W.own a = w → w ≠ some (.t k) → w ≠ some .f → h.get? a = some o → h'.get? a = some o := fun a o w p n1 n2 e => (x.keep a o e (ne p n1)).2 (ne p n2)
  have l : Le W h W' h' := ⟨fun a o p e => ⟨(x.own a o e).trans p, kp a o _ p nofun nofun e⟩, fun a p => let ⟨o, e⟩ := R.ownd a _ p; (x.own a o e).trans p, Nat.le_of_eq x.n.symm, fun k _ => congrFun x.ρ k,
    fun a o p e => ⟨(x.own a o e).trans p, kp a o _ p nofun nofun e⟩⟩
  refine ⟨R.chg l.v x.ownd fun j u q => .inl ⟨q, fun a z => ?_⟩, l, fun a o p e => (x.keep a o e (ne p nofun)).1⟩
  have ne : j ≠ k := Nat.ne_of_lt (Nat.lt_of_lt_of_le (R.trk j u q).1 hk)
  cases z with
  | inl z =>
    obtain ⟨o, e⟩ := R.ownd a _ z
    exact ⟨x.own a o e, fun o => kp a o _ z (fun e => ne (Own.t.inj (Option.some.inj e))) nofun⟩
  | inr z =>
    obtain ⟨o, e⟩ := R.ownd a _ z
    exact ⟨x.own a o e, fun o => kp a o _ z nofun nofun⟩
section
variable {G : Glo} {M : Model} {A : Around} {E : Value → Shared → Prop} {s : Shared} {W : Wd} {k : Nat} {e c d t L : Addr} {env : Env} {outer : List Env} {tr : List (Nat × T)}
theorem entry_ok {oe : Obj} {vs : Array Value} {head : Value} {hadNext : Bool} {Q : Unit → Shared → Prop} (R : Rep G W tr s.heap) (hfr : A.frames = some (env :: outer)) (fr : FrOk W s.heap (env :: outer)) (hf : env.frame = some L)
    (oe' : W.own e = some (.t k)) (he : s.heap.get? e = some oe) (hcls : oe.cls = .ref c) (hdict : oe.dict = some d) (hd : oe.data = .fields vs) (hsz : vs.size = 6) (h0 : vs[0]? = some (.ref t))
    (h : ∀ W' h', Stn W k W' s.heap h' → EF W' k (rawInt L) h' e c d t → Q () { s with heap := h' }) :
    wpAny M A (do let a ← frameOf env; let pl ← entryPlaceOf L hadNext; let b ← EntryCells.newEntry head a .none (rawInt L) .none pl; setField (.ref e) 1 b) Q E s := by
  have hene : e ∉ (env :: outer).filterMap (·.frame) := fun hm => by
    obtain ⟨e', he', hfe⟩ := List.mem_filterMap.mp hm
    obtain ⟨_, L', b, cc, _⟩ := fr e' he'
    rw [b] at hfe; cases hfe
    rw [oe'] at cc; cases cc
  have hLf : ∀ b, b ∈ (env :: outer).filterMap (·.frame) → W.own b = some .f := fun b hm => by
    obtain ⟨e', he', hfe⟩ := List.mem_filterMap.mp hm
    obtain ⟨_, L', b', cc, _⟩ := fr e' he'
    rw [b'] at hfe; cases hfe
    exact cc
  have hLd : ∀ b o, b ∈ (env :: outer).filterMap (·.frame) → s.heap.get? b = some o → ∃ es ep, o.data = .dict es ep := fun b o hm ho => by
    obtain ⟨e', he', hfe⟩ := List.mem_filterMap.mp hm
    obtain ⟨_, L', b', cc, o', es, ep, ho', hd'⟩ := fr e' he'
    rw [b'] at hfe; cases hfe
    rw [ho] at ho'; cases ho'
    exact ⟨es, ep, hd'⟩
  refine wpAny_bind (wpAny_frameOf_fun hfr (funFrames nil0_none fr) hf fun h₁ hs₁ => ?_)
  refine wpAny_bind (wpAny_entryPlaceOf fun pl hpl => ?_)
  unfold EntryCells.newEntry newFields
  refine wpAny_bind (wpAny_newObj_type ?_ (hpl.sizeOk5 _ _ _ _ _))
  have he₁ : h₁.get? e = some oe := (hs₁.2.1 e hene).trans he
  have he₂ := Heap.get?_push_of_some (h := h₁) { cls := .type "traceback", dict := none, data := .fields ([head, .ref L, .none, rawInt L, .none] ++ (if pl.isEmpty then List.replicate 6 Value.none else pl)).toArray } he₁
  refine wpAny_setField he₂ hd (by omega) ?_
  have hTe : h₁.objs.size ≠ e := Nat.ne_of_gt (Heap.lt_size he₁)
  have hd₃ := Obj.data_mapFields hd (·.setIfInBounds 1 (Value.ref h₁.objs.size))
  have he₃ := Heap.get?_update_self (Obj.mapFields (·.setIfInBounds 1 (Value.ref h₁.objs.size))) he₂ (Obj.isFreed_of_fields hd₃)
  have hT₃ := (Heap.get?_update_other (h₁.push { cls := .type "traceback", dict := none, data := .fields ([head, .ref L, .none, rawInt L, .none] ++ (if pl.isEmpty then List.replicate 6 Value.none else pl)).toArray })
    (Obj.mapFields (·.setIfInBounds 1 (Value.ref h₁.objs.size))) (Ne.symm hTe)).trans (Heap.get?_push_size h₁ rfl)
  have hTn : ∀ o, s.heap.get? h₁.objs.size ≠ some o := fun o z => by
    have := Heap.lt_size z
    rw [hs₁.1] at this
    exact Nat.lt_irrefl _ this
  have keep : ∀ b o, b ≠ e → h₁.get? b = some o →
      ((h₁.push { cls := .type "traceback", dict := none, data := .fields ([head, .ref L, .none, rawInt L, .none] ++ (if pl.isEmpty then List.replicate 6 Value.none else pl)).toArray }).update e (Obj.mapFields (·.setIfInBounds 1 (Value.ref h₁.objs.size)))).get? b = some o := fun b o hbe hb => by
    rw [Heap.get?_update_other _ _ (Ne.symm hbe)]
    exact Heap.get?_push_of_some _ hb
  generalize hT : h₁.objs.size = T at hTe hd₃ he₃ hT₃ hTn keep
  have key : ∀ H, H = (h₁.push { cls := .type "traceback", dict := none, data := .fields ([head, .ref L, .none, rawInt L, .none] ++ (if pl.isEmpty then List.replicate 6 Value.none else pl)).toArray }).update e (Obj.mapFields (·.setIfInBounds 1 (Value.ref T))) → Q () { s with heap := H } := ?_
  · exact key _ rfl
  intro H hH
  rw [← hH] at he₃ hT₃ keep
  refine h (W.own1 T k) H ⟨fun a o z => if_neg fun q : a = T => hTn o (by rw [← q]; exact z), fun a w z => ?_, fun a o z n1 => ?_, rfl, rfl⟩ ⟨_, _, he₃, by rw [Obj.cls_mapFields]; exact hcls, ?_, hd₃, by rw [Array.size_setIfInBounds]; exact hsz, by rw [Array.getElem?_setIfInBounds_ne (by decide)]; exact h0, .inr ⟨T, _, _, ?_, hTe, if_pos rfl, hT₃, rfl, ?_, ?_⟩⟩
  · have z : (if a = T then some (Own.t k) else W.own a) = some w := z
    by_cases q : a = T
    · exact ⟨_, by rw [q]; exact hT₃⟩
    · rw [if_neg q] at z
      by_cases qe : a = e
      · exact ⟨_, by rw [qe]; exact he₃⟩
      · obtain ⟨o, ho⟩ := R.ownd a w z
        obtain ⟨sl, hsl⟩ := hs₁.2.2 a o ho
        exact ⟨_, keep a _ qe hsl⟩
  · have ae : a ≠ e := fun q => n1 (q ▸ oe')
    by_cases hm : a ∈ (env :: outer).filterMap (·.frame)
    · obtain ⟨sl, hsl⟩ := hs₁.2.2 a o z
      exact ⟨⟨_, keep a _ ae hsl, .inr ⟨hLd a o hm z, sl, rfl⟩⟩, fun n2 => absurd (hLf a hm) n2⟩
    · have := keep a o ae ((hs₁.2.1 a hm).trans z)
      exact ⟨.of this, fun _ => this⟩
  · obtain ⟨oc, od, odt, osl⟩ := oe
    dsimp only at hd
    subst hd
    exact hdict
  · simp [hsz]
  · simp only [List.size_toArray, List.length_append, List.length_cons, List.length_nil] <;> omega
  · first | (simp; done) | (rcases hpl with rfl | ⟨_, _, _, _, _, _, _, rfl⟩ <;> simp)
theorem note_ok {Q : Unit → Shared → Prop} (R : Rep G W tr s.heap) (hk : W.n ≤ k) (hfr : A.frames = some (env :: outer)) (fr : FrOk W s.heap (env :: outer)) (hf : env.frame = some L)
    (oe' : W.own e = some (.t k)) (x : EF W k .none s.heap e c d t) (h : ∀ W' h', Rep G W' tr h' → Le W s.heap W' h' → Kp W s.heap h' → W'.n = W.n → W'.own e = some (.t k) → EF W' k (rawInt L) h' e c d t → Q () { s with heap := h' }) :
    wpAny M A (noteFrame (.ref e) env) Q E s := by
  obtain ⟨oe, vs, he, hcls, hdict, hd, hsz, h0, h1⟩ := x.ex
  unfold noteFrame
  simp only [hf]
  rcases h1 with h1 | ⟨T, oT, ts, h1, hTe, ow, hT, hdT, h3s, h3⟩
  · refine wpAny_bind (wpAny_field he hd h1 ?_)
    rw [if_neg (by decide)]
    refine entry_ok R hfr fr hf oe' he hcls hdict hd hsz h0 fun W' h' S X => ?_
    obtain ⟨a, b, cc⟩ := S.out R hk
    exact h W' h' a b cc S.n ((S.own _ _ he).trans oe') X
  · refine wpAny_bind (wpAny_field he hd h1 ?_)
    rw [if_pos (show (Value.ref T != Value.none) = true from by simp)]
    refine wpAny_bind (wpAny_field hT hdT h3 ?_)
    rw [if_neg (show ¬ ((Value.none == rawInt L) = true) from by simp [rawInt])]
    refine wpAny_bind (wpAny_setField hT hdT h3s ?_)
    have other : ∀ b, b ≠ T → (s.heap.update T (Obj.mapFields (·.setIfInBounds 3 Value.none))).get? b = s.heap.get? b := fun b hb => Heap.get?_update_other _ _ (Ne.symm hb)
    have S1 : Stn W k W s.heap (s.heap.update T (Obj.mapFields (·.setIfInBounds 3 Value.none))) := ⟨fun _ _ _ => rfl, fun a w z => by
      by_cases q : a = T
      · exact ⟨_, by rw [q]; exact Heap.get?_update_self _ hT (Obj.isFreed_of_fields (Obj.data_mapFields hdT _))⟩
      · obtain ⟨o, ho⟩ := R.ownd a w z
        exact ⟨o, (other a q).trans ho⟩, fun a o z n => by
      have q : a ≠ T := fun q => n (q ▸ ow)
      have := (other a q).trans z
      exact ⟨.of this, fun _ => this⟩, rfl, rfl⟩
    obtain ⟨R1, l1, p1⟩ := S1.out R hk
    refine entry_ok (s := { s with heap := s.heap.update T (Obj.mapFields (·.setIfInBounds 3 Value.none)) }) R1 hfr (fr.mono l1 p1) hf oe' ((other e (Ne.symm hTe)).trans he) hcls hdict hd hsz h0 fun W' h' S X => ?_
    obtain ⟨a, b, cc⟩ := S.out R1 hk
    exact h W' h' a (l1.trans b) (Kp.trans l1 p1 cc) S.n ((S.own _ _ ((other e (Ne.symm hTe)).trans he)).trans oe') X
theorem land_ok {fl : Value} {Q : Unit → Shared → Prop} (R : Rep G W tr s.heap) (hk : W.n ≤ k) (oe' : W.own e = some (.t k)) (x : EF W k fl s.heap e c d t)
    (h : ∀ h', Rep G W tr h' → Le W s.heap W h' → Kp W s.heap h' → EF W k .none h' e c d t → Q () { s with heap := h' }) : wpAny M A (setFlight (.ref e) none) Q E s := by
  obtain ⟨oe, vs, he, hcls, hdict, hd, hsz, h0, h1⟩ := x.ex
  unfold setFlight
  rcases h1 with h1 | ⟨T, oT, ts, h1, hTe, ow, hT, hdT, h3s, h3⟩
  · refine wpAny_bind (wpAny_field he hd h1 ?_)
    rw [if_neg (by decide)]
    exact wpAny_pure (h s.heap R Le.refl Kp.refl ⟨oe, vs, he, hcls, hdict, hd, hsz, h0, .inl h1⟩)
  · refine wpAny_bind (wpAny_field he hd h1 ?_)
    rw [if_pos (show (Value.ref T != Value.none) = true from by simp)]
    refine wpAny_setField hT hdT h3s ?_
    have other : ∀ b, b ≠ T → (s.heap.update T (Obj.mapFields (·.setIfInBounds 3 Value.none))).get? b = s.heap.get? b := fun b hb => Heap.get?_update_other _ _ (Ne.symm hb)
    have hT' := Heap.get?_update_self (Obj.mapFields (·.setIfInBounds 3 Value.none)) hT (Obj.isFreed_of_fields (Obj.data_mapFields hdT _))
    have S1 : Stn W k W s.heap (s.heap.update T (Obj.mapFields (·.setIfInBounds 3 Value.none))) := ⟨fun _ _ _ => rfl, fun a w z => by
      by_cases q : a = T
      · exact ⟨_, by rw [q]; exact hT'⟩
      · obtain ⟨o, ho⟩ := R.ownd a w z
        exact ⟨o, (other a q).trans ho⟩, fun a o z n => by
      have q : a ≠ T := fun q => n (q ▸ ow)
      have := (other a q).trans z
      exact ⟨.of this, fun _ => this⟩, rfl, rfl⟩
    obtain ⟨R1, l1, p1⟩ := S1.out R hk
    exact h _ R1 l1 p1 ⟨oe, vs, (other e (Ne.symm hTe)).trans he, hcls, hdict, hd, hsz, h0, .inr ⟨T, _, _, h1, hTe, ow, hT', Obj.data_mapFields hdT _, by rw [Array.size_setIfInBounds]; exact h3s, by simp [h3s]⟩⟩
theorem leave_ok {Q : Unit → Shared → Prop} (R : Rep G W tr s.heap) (hk : W.n ≤ k) (hfr : A.frames = some (env :: outer)) (fr : FrOk W s.heap (env :: outer)) (hf : env.frame = some L)
    (oe' : W.own e = some (.t k)) (x : EF W k .none s.heap e c d t) (h : ∀ W' h', Rep G W' tr h' → Le W s.heap W' h' → Kp W s.heap h' → W'.n = W.n → W'.own e = some (.t k) → EF W' k .none h' e c d t → Q () { s with heap := h' }) :
    wpAny M A (leaving env (.ref e)) Q E s := by
  unfold leaving
  refine wpAny_bind (note_ok R hk hfr fr hf oe' x fun W' h' R' l' p' n' o' x' => ?_)
  refine land_ok (s := { s with heap := h' }) R' (by rw [n']; exact hk) o' x' fun h'' R'' l'' p'' x'' => ?_
  exact h W' h'' R'' (l'.trans l'') (Kp.trans l' p' p'') n' o' x''
end
end Mine
end
section
open Classical
namespace Mine
section
variable {cf : Cf} {G : Glo} {r : Ev} {A : Around} {n : Nat} {E : Value → Shared → Prop} {W : Wd} {sh : Sh} {s : Shared} {Q : Value → Shared → Prop} {K : KE} {X : KX}
theorem imp_leave {env : Env} {ρ : Loc} {s' : Shared} {fn : Fn} {args : List D} {vs : List Value} (la : Laid G fn args vs A s env s') (st : S1 G (W.fram (pOf env)) sh (A.deeper env) n env ρ s') (le : Le W s.heap (W.fram (pOf env)) s'.heap)
    (qx : AfX G (fun W' h' e c y => Kp W s.heap h' ∧ Made G W' h' e c y) W s X E) :
    AfM G env (W.fram (pOf env)) s' X (fun e s' => wpAny (model G.prog G.w) (A.deeper env) (leaving env e) (fun _ s'' => E e s'') (fun e' s'' => E e' s'') s') := by
  intro code why sh' W' h' e tk hX l' R' n' hm ht
  obtain ⟨kb, ⟨m, hn⟩, c, t, d, k, md, hc, hk, oe, ef, od, hns, hcode, hwhy⟩ := hm
  obtain ⟨h₂, t₂, rfl, tl⟩ := la.same
  have rm := st.rm.stmt2 st.is l' kb hn
  obtain ⟨l, fa, fr⟩ := rm.fr
  obtain ⟨outer, _, rfl⟩ := map_out (show (A.frames.map (env :: ·)) = some l from fa)
  refine leave_ok (s := { s with heap := h', toks := tk }) R' hk fa fr la.frame oe ef fun W'' h'' R'' l'' p'' n'' o'' x'' => ?_
  have np : ∀ b o, s.heap.get? b = some o → ¬ pOf env b := fun b o e z => (la.p b z).1 o e
  have kp : Kp W s.heap h' := fun a o p e => kb a o (le.fr a p) (fun z => np a o e (.inl z)) (fun x c ec z => np a o e (.inr ⟨x, z ▸ ec⟩)) (la.keep a o e)
  obtain ⟨o, es, ep, ho, r⟩ := hns
  exact qx code why sh' W'' h'' e tk hX (le.trans (l'.trans l'')) R'' (n''.trans n') ⟨Kp.trans (le.trans l') kp p'', c, t, d, k, md, hc, n''.symm ▸ hk, o'', x'', (l''.fz d o od ho).1, ⟨o, es, ep, (l''.fz d o od ho).2, r⟩, hcode, hwhy⟩ (Nat.le_trans tl ht)
theorem stepC_sound (ok : GOk cf G) (S : Sound G r n) : SC G (⟨r.E, r.T, r.B, stepC cf r⟩ : Ev) (n + 1) := by
  intro f args sh K X A W s fv vs Q E h st hf hv q qx
  have h : stepC cf r f args sh K X := h
  cases f with
  | glob x => cases lkE h with
    | s fn e h =>
      obtain ⟨v, hg, okf⟩ := ok.fn _ _ e
      obtain rfl : fv = v := Option.some.inj (Eq.trans (Eq.symm hf) hg)
      generalize impure x = b at h
      cases b with
      | true => exact imp_ok S.B ok.nolimit okf h st.rm.l st.at_ hv q fun env s' vs la st' le => imp_leave la st' le qx
      | false => exact pure_ok S.B ok.nolimit okf h st hv q
    | n _ h =>
      obtain ⟨⟨fn, as⟩, e, h⟩ := someE h
      exact new_ok ok S.B e h st hf hv q
  | bi x => exact callX_ok (f := .bi x) h st.at_ hf hv (by have := st.rm.units; lia) st.rm.hand q
  | ty x => exact callX_ok (f := .ty x) h st.at_ hf hv (by have := st.rm.units; lia) st.rm.hand q
  | _ => exact False.elim h
noncomputable def ExcSound (cf : Cf) (G : Glo) : Prop := ∀ (r : Ev) (n : Nat), Sound G r n → ∀ (st : Stmt) (ρ : Loc) (sh : Sh) (K : KB) (X : KX) (A : Around) (env : Env) (W : Wd) (s : Shared) (Q : Flow → Shared → Prop) (E : Value → Shared → Prop),
  excS cf r st ρ sh K X ∧ TopN A env n → S1 G W sh A n env ρ s → AfB G W env ρ.sc s K Q → AfM G env W s X E → wpAny (model G.prog G.w) A (exec st env) Q E s
theorem S1.less {ρ : Loc} {env : Env} (st : S1 G W sh A (n + 1) env ρ s) : S1 G W sh A n env ρ s := ⟨st.rm.less (Nat.le_succ _), st.at_, st.is⟩
theorem ev_sound (ok : GOk cf G) (hx : ExcSound cf G) (n : Nat) : Sound G (ev cf n) n := by
  induction n with
  | zero => exact ⟨fun _ _ _ _ _ _ _ _ _ _ h => False.elim h, fun _ _ _ _ _ _ _ _ _ _ h => False.elim h, fun _ _ _ _ _ _ _ _ _ _ _ h => False.elim h.1, fun _ _ _ _ _ _ _ _ _ _ _ _ h => False.elim h⟩
  | succ n S =>
    refine ⟨fun e ρ sh K A env W s Q E h st q => ?_, fun e ρ sh K A env W s Q E h st q => ?_, fun b ρ sh K X A env W s Q E h st q qx => ?_, stepC_sound ok S⟩
    · exact stepE_sound ok S (fun e ρ sh K A env W s Q E h st q => comp_ok S.E h st q) e ρ sh K A env W s Q E h st.less q
    · exact stepT_sound S h st.less q
    · exact stepB_sound ok S (loopS_sound ok S (hx _ _ S)) b ρ sh K X A env W s Q E ⟨h.1, h.2, st.rm.depth, st.rm.units⟩ st.less q qx
end
end Mine
end
section
open Builtin Builtin.ObjectAttr
namespace Mine
noncomputable abbrev bmE : List Value := [.type "Exception", .type "BaseException", .type "object"]
inductive ExcIs (h : Heap) (C N : Addr) (mro : List Value) : Prop
  | mk (nm q bs sn sub col dd k0 k1 k2 k3 k5 : _) (e : h.get? C = some (excClassObj nm q C N bs mro true sn sub false col dd k0 k1 k2 k3 k5 "Exception.__new__")) : ExcIs h C N mro
structure XC (h : Heap) (C N WF N2 : Addr) (mN mW : Str → Option Value) : Prop where
  c : ExcIs h C N (.ref WF :: bmE)
  n : h.Ns N mN
  w : ExcIs h WF N2 bmE
  n2 : h.Ns N2 mW
theorem XC.keeps {h h' : Heap} {C N WF N2 : Addr} {mN mW : Str → Option Value} (X : XC h C N WF N2 mN mW) (k : ∀ b o, h.get? b = some o → h'.get? b = some o) : XC h' C N WF N2 mN mW :=
  ⟨let ⟨nm, q, bs, sn, sub, col, dd, k0, k1, k2, k3, k5, e⟩ := X.c; ⟨nm, q, bs, sn, sub, col, dd, k0, k1, k2, k3, k5, k _ _ e⟩, X.n.keeps k,
    let ⟨nm, q, bs, sn, sub, col, dd, k0, k1, k2, k3, k5, e⟩ := X.w; ⟨nm, q, bs, sn, sub, col, dd, k0, k1, k2, k3, k5, k _ _ e⟩, X.n2.keeps k⟩
noncomputable def look2 (mN mW : Str → Option Value) (name : Str) (y : Option Value) : Option Value := match mN name with
  | some v => some v
  | Option.none => match mW name with
    | some v => some v
    | Option.none => y
section
variable {prog : Program} {w : World} {M : Model} {A : Around} {E : Value → Shared → Prop} {h : Heap} {g : Array GenState} {d : Drawn} {t : Nat} {os : OsState}
variable {C N WF N2 : Addr} {mN mW : Str → Option Value} {name : Str}
theorem XC.look (X : XC h C N WF N2 mN mW) {y : Option Value} (hy : typeLookup (.type "Exception") name = pure y) {Q : Option Value → Shared → Prop} (q : Q (look2 mN mW name y) ⟨h, g, d, t, os⟩) :
    wpAny M A (typeLookup (.ref C) name) Q E ⟨h, g, d, t, os⟩ := by
  obtain ⟨nm, qn, bs, sn, sub, col, dd, k0, k1, k2, k3, k5, hC⟩ := X.c
  obtain ⟨nm', qn', bs', sn', sub', col', dd', k0', k1', k2', k3', k5', hW⟩ := X.w
  have hrest : lookupAlong bmE name = pure y := by
    have := hy
    rw [typeLookup_eq, PySem.F.excBase_Exception.mroIs] at this
    exact this
  unfold look2 at q
  rw [typeLookup_eq]
  refine wpAny_bind (wpAny_mroOf_exc hC ?_)
  rw [lookupAlong_cons]
  refine wpAny_bind (wpAny_classOwn_exc hC X.n ?_)
  cases e : mN name with
  | some v => rw [e] at q; exact wpAny_pure q
  | none =>
    rw [e] at q
    dsimp only at q ⊢
    rw [lookupAlong_cons]
    refine wpAny_bind (wpAny_classOwn_exc hW X.n2 ?_)
    cases e2 : mW name with
    | some v => rw [e2] at q; exact wpAny_pure q
    | none =>
      rw [e2] at q
      dsimp only at q ⊢
      rw [hrest]; exact wpAny_pure q
theorem XC.hasB {T : String} (h : (Value.ref C :: .ref WF :: bmE).contains (.type T) = true) : (Value.ref C :: .ref WF :: bmE).contains (.type T) = true := h
theorem cB : (Value.ref C :: .ref WF :: bmE).contains (.type "BaseException") = true := by
  rw [List.contains_cons, List.contains_cons]; rfl
theorem cO : (Value.ref C :: .ref WF :: bmE).contains (.type "object") = true := by
  rw [List.contains_cons, List.contains_cons]; rfl
theorem xget_entry (X : XC h C N WF N2 mN mW) {a dx : Addr} {o : Obj} {vs : Array Value} {m : Str → Option Value} {v : Value} {tk : Tok} {Q : Fin → Shared → Prop} (h1 : mN name = none) (h2 : mW name = none) (hy : typeLookup (.type "Exception") name = pure none)
    (hx : h.get? a = some o) (hc : o.cls = .ref C) (hdx : o.dict = some dx) (hd : o.data = .fields vs) (hns : h.Ns dx m) (hv : m name = some v) (hh : handedOut v = pure v) (hq : Q (.done (.ret v)) ⟨h, g, d, t, os⟩) :
    wpAny (model prog w) A (Builtin.«object.__getattribute__» ⟨[.ref a, .str name tk], []⟩) Q E ⟨h, g, d, t, os⟩ := by
  have lk : look2 mN mW name none = none := by unfold look2; rw [h1]; dsimp only; rw [h2]
  obtain ⟨nm, qn, bs, sn, sub, col, dd, k0, k1, k2, k3, k5, hC⟩ := X.c
  unfold Builtin.«object.__getattribute__»
  repeat (first | (with_reducible refine wpAny_loadPart_at hx ?_; rw [hc]) | (with_reducible refine X.look hy ?_; rw [lk]) | wp_step)
  rw [hd]
  show wpAny _ _ (instanceDict a false) _ _ _
  unfold instanceDict
  repeat (first | (with_reducible refine wpAny_loadPart_at hx ?_; rw [hc]) | with_reducible refine wpAny_loadPart_at hC ?_ | wp_step)
  rw [hdx]
  repeat (first | (with_reducible refine wpAny_nsGet hns ?_; rw [hv]) | wp_step)
  exact hq
theorem xget_check (X : XC h C N WF N2 mN mW) {a : Addr} {o : Obj} {nameV : Value} {Q : Unit → Shared → Prop} (hx : h.get? a = some o) (hc : o.cls = .ref C) (hq : Q () ⟨h, g, d, t, os⟩) :
    wpAny M A (checkBuiltinCall "BaseException.__getattribute__" ⟨[.ref a, nameV], []⟩) Q E ⟨h, g, d, t, os⟩ := by
  obtain ⟨nm, qn, bs, sn, sub, col, dd, k0, k1, k2, k3, k5, hC⟩ := X.c
  have hk : builtinKind "BaseException.__getattribute__" = some .slot := by decide +kernel
  have hsplit : splitId "BaseException.__getattribute__" = some ("BaseException", "__getattribute__") := by decide +kernel
  have ha := PySem.F.args_bexc_ga (.ref a) nameV
  simp only [checkBuiltinCall, hk, hsplit]
  refine wpAny_bind ?_
  · unfold isInstance
    repeat (first | (with_reducible refine wpAny_loadPart_at hx ?_; rw [hc]) | (with_reducible refine wpAny_isSubtype_exc hC ?_; rw [cB]) | wp_step)
    exact hq
theorem xget (X : XC h C N WF N2 mN mW) {a dx : Addr} {o : Obj} {vs : Array Value} {m : Str → Option Value} {v : Value} {expr : Bool} {Q : Value → Shared → Prop} (h1 : mN name = none) (h2 : mW name = none) (hy : typeLookup (.type "Exception") name = pure none)
    (n1 : mN "__getattribute__" = none) (n2 : mW "__getattribute__" = none) (n3 : mN "__getattr__" = none) (n4 : mW "__getattr__" = none)
    (hx : h.get? a = some o) (hc : o.cls = .ref C) (hdx : o.dict = some dx) (hd : o.data = .fields vs) (hns : h.Ns dx m) (hv : m name = some v) (hh : handedOut v = pure v) (hq : Q v ⟨h, g, d, t + 1, os⟩) :
    wpAny (model prog w) A (getAttr (.ref a) name expr) Q E ⟨h, g, d, t, os⟩ := by
  have lk1 : look2 mN mW "__getattribute__" (some (.builtin "BaseException.__getattribute__")) = some (.builtin "BaseException.__getattribute__") := by unfold look2; rw [n1]; dsimp only; rw [n2]
  have lk2 : look2 mN mW "__getattr__" none = none := by unfold look2; rw [n3]; dsimp only; rw [n4]
  have f3 := PySem.F.attrBase_Exception.ga.bind (.ref a)
  have hx0 : (expr && onTheHeap (Value.builtin "BaseException.__getattribute__")) = false := by cases expr <;> rfl
  have hx2 : (Value.builtin "BaseException.__getattribute__" == Value.builtin "object.__getattribute__") = false := by decide +kernel
  have hx1 : (onTheHeap (Value.ref C) && Value.builtin "BaseException.__getattribute__" == Value.builtin "object.__getattribute__") = false := by rw [hx2]; rfl
  unfold getAttr getAttrBy
  repeat (any_goals (first | assumption | (with_reducible refine wpAny_loadPart_at hx ?_; rw [hc]) | (with_reducible refine X.look PySem.F.attrBase_Exception.ga.lookup ?_; rw [lk1]) | (with_reducible refine X.look PySem.F.attrBase_Exception.noGetattr ?_; rw [lk2]) | wp_step))
  refine codeAny_call_builtin PySem.F.attrBase_Exception.ga.plain PySem.F.entry_bexc_ga (xget_check X hx hc (xget_entry X h1 h2 hy hx hc hdx hd hns hv hh ?_))
  show wpAny _ _ (handedOut v) _ _ _
  rw [hh]; exact wpAny_pure hq
theorem xset_pass (self : Value) : refuseLoop self "__setattr__" bmE = pure () := by kernel_rfl
noncomputable def Stored (h : Heap) (x C : Addr) (mA : Str → Option Value) (name : Str) (v : Value) (h' : Heap) : Prop :=
  h'.Inst x C (fun y => if y = name then some v else mA y) ∧
  (∀ b o, b ≠ x → (∀ o₀ dx, h.get? x = some o₀ → o₀.dict = some dx → b ≠ dx) → h.get? b = some o → h'.get? b = some o) ∧
  (∀ o₀, h.get? x = some o₀ → ∃ o₁, h'.get? x = some o₁ ∧ o₁.cls = o₀.cls ∧ o₁.data = o₀.data ∧ o₁.slots = o₀.slots ∧ ∀ dx, o₀.dict = some dx → o₁.dict = some dx) ∧
  (∀ o₀ dx, h.get? x = some o₀ → o₀.dict = none → h'.get? x = some { o₀ with dict := some dx } → h.get? dx = none)
theorem xset_entry {x : Addr} {mA : Str → Option Value} {v : Value} {tk : Tok} {Q : Fin → Shared → Prop} {ns : List Str} (X : XC h C N WF N2 mN mW) (h1 : mN name = none) (h2 : mW name = none) (hy : typeLookup (.type "Exception") name = pure none)
    (hxC : x ≠ C) (I : h.Inst x C mA) (hq : ∀ h' tk', Stored h x C mA name v h' → Q (.done (.ret .none)) ⟨h', g, d, tk', os⟩) (hw : Within mA ns) (hsz : ns.length ≤ sizeLine) :
    wpAny (model prog w) A (Builtin.«object.__setattr__» ⟨[.ref x, .str name tk, v], []⟩) Q E ⟨h, g, d, t, os⟩ := by
  have lk : look2 mN mW name none = none := by unfold look2; rw [h1]; dsimp only; rw [h2]
  obtain ⟨nm, qn, bs, sn, sub, col, dd, k0, k1, k2, k3, k5, hC⟩ := X.c
  obtain ⟨o, hx, hc, hnc, hd⟩ := I
  have hpass := xset_pass (.ref x)
  unfold Builtin.«object.__setattr__»
  repeat (first | rw [refuse_eq] | (rw [refuseLoop_ref, refuseLoop_ref, hpass]) | (with_reducible refine wpAny_loadPart_at hx ?_; rw [hc]) | with_reducible refine wpAny_mroOf_exc hC ?_ | (with_reducible refine X.look hy ?_; rw [lk]) | wp_step)
  rcases hd with ⟨hdn, hmA⟩ | ⟨dx, hdx, hne, hns⟩
  · rw [hdn, if_neg (by simp [typeHasDict])]
    split
    · rename_i hcd
      cases hcd
    split
    · rename_i c hcd
      exact absurd hcd (hnc c)
    · have hx₁ : (h.push { cls := .type "dict", data := .dict #[] }).get? x = some o := Heap.get?_push_of_some _ hx
      have hxs : x ≠ h.objs.size := Nat.ne_of_lt (Heap.lt_size hx)
      refine wpAny_bind (wpAny_alloc' ?_)
      refine wpAny_bind (wpAny_update' hx₁ ?_)
      refine wpAny_pure ?_
      have hgd : ((h.push { cls := .type "dict", data := .dict #[] }).update x fun o => { cls := o.cls, dict := some h.objs.size, data := o.data, slots := o.slots }).get? h.objs.size
          = some { cls := .type "dict", data := .dict #[] } :=
        (Heap.get?_update_ne _ _ _ _ hxs.symm).trans (Heap.get?_push_at rfl rfl)
      have hnd : ((h.push { cls := .type "dict", data := .dict #[] }).update x fun o => { cls := o.cls, dict := some h.objs.size, data := o.data, slots := o.slots }).Ns h.objs.size (fun _ => none) :=
        ⟨_, #[], _, hgd, rfl, fun e he => absurd he (by simp), fun _ => rfl⟩
      show wpAny _ _ (storeInDict h.objs.size (.str name tk) name v) _ _ _
      unfold storeInDict newKeyGuard
      refine wpAny_bind (wpAny_pure (wpAny_bind (wpAny_nsSet1 (Heap.Ns1.of_empty hnd) fun h' hn' hs => ?_)))
      obtain ⟨oD, esD, epD, hoD, hdD, hcD⟩ := hn'.count (Within.cons name v Within.nil)
      refine wpAny_bind (wpAny_lookBehind hoD (by rw [hdD]; exact pastItsLine_dict (Nat.le_trans hcD (by rw [List.length_cons, List.length_nil, sizeLine_eq]; omega))) ?_)
      wp_walk
      have hx' : h'.get? x = some { cls := o.cls, dict := some h.objs.size, data := o.data, slots := o.slots } := ?_
      refine hq h' _ ⟨⟨{ cls := o.cls, dict := some h.objs.size, data := o.data, slots := o.slots }, hx', hc, hnc, .inr ⟨h.objs.size, rfl, hxs.symm, ?_⟩⟩, (fun b ob hbx _ hb => ?_),
        (fun o₀ h₀ => by obtain rfl : o = o₀ := Option.some.inj (hx.symm.trans h₀); exact ⟨_, hx', rfl, rfl, rfl, fun dx e => by rw [hdn] at e; cases e⟩), fun o₀ dx h₀ _ e => ?_⟩
      · obtain ⟨o', es, ep, e1, e2, e3, eu, e4⟩ := hn'
        exact ⟨o', es, ep, e1, e2, e3, eu, fun y => by rw [e4 y]; by_cases hy : y = name <;> simp [hy, hmA]⟩
      · exact (hs.2 b (Nat.ne_of_lt (Heap.lt_size hb))).trans ((Heap.get?_update_ne _ _ _ _ hbx).trans (Heap.get?_push_of_some _ hb))
      · rw [hx'] at e
        have := congrArg Obj.dict (Option.some.inj e)
        cases this
        exact Heap.get?_none_of_le (Nat.le_refl _)
      · refine (hs.2 x hxs).trans (Heap.get?_update_self _ hx₁ ?_)
        have hfr := (Heap.get?_some_iff.mp hx).2
        obtain ⟨oc, od, odt, osl⟩ := o
        cases odt <;> first | rfl | exact hfr
  · rw [hdx]
    refine wpAny_pure ?_
    show wpAny _ _ (storeInDict dx (.str name tk) name v) _ _ _
    unfold storeInDict newKeyGuard
    refine wpAny_bind (wpAny_pure (wpAny_bind (wpAny_nsSet1 hns fun h' hn' hs => ?_)))
    obtain ⟨oD, esD, epD, hoD, hdD, hcD⟩ := hn'.count (Within.cons name v hw)
    refine wpAny_bind (wpAny_lookBehind hoD (by rw [hdD]; exact pastItsLine_dict (Nat.le_trans hcD (by rw [List.length_cons]; omega))) ?_)
    wp_walk
    refine hq h' _ ⟨⟨o, (hs.2 x hne.symm).trans hx, hc, hnc, .inr ⟨dx, hdx, hne, hn'⟩⟩, (fun b ob _ hbd hb => ?_),
      (fun o₀ h₀ => ⟨o₀, (hs.2 x hne.symm).trans h₀, rfl, rfl, rfl, fun _ e => e⟩), fun o₀ dx' h₀ e _ => by rw [hx] at h₀; cases h₀; rw [hdx] at e; cases e⟩
    exact (hs.2 b (hbd o dx hx hdx)).trans hb
theorem xset_check (X : XC h C N WF N2 mN mW) {x : Addr} {o : Obj} {nameV v : Value} {Q : Unit → Shared → Prop} (hx : h.get? x = some o) (hc : o.cls = .ref C) (hq : Q () ⟨h, g, d, t, os⟩) :
    wpAny M A (checkBuiltinCall "object.__setattr__" ⟨[.ref x, nameV, v], []⟩) Q E ⟨h, g, d, t, os⟩ := by
  obtain ⟨nm, qn, bs, sn, sub, col, dd, k0, k1, k2, k3, k5, hC⟩ := X.c
  have SF := PySem.F.store_object
  have ha := SF.args (.ref x) nameV v
  simp only [checkBuiltinCall, SF.kind, SF.split]
  refine wpAny_bind ?_
  · unfold isInstance
    repeat (first | (with_reducible refine wpAny_loadPart_at hx ?_; rw [hc]) | (with_reducible refine wpAny_isSubtype_exc hC ?_; rw [cO]) | wp_step)
    exact hq
theorem xlk_sa : typeLookup (.type "Exception") "__setattr__" = pure (some (.builtin "object.__setattr__")) := by rw [typeLookup_type, builtinLookup_eq_fast]; kernel_rfl
theorem xset {x : Addr} {mA : Str → Option Value} {v : Value} {Q : Unit → Shared → Prop} {ns : List Str} (X : XC h C N WF N2 mN mW) (s1 : mN "__setattr__" = none) (s2 : mW "__setattr__" = none) (h1 : mN name = none) (h2 : mW name = none) (hy : typeLookup (.type "Exception") name = pure none)
    (hxC : x ≠ C) (I : h.Inst x C mA) (hq : ∀ h' tk', Stored h x C mA name v h' → Q () ⟨h', g, d, tk', os⟩) (hw : Within mA ns) (hsz : ns.length ≤ sizeLine) :
    wpAny (model prog w) A (setAttr (.ref x) name v) Q E ⟨h, g, d, t, os⟩ := by
  obtain ⟨o, hx, hc, _⟩ := id I
  have SF := PySem.F.store_object
  have f3 := SF.slot.bind (.ref x)
  have lk : look2 mN mW "__setattr__" (some (.builtin "object.__setattr__")) = some (.builtin "object.__setattr__") := by unfold look2; rw [s1]; dsimp only; rw [s2]
  unfold setAttr callSpecial? specialOf
  repeat (any_goals (first | assumption | (with_reducible refine wpAny_loadPart_at hx ?_; rw [hc]) | (with_reducible refine X.look xlk_sa ?_; rw [lk]) | wp_step))
  refine codeAny_call_builtin SF.slot.plain SF.entry (xset_check X hx hc (xset_entry X h1 h2 hy hxC I (fun h' tk' hS => ?_) hw hsz))
  repeat (any_goals (first | assumption | wp_step))
  exact hq h' tk' hS
end
end Mine
end
section
open Builtin Builtin.ObjectAttr
namespace Mine
section
variable {prog : Program} {w : World} {M : Model} {A : Around} {E : Value → Shared → Prop} {h : Heap} {g : Array GenState} {d : Drawn} {t : Nat} {os : OsState}
variable {C N WF N2 : Addr} {mN mW : Str → Option Value} {name : Str}
theorem cE : (Value.ref C :: .ref WF :: bmE).contains (.type "Exception") = true := by
  rw [List.contains_cons, List.contains_cons]; rfl
theorem cA : (Value.ref C :: .ref WF :: bmE).contains (.type "AttributeError") = false := by
  rw [List.contains_cons, List.contains_cons]; rfl
theorem cN : (Value.ref C :: .ref WF :: bmE).contains (.type "NameError") = false := by
  rw [List.contains_cons, List.contains_cons]; rfl
theorem xnew_check (X : XC h C N WF N2 mN mW) {rest : List Value} {Q : Unit → Shared → Prop} (hq : Q () ⟨h, g, d, t, os⟩) : wpAny M A (checkBuiltinCall "Exception.__new__" ⟨.ref C :: rest, []⟩) Q E ⟨h, g, d, t, os⟩ := by
  obtain ⟨nm, qn, bs, sn, sub, col, dd, k0, k1, k2, k3, k5, hC⟩ := X.c
  have F := PySem.F.excBase_Exception
  have hstar := F.noStar
  simp only [checkBuiltinCall, F.newKind, F.newSplit, F.newRow]
  repeat (first | refine wpAny_loadPart_at hC ?_ | (refine wpAny_isSubtype_exc hC ?_; rw [cE]) | refine wpAny_staticBase_exc hC ?_ | refine wpAny_madeBy_exc hC ?_ | simp only [bne_self_eq_false, Bool.false_eq_true, if_false] | wp_step)
  exact hq
theorem xnew_code (X : XC h C N WF N2 mN mW) {rest : List Value} {R : Result → Shared → Prop}
    (hq : R (.ok (.ret (.ref (h.objs.size + 1)))) ⟨(h.push { cls := .type "tuple", data := .seq rest.toArray }).push { cls := .ref C, data := .fields #[.ref h.objs.size, .none, .none, .none, .bool false, .none] }, g, d, t, os⟩) (hrest : rest.length ≤ sizeLine) :
    codeAny (model prog w) A (.builtin "Exception.__new__" ⟨.ref C :: rest, []⟩) R ⟨h, g, d, t, os⟩ := by
  obtain ⟨nm, qn, bs, sn, sub, col, dd, k0, k1, k2, k3, k5, hC⟩ := X.c
  have F := PySem.F.excBase_Exception
  have hends := F.ends
  refine PySem.codeAny_builtinAt F.entry ?_
  unfold Builtin.«BaseException.__new__»
  refine PySem.wpAt_bind ?_
  show PySem.wpAt _ _ _ (stack >>= _) _ _ _
  refine PySem.wpAt_bind (PySem.wpAt_stack fun p below => PySem.wpAt_of_wpAny ?_)
  wp_walk
  refine PySem.wpAt_of_wpAny ?_
  rw [F.owner]
  repeat (first | with_reducible refine wpAny_madeHere_exc F.canon hC ?_ | with_reducible refine wpAny_loadPart_at hC ?_ | (with_reducible refine wpAny_isSubtype_exc hC ?_; first | rw [cE] | rw [cA] | rw [cN]) | wp_step)
  show R _ _
  rw [Heap.size_push]
  exact hq
structure Fresh (h h' : Heap) (e : Addr) (C : Addr) (rest : List Value) : Prop where
  keeps : ∀ b o, h.get? b = some o → h'.get? b = some o
  new : h.get? e = none
  there : ∃ tt, h'.get? e = some { cls := .ref C, data := .fields #[.ref tt, .none, .none, .none, .bool false, .none] }
theorem xnew_type (X : XC h C N WF N2 mN mW) {rest : List Value} {fI : Addr} {oI : Obj} {Q : PySem.Fin → Shared → Prop} (hi : mN "__init__" = some (.ref fI)) (hfI : h.get? fI = some oI) (hfc : oI.cls = .type "function")
    (hq : ∀ h' e, Fresh h h' e C rest → wpAny (model prog w) A (call (.ref fI) (.ref e :: rest)) (fun r s' => r = .none ∧ Q (.done (.ret (.ref e))) s') E ⟨h', g, d, t, os⟩) (hrest : rest.length ≤ sizeLine) :
    wpAny (model prog w) A (Builtin.«type.__call__» ⟨.ref C :: rest, []⟩) Q E ⟨h, g, d, t, os⟩ := by
  obtain ⟨nm, qn, bs, sn, sub, col, dd, k0, k1, k2, k3, k5, hC⟩ := X.c
  have F := PySem.F.excBase_Exception
  repeat (first | with_reducible refine wpAny_loadPart_at hC ?_ | with_reducible refine wpAny_madeBy_exc hC ?_ | wp_step)
  refine codeAny_call_builtin_code (Code.quiet_builtin _ F.quiet) (xnew_check X ?_)
  refine xnew_code X ?_ hrest
  show wpAny _ _ _ _ _ _
  have kk : ∀ b o, h.get? b = some o → ((h.push { cls := .type "tuple", data := .seq rest.toArray }).push { cls := .ref C, data := .fields #[.ref h.objs.size, .none, .none, .none, .bool false, .none] }).get? b = some o := fun b o e => Heap.get?_push_of_some _ (Heap.get?_push_of_some _ e)
  have X₁ := X.keeps kk
  have hC₁ := kk _ _ hC
  have hfI₁ := kk _ _ hfI
  have hget : ((h.push { cls := .type "tuple", data := .seq rest.toArray }).push
      { cls := .ref C, data := .fields #[.ref h.objs.size, .none, .none, .none, .bool false, .none] }).get? (h.objs.size + 1) = some
      { cls := .ref C, data := .fields #[.ref h.objs.size, .none, .none, .none, .bool false, .none] } := by heap_get
  have hcC : (Value.ref C :: .ref WF :: bmE).contains (.ref C) = true := by simp
  unfold isInstance
  repeat (first | with_reducible refine wpAny_loadPart_at hget ?_ | (with_reducible refine wpAny_isSubtype_exc hC₁ ?_; rw [hcC]) | wp_step)
  show wpAny _ _ (typeLookup (.ref C) _) _ _ _
  refine X₁.look F.init.lookup ?_
  have lk : look2 mN mW "__init__" (some (.builtin "Exception.__init__")) = some (.ref fI) := by unfold look2; rw [hi]
  rw [lk]
  refine wpAny_holding (wpAny_bind ?_)
  unfold bindSpecial
  refine wpAny_bind (wpAny_typeOf (T := "function") ⟨_, hfI₁, hfc⟩ ?_)
  rw [if_pos (by decide)]
  refine wpAny_pure (wpAny_bind (wpAny_mono (hq _ (h.objs.size + 1) ⟨kk, Heap.get?_none_of_le (Nat.le_succ _), h.objs.size, hget⟩) (fun r s' hr => ?_) fun _ _ x => x))
  obtain ⟨rfl, hQ⟩ := hr
  wp_walk
  exact hQ
theorem xnew_call (X : XC h C N WF N2 mN mW) {rest : List Value} {fI : Addr} {oI : Obj} {Q : Value → Shared → Prop} (hi : mN "__init__" = some (.ref fI)) (hfI : h.get? fI = some oI) (hfc : oI.cls = .type "function")
    (hq : ∀ h' e, Fresh h h' e C rest →
      wpAny (model prog w) (A.under (.builtin "type.__call__" ⟨.ref C :: rest, []⟩)) (call (.ref fI) (.ref e :: rest)) (fun r s' => r = .none ∧ Q (.ref e) s') E ⟨h', g, d, t, os⟩) (hrest : rest.length ≤ sizeLine) :
    wpAny (model prog w) A (call (.ref C) rest) Q E ⟨h, g, d, t, os⟩ := by
  obtain ⟨nm, qn, bs, sn, sub, col, dd, k0, k1, k2, k3, k5, hC⟩ := X.c
  have f1 := tc_lookup
  have f2 := tc_bind (.ref C)
  have hT : (⟨h, g, d, t, os⟩ : Shared).TypeIs (.ref C) "type" := ⟨_, hC, rfl⟩
  refine wpAny_call (codeAny_of_tree ?_)
  show wpAny _ _ (callAny (.ref C) _) _ _ _
  repeat (any_goals (first | assumption | with_reducible refine wpAny_loadPart_at hC ?_ | wp_step))
  refine ⟨rfl, ?_⟩
  refine codeAny_call_builtin_at (Code.quiet_builtin _ (by decide +kernel)) entry_typeCall (wpAny_check_type_call_sub hC (xnew_type X hi hfI hfc (fun h' e hm => ?_) hrest))
  exact hq h' e hm
end
end Mine
end
namespace Mine
section
variable {prog : Program} {w : World} {A : Around} {E : Value → Shared → Prop} {s : Shared} {env : Env} {K : Frag}
theorem call_meth {o : Expr} {name : Str} {apos pos : Pos} {args : List Expr} {Q : Value → Shared → Prop}
    (hbase : attributeBase o name env (eval o env) = eval o env)
    (hfew : ((backTo pos (starEach args env)).all (fun x => !x.1) && (backToKw pos (keywordEach [] env)).all (fun x => x.1.isSome)
      && decide (args.length + ([] : List Keyword).length + (if ([] : List Keyword).isEmpty then 0 else 1) < 30)) = true)
    (hline : (apos.endLine == pos.line) = true)
    (h : wpAny (model prog w) A (eval o env) (fun ov s₁ => ∀ pl, wpAny (model prog w) A (getMethod ov name pl) (fun fx s₂ => wpAny (model prog w) A (callWith pos fx.1 fx.2 (backTo pos (starEach args env)) []) Q E s₂) E s₁) E s) :
    wpAny (model prog w) A (eval (.Call (.Attribute o name apos) args [] pos) env) Q E s := by
  rw [arm_eval_Call, hbase]
  refine wpAny_bind (wpAny_mono h (fun ov s₁ h₁ => ?_) fun _ _ e => e)
  refine wpAny_bind (wpAny_standAt ?_)
  have hform : methodCallForm (args.length + ([] : List Keyword).length) (backTo pos (starEach args env)) (backToKw pos (keywordEach [] env)) = true := hfew
  have hpos : methodCallPos true o env apos pos = pure pos := by unfold methodCallPos; simp [hline]
  unfold methodCall
  rw [hform]
  refine wpAny_bind (wpAny_holding (wpAny_mono (h₁ _) (fun fx s₂ h₂ => ?_) fun _ _ x => x))
  exact wpAny_bind (wpAny_of_eq hpos h₂)
theorem xm_type {T : String} {name : Str} {v : Value} {pl : Sem Bool} {Q : Value × List Value → Shared → Prop} {L : Addr} {m : Str → Option Value} (n : s.heap.Ns L m) (ht : typeOf (.type T) = pure (.type "type")) (hs : Manifest.isStub T = false)
    (e : findCls [] (.type T) (.type "type") name = some (.val v)) (hh : handedIn v = true) (h : Q (v, []) { s with toks := s.toks + 1 }) : wpAny (model prog w) A (getMethod (.type T) name pl) Q E s :=
  method_type (K := []) (h₀ := { objs := #[] }) ⟨n, fun b o e => by simp [Heap.get?] at e, Nat.zero_le _⟩ (fun a o e => by cases e) ht hs e hh h
theorem xm_exc : findCls [] (.type "Exception") (.type "type") (Str.ofString "__init__") = some (.val (.builtin "Exception.__init__")) := by kernel_rfl
theorem xm_exc_type : typeOf (.type "Exception") = pure (.type "type") := by kernel_rfl
theorem xm_exc_stub : Manifest.isStub "Exception" = false := by decide +kernel
theorem xm_handed : handedIn (.builtin "Exception.__init__") = true := by decide +kernel
end
section
variable {prog : Program} {w : World} {M : Model} {A : Around} {E : Value → Shared → Prop} {h : Heap} {g : Array GenState} {d : Drawn} {t : Nat} {os : OsState}
variable {C N WF N2 : Addr} {mN mW : Str → Option Value}
theorem xinit_check (X : XC h C N WF N2 mN mW) {e : Addr} {oe : Obj} {rest : List Value} {Q : Unit → Shared → Prop} (he : h.get? e = some oe) (hcls : oe.cls = .ref C) (hq : Q () ⟨h, g, d, t, os⟩) :
    wpAny M A (checkBuiltinCall "Exception.__init__" ⟨.ref e :: rest, []⟩) Q E ⟨h, g, d, t, os⟩ := by
  obtain ⟨nm, qn, bs, sn, sub, col, dd, k0, k1, k2, k3, k5, hC⟩ := X.c
  have F := PySem.F.excBase_Exception
  have hshort := F.noStar
  simp only [checkBuiltinCall, F.initKind, F.initSplit, F.initRow]
  repeat (first | (with_reducible refine wpAny_loadPart_at he ?_; rw [hcls]) | with_reducible refine wpAny_loadPart_at hC ?_ | (with_reducible refine wpAny_isSubtype_exc hC ?_; rw [cE]) | wp_step)
  refine wpAny_onRaise ?_
  rw [show ∀ (a b : String) (n : Nat), Bind.check ⟨.positional, "*", "Exception", .self, [⟨"args", .varPos, false⟩]⟩ a b n (List.map (fun x => x.fst) ({ pos := Value.ref e :: rest } : Args).kw) = pure () from
    fun a b n => check_star_args _ _ _ _ _ _]
  exact wpAny_pure hq
theorem xinit (X : XC h C N WF N2 mN mW) {e tt : Addr} {v : Value} {Q : Value → Shared → Prop} (he : h.get? e = some { cls := .ref C, data := .fields #[.ref tt, .none, .none, .none, .bool false, .none] })
    (hq : ∀ h' t2, (∀ b o, b ≠ e → h.get? b = some o → h'.get? b = some o) → h'.get? e = some { cls := .ref C, data := .fields #[.ref t2, .none, .none, .none, .bool false, .none] } → Q .none ⟨h', g, d, t, os⟩) :
    wpAny (model prog w) A (call (.builtin "Exception.__init__") [.ref e, v]) Q E ⟨h, g, d, t, os⟩ := by
  have F := PySem.F.excBase_Exception
  refine wpAny_call (codeAny_call_builtin F.init.plain F.initEntry (xinit_check X he rfl ?_))
  wp_walk
  refine hq _ h.objs.size (fun b o hb eb => ?_) ?_
  · exact (Heap.get?_update_other _ _ (Ne.symm hb)).trans (Heap.get?_push_of_some _ eb)
  · exact Heap.get?_update_self _ (Heap.get?_push_of_some _ he) rfl
end
end Mine
section
open Classical
namespace Mine
noncomputable def W0 (env : Env) (e : Addr) : Wd := ⟨fun a => if pOf env a then some .f else some (.t 9), fun _ => e, 1⟩
theorem W0_none {env : Env} {e a : Addr} : (W0 env e).own a ≠ none := by
  show (if pOf env a then some Own.f else some (.t 9)) ≠ none
  split <;> simp
theorem W0_x {env : Env} {e a : Addr} : (W0 env e).own a ≠ some .x := by
  show (if pOf env a then some Own.f else some (.t 9)) ≠ some .x
  split <;> simp
theorem W0_f {env : Env} {e a : Addr} : (W0 env e).own a = some .f ↔ pOf env a := by
  show (if pOf env a then some Own.f else some (.t 9)) = some .f ↔ _
  split <;> simp [*]
theorem W0_le {env : Env} {e : Addr} {h h' : Heap} : Le (W0 env e) h (W0 env e) h' := ⟨fun a o p _ => absurd p W0_none, fun _ p => p, Nat.le_refl _, fun _ _ => rfl, fun a o p _ => absurd p W0_x⟩
theorem Is.frame {G : Glo} {env : Env} {e : Addr} {h h' : Heap} {ρ : Loc} (x : Is G (W0 env e) h env ρ) (k : ∀ a o, pOf env a → h.get? a = some o → h'.get? a = some o) : Is G (W0 env e) h' env ρ :=
  x.mono W0_le fun a o p q => .of (k a o (W0_f.mp p) q)
section
variable {G : Glo} {A : Around} {E : Value → Shared → Prop} {s : Shared} {env : Env} {ρ : Loc} {e : Addr}
theorem ldD {x : Str} {d : D} {p : Pos} {Q : Value → Shared → Prop} (is : Is G (W0 env e) s.heap env ρ) (hl : lk ρ.lo x = some d) (hd : dbg x = false) (q : ∀ v, V G (W0 env e) s.heap d v → Q v s) : wpAny (model G.prog G.w) A (eval (.Name x p) env) Q E s :=
  wpAny_Name (loadName_ok hl hd is q) (dbg_out hd).1
theorem ldE {x : Str} {p : Pos} {Q : Value → Shared → Prop} (is : Is G (W0 env e) s.heap env ρ) (hl : lk ρ.lo x = some (.ref 0)) (hd : dbg x = false) (q : Q (.ref e) s) : wpAny (model G.prog G.w) A (eval (.Name x p) env) Q E s :=
  ldD is hl hd fun v hv => by rw [hv.2]; exact q
theorem ldS {x y : Str} {p : Pos} {Q : Value → Shared → Prop} (is : Is G (W0 env e) s.heap env ρ) (hl : lk ρ.lo x = some (.str y)) (hd : dbg x = false) (q : ∀ u, Q (.str y u) s) : wpAny (model G.prog G.w) A (eval (.Name x p) env) Q E s :=
  ldD is hl hd fun v hv => by obtain ⟨u, _, rfl⟩ := hv; exact q u
theorem ldG {x : Str} {p : Pos} {v : Value} {Q : Value → Shared → Prop} (is : Is G (W0 env e) s.heap env ρ) (hk : ρ.sc.lookup x = some .globalImplicit) (hd : dbg x = false) (hg : s.heap.Ns mainGlobals G.mg) (hv : G.mg x = some v) (q : Q v s) : wpAny (model G.prog G.w) A (eval (.Name x p) env) Q E s :=
  Calls.Name_function_global is.kind (by show env.scope.names.lookup x = _; rw [is.names]; exact hk) (Calls.loadGlobal_global (by rw [is.glob]; exact hg) hv q) (dbg_out hd).1
theorem ldB {x : Str} {p : Pos} {v : Value} {mb : Str → Option Value} {Q : Value → Shared → Prop} (is : Is G (W0 env e) s.heap env ρ) (hk : ρ.sc.lookup x = some .globalImplicit) (hd : dbg x = false) (hg : s.heap.Ns mainGlobals G.mg) (hn : G.mg x = none) (hb : s.heap.Ns builtinsNs mb) (hv : mb x = some v) (q : Q v s) :
    wpAny (model G.prog G.w) A (eval (.Name x p) env) Q E s :=
  Calls.Name_function_global is.kind (by show env.scope.names.lookup x = _; rw [is.names]; exact hk) (Calls.loadGlobal_builtin (by rw [is.glob]; exact hg) hn (by rw [is.blt]; exact hb) hv q) (dbg_out hd).1
theorem set_stmt {x a : Str} {p1 p2 p : Pos} {ve : Expr} {C N WF N2 : Addr} {mN mW mA : Str → Option Value} {ns : List Str} {Q : Flow → Shared → Prop} (c1 : isCompE ve = false) (is : Is G (W0 env e) s.heap env ρ) (hl : lk ρ.lo x = some (.ref 0)) (hd : dbg x = false)
    (hv : wpAny (model G.prog G.w) A (eval ve env) (fun v s' => s'.heap = s.heap ∧ Is G (W0 env e) s'.heap env ρ ∧ ∀ tk h', Stored s.heap e C mA a v h' → Q .next { s' with heap := h', toks := tk }) E s)
    (X : XC s.heap C N WF N2 mN mW) (s1 : mN "__setattr__" = none) (s2 : mW "__setattr__" = none) (h1 : mN a = none) (h2 : mW a = none) (hy : typeLookup (.type "Exception") a = pure none) (hxC : e ≠ C) (I : s.heap.Inst e C mA) (hw : Within mA ns) (hsz : ns.length ≤ 1000) :
    wpAny (model G.prog G.w) A (exec (.Assign [.Attribute (.Name x p1) a p2] ve p) env) Q E s := by
  refine wpAny_Assign_stores (wpAny_mono hv (fun v' s' hh => ?_) fun _ _ y => y) (swap_some (env := env) (t := .Attribute (.Name x p1) a p2) (l := p.line) c1) (swapped_none (by show (false && _) = false; rfl) rfl)
  obtain ⟨eh, is', k⟩ := hh
  rw [each_one rfl]
  show wpAny _ _ (assign _ env v') _ _ _
  rw [assign_Attribute]
  refine wpAny_bind (wpAny_holding (ldE is' hl hd (wpAny_bind (wpAny_standAt (wpAny_bind (wpAny_holding ?_))))))
  obtain ⟨hp, g, d, tk, os⟩ := s'
  have eh : hp = s.heap := eh
  subst eh
  exact xset X s1 s2 h1 h2 hy hxC I (fun h' tk' hS => wpAny_release (k tk' h' hS)) hw (by rw [sizeLine_eq]; omega)
end
end Mine
end
section
open Classical
namespace Mine
noncomputable abbrev xObj (C t2 : Addr) (dx : Option Addr) : Obj := { cls := .ref C, dict := dx, data := .fields #[.ref t2, .none, .none, .none, .bool false, .none] }
structure XMade (h h' : Heap) (e C : Addr) (mA : Str → Option Value) : Prop where
  keep : ∀ b o, b ≠ e → h.get? b = some o → h'.get? b = some o
  obj : ∃ dx t2, h'.get? e = some (xObj C t2 (some dx)) ∧ h.get? dx = none ∧ dx ≠ e ∧ h'.Ns1 dx mA
theorem xm_inst0 {h : Heap} {e C t2 : Addr} (he : h.get? e = some (xObj C t2 none)) : h.Inst e C fun _ => none := ⟨_, he, rfl, fun c q => (by cases q), .inl ⟨rfl, fun _ => rfl⟩⟩
theorem xm_first {h h' : Heap} {e C t2 : Addr} {a : Str} {v : Value} (he : h.get? e = some (xObj C t2 none)) (S : Stored h e C (fun _ => none) a v h') : XMade h h' e C fun y => if y = a then some v else none := by
  obtain ⟨⟨o, ho, hc, hnc, hd⟩, k, f, z⟩ := S
  refine ⟨fun b o' hb eb => k b o' hb (fun o₀ dx h₀ q => by rw [he] at h₀; cases h₀; cases q) eb, ?_⟩
  rcases hd with ⟨_, hn⟩ | ⟨d, hd, hne, hns⟩
  · have := hn a; simp at this
  · obtain ⟨o₁, e1, e2, e3, e4, _⟩ := f _ he
    rw [ho] at e1; cases e1
    have eo : o = xObj C t2 (some d) := by
      obtain ⟨oc, od, odt, osl⟩ := o
      dsimp only at hd e2 e3 e4
      subst hd e2 e3 e4; rfl
    subst eo
    exact ⟨d, t2, ho, z _ d he rfl ho, hne, hns⟩
theorem xm_next {h h₁ h' : Heap} {e C : Addr} {mA : Str → Option Value} {a : Str} {v : Value} (x : XMade h h₁ e C mA) (S : Stored h₁ e C mA a v h') : XMade h h' e C fun y => if y = a then some v else mA y := by
  obtain ⟨dx, t2, he, hn, hne, hns⟩ := x.obj
  obtain ⟨⟨o, ho, hc, hnc, hd⟩, k, f, z⟩ := S
  refine ⟨fun b o' hb eb => k b o' hb (fun o₀ d' h₀ q => by
    rw [he] at h₀; cases h₀; cases q
    intro e'; rw [e', hn] at eb; cases eb) (x.keep b o' hb eb), ?_⟩
  obtain ⟨o₁, e1, e2, e3, e4, e5⟩ := f _ he
  rw [ho] at e1; cases e1
  have e6 := e5 dx rfl
  have eo : o = xObj C t2 (some dx) := by
    obtain ⟨oc, od, odt, osl⟩ := o
    dsimp only at e6 e2 e3 e4
    subst e6 e2 e3 e4; rfl
  subst eo
  rcases hd with ⟨hd, _⟩ | ⟨d, hd, hne', hns'⟩
  · cases hd
  · cases hd; exact ⟨dx, t2, ho, hn, hne, hns'⟩
theorem XMade.inst {h h' : Heap} {e C : Addr} {mA : Str → Option Value} (x : XMade h h' e C mA) : h'.Inst e C mA := by
  obtain ⟨dx, t2, he, hn, hne, hns⟩ := x.obj
  exact ⟨_, he, rfl, fun c q => (by cases q), .inr ⟨dx, rfl, hne, hns⟩⟩
theorem none_back {h h' : Heap} {a : Addr} (k : ∀ o, h.get? a = some o → h'.get? a = some o) (e : h'.get? a = none) : h.get? a = none := by
  cases z : h.get? a with
  | none => rfl
  | some o => rw [k o z] at e; cases e
structure Quiet (m : Str → Option Value) : Prop where
  sa : m "__setattr__" = none
  ga : m "__getattribute__" = none
  gt : m "__getattr__" = none
  why : m (Str.ofString "why") = none
  at_ : m (Str.ofString "at") = none
  code : m (Str.ofString "code") = none
theorem lk_why : typeLookup (.type "Exception") (Str.ofString "why") = pure none := by rw [typeLookup_type, builtinLookup_eq_fast]; kernel_rfl
theorem lk_at : typeLookup (.type "Exception") (Str.ofString "at") = pure none := by rw [typeLookup_type, builtinLookup_eq_fast]; kernel_rfl
theorem lk_code : typeLookup (.type "Exception") (Str.ofString "code") = pure none := by rw [typeLookup_type, builtinLookup_eq_fast]; kernel_rfl
noncomputable abbrev self_ : Str := Str.ofString "self"
noncomputable abbrev why_ : Str := Str.ofString "why"
noncomputable abbrev at__ : Str := Str.ofString "at"
noncomputable abbrev code_ : Str := Str.ofString "code"
structure BodyW (f : Fn) : Prop where
  params : f.params = [self_, why_]
  dflt : f.dflt = []
  body : ∃ p1 p2 p3 p4 p5 p6 p7 p8 p9 p10 p11 p12 p13 p14 p15, (p2.endLine == p5.line) = true ∧ f.body = [.Expr (.Call (.Attribute (.Name (Str.ofString "Exception") p1) (Str.ofString "__init__") p2) [.Name self_ p3, .Name why_ p4] [] p5) p6,
    .Assign [.Attribute (.Name self_ p7) why_ p8] (.Name why_ p9) p10, .Assign [.Attribute (.Name self_ p11) at__ p12] (.UnaryOp .USub (.Constant (.int 1) 0 p13) p14) p15]
  sc : f.sc.lookup (Str.ofString "Exception") = some .globalImplicit
section
variable {G : Glo} {A : Around} {E : Value → Shared → Prop} {s : Shared} {e : Addr}
theorem initW (hlim : G.h₀.NoLimit) {C N WF N2 fW tt : Addr} {mN mW mb : Str → Option Value} {fn : Fn} {why : Str} {u : Tok} {Q : Value → Shared → Prop} (okf : FnOk G (.ref fW) fn) (bw : BodyW fn) (base : ∀ a o, G.h₀.get? a = some o → s.heap.get? a = some o)
    (hg : G.h₀.Ns mainGlobals G.mg) (hn : G.mg (Str.ofString "Exception") = none) (hb : G.h₀.Ns builtinsNs mb) (hv : mb (Str.ofString "Exception") = some (.type "Exception"))
    (X : XC G.h₀ C N WF N2 mN mW) (q1 : Quiet mN) (q2 : Quiet mW) (eC : ∀ o, G.h₀.get? e ≠ some o) (he : s.heap.get? e = some (xObj C tt none)) (hroom : A.depth < recursionLimit)
    (hq : ∀ h' tk u1 u2, XMade s.heap h' e C (fun y => if y = at__ then some (.int (-1) u1) else if y = why_ then some (.str why u2) else none) → Q .none { s with heap := h', toks := tk }) :
    wpAny (model G.prog G.w) A (call (.ref fW) [.ref e, .str why u]) Q E s := by
  refine enter (args := [.ref 0, .str why]) hlim okf (by rw [bw.params]; exact Nat.le_refl _) (by rw [bw.params]; exact Nat.le_add_right _ _) rfl base hroom fun env s' dvs hdv la => ?_
  obtain ⟨p1, p2, p3, p4, p5, p6, p7, p8, p9, p10, p11, p12, p13, p14, p15, hline, hbody⟩ := bw.body
  have eCC : e ≠ C := fun z => by
    obtain ⟨nm, qn, bs, sn, sub, col, dd, k0, k1, k2, k3, k5, hC⟩ := X.c
    exact eC _ (z ▸ hC)
  obtain ⟨h₁, t₁, rfl, tl⟩ := la.same
  have np : ∀ a, pOf env a → a ≠ e := fun a pa z => (la.p a pa).1 _ (z ▸ he)
  have is0 : Is G (W0 env e) h₁ env ⟨fn.sc, put (put [] why_ (.str why)) self_ (.ref 0)⟩ := by
    have := la.is (W0 env e) (fun b pb => W0_f.mpr pb) (by
      rw [bw.dflt]
      have : dvs = [] := by
        have := (hdv (W0 env e) h₁).length
        rw [bw.dflt] at this
        exact List.length_eq_zero_iff.mp this.symm
      rw [this]
      simp only [List.drop_nil, List.append_nil]
      refine ⟨by exact ⟨Nat.zero_lt_one, rfl⟩, ?_⟩
      exact ⟨V.str trivial, by trivial⟩)
    rw [bw.params, bw.dflt] at this
    exact this
  have hk : ∀ b o, G.h₀.get? b = some o → h₁.get? b = some o := fun b o q => la.keep b o (base b o q)
  have he1 : h₁.get? e = some (xObj C tt none) := la.keep _ _ he
  have lself : lk (put (put [] why_ (D.str why)) self_ (.ref 0)) self_ = some (.ref 0) := by rw [lk_put, if_pos rfl]
  have lwhy : lk (put (put [] why_ (D.str why)) self_ (.ref 0)) why_ = some (.str why) := by rw [lk_put, if_neg (by decide), lk_put, if_pos rfl]
  rw [hbody]
  have fin : ∀ h' tk u1 u2, XMade h₁ h' e C (fun y => if y = at__ then some (.int (-1) u1) else if y = why_ then some (.str why u2) else none) → Q .none { s with heap := h', toks := tk } := fun h' tk u1 u2 x =>
    hq h' tk u1 u2 ⟨fun b o hb eb => x.keep b o hb (la.keep b o eb), let ⟨dx, t2, a, b, c, d⟩ := x.obj; ⟨dx, t2, a, none_back (la.keep dx) b, c, d⟩⟩
  refine wpAny_execs_cons (wpAny_Expr_any ?_ (by unfold interactive; rw [la.kind]; rfl) (swap_none rfl))
  refine call_meth rfl rfl hline (ldB is0 bw.sc (by decide) (hg.keeps hk) hn (hb.keeps hk) hv fun pl => ?_)
  refine xm_type (hg.keeps hk) xm_exc_type xm_exc_stub xm_exc xm_handed ?_
  refine Calls.callWith_builtin rfl (Calls.evalArgs_plain (Calls.spliced_cons (ldE is0 lself (by decide) (Calls.spliced_cons (ldS is0 lwhy (by decide) fun u3 => Calls.spliced_nil ?_)))))
  refine xinit (X.keeps hk) (C := C) he1 fun h₂ t2 k₂ he2 => ?_
  have is2 : Is G (W0 env e) h₂ env ⟨fn.sc, put (put [] why_ (.str why)) self_ (.ref 0)⟩ := is0.frame fun a o pa q => k₂ a o (np a pa) q
  have hk2 : ∀ b o, G.h₀.get? b = some o → h₂.get? b = some o := fun b o q => k₂ b o (fun z => eC o (z ▸ q)) (hk b o q)
  refine wpAny_execs_cons (set_stmt (s := { s with heap := h₂, toks := t₁ + 1 }) (mA := fun _ => none) (ns := []) rfl is2 lself (by decide) (ldS (s := { s with heap := h₂, toks := t₁ + 1 }) is2 lwhy (by decide) fun u4 => ⟨rfl, is2, fun tk₃ h₃ S₃ => ?_⟩) (X.keeps hk2) q1.sa q2.sa q1.why q2.why lk_why eCC (xm_inst0 he2) Within.nil (Nat.zero_le _))
  have x₃ := xm_first he2 S₃
  have is3 : Is G (W0 env e) h₃ env ⟨fn.sc, put (put [] why_ (.str why)) self_ (.ref 0)⟩ := is2.frame fun a o pa q => x₃.keep a o (np a pa) q
  have hk3 : ∀ b o, G.h₀.get? b = some o → h₃.get? b = some o := fun b o q => x₃.keep b o (fun z => eC o (z ▸ q)) (hk2 b o q)
  refine wpAny_execs_cons (set_stmt (s := { s with heap := h₃, toks := tk₃ }) (mA := fun y => if y = why_ then some (.str why u4) else none) (ns := [why_]) rfl is3 lself (by decide)
    (UnaryOp_ (wpAny_Constant_int (PyProof.Rows.neg_int ⟨rfl, is3, fun tk₅ h₅ S₅ => ?_⟩))) (X.keeps hk3) q1.sa q2.sa q1.at_ q2.at_ lk_at eCC x₃.inst (Within.cons _ _ Within.nil) (by decide))
  refine wpAny_execs_nil ?_
  have x₅ := xm_next x₃ S₅
  exact fin h₅ tk₅ _ u4 ⟨fun b o hb eb => x₅.keep b o hb (k₂ b o hb eb), let ⟨dx, t3, a, b, c, d⟩ := x₅.obj; ⟨dx, t3, a, none_back (fun o q => k₂ dx o c q) b, c, d⟩⟩
end
end Mine
end
section
open Classical
namespace Mine
structure BodyR (f : Fn) : Prop where
  params : f.params = [self_, code_, why_]
  dflt : f.dflt = []
  body : ∃ p1 p2 p3 p4 p5 p6 p7 p8 p9 p10, (p2.endLine == p5.line) = true ∧ f.body = [.Expr (.Call (.Attribute (.Name (Str.ofString "WallFault") p1) (Str.ofString "__init__") p2) [.Name self_ p3, .Name why_ p4] [] p5) p6,
    .Assign [.Attribute (.Name self_ p7) code_ p8] (.Name code_ p9) p10]
  sc : f.sc.lookup (Str.ofString "WallFault") = some .globalImplicit
structure XAll (G : Glo) (C N WF N2 fR fW : Addr) (mN mW mb : Str → Option Value) (fnR fnW : Fn) (K : Frag) : Prop where
  cls : XC G.h₀ C N WF N2 mN mW
  q1 : Quiet mN
  q2 : Quiet mW
  gC : G.mg (Str.ofString "Refused") = some (.ref C)
  gW : G.mg (Str.ofString "WallFault") = some (.ref WF)
  gE : G.mg (Str.ofString "Exception") = none
  bns : G.h₀.Ns builtinsNs mb
  bE : mb (Str.ofString "Exception") = some (.type "Exception")
  iR : mN "__init__" = some (.ref fR)
  okR : FnOk G (.ref fR) fnR
  okW : FnOk G (.ref fW) fnW
  bR : BodyR fnR
  bW : BodyW fnW
  kin : K.In G.h₀
  kg : specialIn K (.ref WF) "__getattribute__" = some (some (.builtin "type.__getattribute__"))
  kr : readsIn K WF (.type "type") = true
  kf : findCls K (.ref WF) (.type "type") "__init__" = some (.val (.ref fW))
section
variable {G : Glo} {A : Around} {E : Value → Shared → Prop} {s : Shared} {e : Addr}
noncomputable abbrev xm3 (code why : Str) (u1 u2 u3 : Tok) : Str → Option Value := fun y => if y = code_ then some (.str code u3) else if y = at__ then some (.int (-1) u1) else if y = why_ then some (.str why u2) else none
theorem initR (hlim : G.h₀.NoLimit) (hg : G.h₀.Ns mainGlobals G.mg) {C N WF N2 fR fW tt : Addr} {mN mW mb : Str → Option Value} {fnR fnW : Fn} {K : Frag} (X : XAll G C N WF N2 fR fW mN mW mb fnR fnW K) {code why : Str} {u u' : Tok} {Q : Value → Shared → Prop} (base : ∀ a o, G.h₀.get? a = some o → s.heap.get? a = some o)
    (eC : ∀ o, G.h₀.get? e ≠ some o) (he : s.heap.get? e = some (xObj C tt none)) (hroom : A.depth + 1 < recursionLimit)
    (hq : ∀ h' tk u1 u2 u3, XMade s.heap h' e C (xm3 code why u1 u2 u3) → Q .none { s with heap := h', toks := tk }) :
    wpAny (model G.prog G.w) A (call (.ref fR) [.ref e, .str code u, .str why u']) Q E s := by
  refine enter (args := [.ref 0, .str code, .str why]) hlim X.okR (by rw [X.bR.params]; exact Nat.le_refl _) (by rw [X.bR.params]; exact Nat.le_add_right _ _) rfl base (by omega) fun env s' dvs hdv la => ?_
  obtain ⟨p1, p2, p3, p4, p5, p6, p7, p8, p9, p10, hline, hbody⟩ := X.bR.body
  have eCC : e ≠ C := fun z => by
    obtain ⟨nm, qn, bs, sn, sub, col, dd, k0, k1, k2, k3, k5, hC⟩ := X.cls.c
    exact eC _ (z ▸ hC)
  obtain ⟨h₁, t₁, rfl, tl⟩ := la.same
  have np : ∀ a, pOf env a → a ≠ e := fun a pa z => (la.p a pa).1 _ (z ▸ he)
  have is0 : Is G (W0 env e) h₁ env ⟨fnR.sc, put (put (put [] why_ (.str why)) code_ (.str code)) self_ (.ref 0)⟩ := by
    have := la.is (W0 env e) (fun b pb => W0_f.mpr pb) (by
      rw [X.bR.dflt]
      have : dvs = [] := by
        have := (hdv (W0 env e) h₁).length
        rw [X.bR.dflt] at this
        exact List.length_eq_zero_iff.mp this.symm
      rw [this]
      simp only [List.drop_nil, List.append_nil]
      refine ⟨by exact ⟨Nat.zero_lt_one, rfl⟩, ?_⟩
      refine ⟨V.str trivial, ?_⟩
      exact ⟨V.str trivial, by trivial⟩)
    rw [X.bR.params, X.bR.dflt] at this
    exact this
  have hk : ∀ b o, G.h₀.get? b = some o → h₁.get? b = some o := fun b o q => la.keep b o (base b o q)
  have he1 : h₁.get? e = some (xObj C tt none) := la.keep _ _ he
  have lself : lk (put (put (put [] why_ (D.str why)) code_ (.str code)) self_ (.ref 0)) self_ = some (.ref 0) := by rw [lk_put, if_pos rfl]
  have lcode : lk (put (put (put [] why_ (D.str why)) code_ (.str code)) self_ (.ref 0)) code_ = some (.str code) := by rw [lk_put, if_neg (by decide), lk_put, if_pos rfl]
  have lwhy : lk (put (put (put [] why_ (D.str why)) code_ (.str code)) self_ (.ref 0)) why_ = some (.str why) := by rw [lk_put, if_neg (by decide), lk_put, if_neg (by decide), lk_put, if_pos rfl]
  rw [hbody]
  refine wpAny_execs_cons (wpAny_Expr_any ?_ (by unfold interactive; rw [la.kind]; rfl) (swap_none rfl))
  refine call_meth rfl rfl hline (ldG is0 X.bR.sc (by decide) (hg.keeps hk) X.gW fun pl => ?_)
  refine method_cls (X.kin.keeps hk) X.kg (cls_value (X.kin.keeps hk) X.kr X.kf rfl ?_)
  obtain ⟨fw, fo, fd, ef, hfo, hfc, hfd, _⟩ := X.okW.ex
  cases ef
  refine Calls.callWith_function (Calls.evalArgs_plain (Calls.spliced_cons (ldE is0 lself (by decide) (Calls.spliced_cons (ldS is0 lwhy (by decide) fun u3 => Calls.spliced_nil ⟨⟨hk _ _ hfo, hfd⟩, ?_⟩)))))
  refine initW (tt := tt) hlim X.okW X.bW hk hg X.gE X.bns X.bE X.cls X.q1 X.q2 eC he1 (by show A.depth + 1 < _; exact hroom) fun h₂ tk₂ u1 u2 x₂ => ?_
  have is2 : Is G (W0 env e) h₂ env ⟨fnR.sc, put (put (put [] why_ (.str why)) code_ (.str code)) self_ (.ref 0)⟩ := is0.frame fun a o pa q => x₂.keep a o (np a pa) q
  have hk2 : ∀ b o, G.h₀.get? b = some o → h₂.get? b = some o := fun b o q => x₂.keep b o (fun z => eC o (z ▸ q)) (hk b o q)
  refine wpAny_execs_cons (set_stmt (s := { s with heap := h₂, toks := tk₂ }) (mA := fun y => if y = at__ then some (.int (-1) u1) else if y = why_ then some (.str why u2) else none) (ns := [at__, why_]) rfl is2 lself (by decide)
    (ldS (s := { s with heap := h₂, toks := tk₂ }) is2 lcode (by decide) fun u4 => ⟨rfl, is2, fun tk₃ h₃ S₃ => ?_⟩) (X.cls.keeps hk2) X.q1.sa X.q2.sa X.q1.code X.q2.code lk_code eCC x₂.inst (Within.cons _ _ (Within.cons _ _ Within.nil)) (by decide))
  refine wpAny_execs_nil ?_
  have x₃ := xm_next x₂ S₃
  exact hq h₃ tk₃ u1 u2 u4 ⟨fun b o hb eb => x₃.keep b o hb (la.keep b o eb), let ⟨dx, t3, a, b, c, d⟩ := x₃.obj; ⟨dx, t3, a, none_back (la.keep dx) b, c, d⟩⟩
theorem refused_made (hlim : G.h₀.NoLimit) (hg : G.h₀.Ns mainGlobals G.mg) {C N WF N2 fR fW : Addr} {mN mW mb : Str → Option Value} {fnR fnW : Fn} {K : Frag} (X : XAll G C N WF N2 fR fW mN mW mb fnR fnW K) {code why : Str} {u u' : Tok} {Q : Value → Shared → Prop} (base : ∀ a o, G.h₀.get? a = some o → s.heap.get? a = some o)
    (hroom : A.depth + 2 < recursionLimit)
    (hq : ∀ h' e dx t2 tk u1 u2 u3, s.heap.get? e = none → s.heap.get? dx = none → dx ≠ e → (∀ b o, s.heap.get? b = some o → h'.get? b = some o) → h'.get? e = some (xObj C t2 (some dx)) → h'.Ns1 dx (xm3 code why u1 u2 u3) → Q (.ref e) { s with heap := h', toks := tk }) :
    wpAny (model G.prog G.w) A (call (.ref C) [.str code u, .str why u']) Q E s := by
  obtain ⟨f, fo, fd, ef, hfo, hfc, _⟩ := X.okR.ex
  cases ef
  obtain ⟨hp, g, d, tk, os⟩ := s
  refine xnew_call (X.cls.keeps base) X.iR (base _ _ hfo) hfc (fun h' e fr => ?_) (by show 2 ≤ sizeLine; rw [sizeLine_eq]; omega)
  obtain ⟨tt, he⟩ := fr.there
  have eC : ∀ o, G.h₀.get? e ≠ some o := fun o q => by have := base _ _ q; rw [fr.new] at this; cases this
  refine initR (s := ⟨h', g, d, tk, os⟩) hlim hg X (fun a o q => fr.keeps _ _ (base a o q)) eC he (by rw [depth_under_make]; omega) fun h'' tk' u1 u2 u3 x => ⟨rfl, ?_⟩
  obtain ⟨dx, t2, a, b, c, dd⟩ := x.obj
  exact hq h'' e dx t2 tk' u1 u2 u3 fr.new (none_back (fr.keeps dx) b) c (fun b o q => x.keep b o (fun z => by rw [z, fr.new] at q; cases q) (fr.keeps b o q)) a dd
end
end Mine
end
section
open Classical
namespace Mine
structure BodyF (f : Fn) : Prop where
  params : f.params = [code_]
  dflt : f.dflt = []
  body : ∃ p1 p2 p3 p4 p5 p6 p7, f.body = [.Return (some (.Call (.Name (Str.ofString "Refused") p1) [.Name code_ p2, .Call (.Name (Str.ofString "words_of") p3) [.Name code_ p4] [] p5] [] p6)) p7]
  s1 : f.sc.lookup (Str.ofString "Refused") = some .globalImplicit
  s2 : f.sc.lookup (Str.ofString "words_of") = some .globalImplicit
structure XOk (G : Glo) : Prop where
  ex : ∃ C N WF N2 fR fW mN mW mb fnR fnW K vF fnF vw fnw, XAll G C N WF N2 fR fW mN mW mb fnR fnW K ∧ G.mg (Str.ofString "refused") = some vF ∧ FnOk G vF fnF ∧ BodyF fnF ∧ G.mg (Str.ofString "words_of") = some vw ∧ FnOk G vw fnw
section
variable {prog : Program} {w : World} {M : Model} {A : Around} {E : Value → Shared → Prop} {s : Shared} {env : Env}
theorem raise_x {x : Sem Value} {Q : Flow → Shared → Prop} (hh : A.handled = none)
    (h : wpAny M A x (fun v s₁ => ∃ e t2 dx C N WF N2 mN mW, v = .ref e ∧ XC s₁.heap C N WF N2 mN mW ∧ s₁.heap.get? e = some (xObj C t2 dx) ∧ E (.ref e) s₁) E s) :
    wpAny M A (raiseStmt env (some x) none) Q E s := by
  unfold raiseStmt
  refine wpAny_bind (wpAny_mono h (fun v s₁ h₁ => ?_) fun _ _ x => x)
  obtain ⟨e, t2, dx, C, N, WF, N2, mN, mW, rfl, X, he, hE⟩ := h₁
  obtain ⟨nm, qn, bs, sn, sub, col, dd, k0, k1, k2, k3, k5, hC⟩ := X.c
  obtain ⟨hp, g, d, tk, os⟩ := s₁
  repeat (first | with_reducible refine wpAny_loadPart_at he ?_ | with_reducible refine wpAny_loadPart_at hC ?_ | (with_reducible refine wpAny_isSubtype_exc hC ?_; rw [cB]) | wp_step)
  exact wpAny_raiseNew_none hh hE
theorem callWith_x {pos : Pos} {args : List (Bool × Sem Value)} {C N WF N2 : Addr} {mN mW : Str → Option Value} {Q : Value → Shared → Prop} (hplain : args.any (·.1) = false)
    (h : wpAny M A (evalArgs (.ref C) true args []) (fun a s₂ => a.kw = [] ∧ XC s₂.heap C N WF N2 mN mW ∧ wpAny M A (call (.ref C) a.pos) Q E s₂) E s) : wpAny M A (callWith pos (.ref C) [] args []) Q E s := by
  unfold callWith
  refine wpAny_bind (wpAny_holding (wpAny_mono h (fun a s₂ h₂ => wpAny_bind (wpAny_standAt ?_)) fun _ _ x => x))
  obtain ⟨apos, akw⟩ := a
  obtain ⟨hkw, X, h₂⟩ := h₂
  obtain rfl : akw = [] := hkw
  obtain ⟨nm, qn, bs, sn, sub, col, dd, k0, k1, k2, k3, k5, hC⟩ := X.c
  obtain ⟨hp, g, d, tk, os⟩ := s₂
  simp only [hplain]
  refine wpAny_bind (wpAny_keeperOf_exc hC ?_)
  exact wpAny_bind (wpAny_mono h₂ (fun v s₃ h₃ => wpAny_bind (wpAny_holding (wpAny_point (wpAny_pure h₃)))) fun _ _ x => x)
end
section
variable {cf : Cf} {G : Glo} {r : Ev} {A : Around} {n : Nat} {E : Value → Shared → Prop} {W : Wd} {sh : Sh} {s : Shared} {env : Env} {ρ : Loc} {X : KX}
theorem nameG {x : Str} {p : Pos} {v : Value} {Q : Value → Shared → Prop} (is : Is G W s.heap env ρ) (hg : s.heap.Ns mainGlobals G.mg) (hk : ρ.sc.lookup x = some .globalImplicit) (hd : dbg x = false) (hv : G.mg x = some v) (q : Q v s) : wpAny (model G.prog G.w) A (eval (.Name x p) env) Q E s :=
  Calls.Name_function_global is.kind (by show env.scope.names.lookup x = _; rw [is.names]; exact hk) (Calls.loadGlobal_global (by rw [is.glob]; exact hg) hv q) (dbg_out hd).1
theorem refused_call (ok : GOk cf G) (xo : XOk G) (hS : SC G r n) {code : Str} {u : Tok} {vF : Value} {Q : Value → Shared → Prop}
    (h : r.C (.glob (Str.ofString "words_of")) [.str code] sh (fun d sh => withO (strOf d) fun why => X code why sh) noX) (rm : RmL W s.heap A n) (room : A.depth + 10 < recursionLimit) (at_ : At G W sh s) (hF : G.mg (Str.ofString "refused") = some vF)
    (q : ∀ e C N WF N2 mN mW t2 dx why sh' W' h' tk, XC h' C N WF N2 mN mW → h'.get? e = some (xObj C t2 (some dx)) → X code why sh' → Le W s.heap W' h' → Kp W s.heap h' → Rep G W' sh'.tr h' → W'.n = sh'.n → Made G W' h' e code why → s.toks ≤ tk → Q (.ref e) { s with heap := h', toks := tk }) :
    wpAny (model G.prog G.w) A (call vF [.str code u]) Q E s := by
  obtain ⟨C, N, WF, N2, fR, fW, mN, mW, mb, fnR, fnW, K, vF', fnF, vw, fnw, XA, hF', okF, bF, hw, okw⟩ := xo.ex
  rw [hF] at hF'; cases hF'
  have R := at_.rep
  have base : ∀ a o, G.h₀.get? a = some o → s.heap.get? a = some o := fun a o e => (R.base a o e).2
  obtain ⟨p1, p2, p3, p4, p5, p6, p7, hbody⟩ := bF.body
  refine enter (args := [.str code]) ok.nolimit okF (by rw [bF.params]; exact Nat.le_refl _) (by rw [bF.params]; exact Nat.le_add_right _ _) rfl base (by omega) fun env s' dvs hdv la => ?_
  have la' := la
  obtain ⟨h₂, t₂, rfl, tl⟩ := la.same
  obtain ⟨at2, le2, kp2⟩ := at_.fram (p := pOf env) la.keep la.p tl
  have dv0 : dvs = [] := by
    have := (hdv W h₂).length
    rw [bF.dflt] at this
    exact List.length_eq_zero_iff.mp this.symm
  have is2 : Is G (W.fram (pOf env)) h₂ env ⟨fnF.sc, put [] code_ (.str code)⟩ := by
    have := la.is (W.fram (pOf env)) (fun b pb => if_pos pb) (by
      rw [bF.dflt, dv0]
      simp only [List.drop_nil, List.append_nil]
      exact ⟨V.str trivial, by trivial⟩)
    rw [bF.params, bF.dflt] at this
    exact this
  obtain ⟨m, hn, _⟩ := id is2.ns
  have rm2 : Rm (W.fram (pOf env)) h₂ (A.deeper env) n := rm.deep (fun l e => by
    obtain ⟨l', e', fr⟩ := rm.fr
    rw [e] at e'; cases e'
    exact fr.mono le2 kp2) la.kind la.frame (if_pos (.inl rfl)) hn
  have hg2 : h₂.Ns mainGlobals G.mg := ok.g.keeps fun b o e => la.keep b o (base b o e)
  have lcode : lk (put [] code_ (D.str code)) code_ = some (.str code) := by rw [lk_put, if_pos rfl]
  have ld : ∀ {s₁ : Shared} {p : Pos} {Q : Value → Shared → Prop} {E}, s₁.heap = h₂ → (∀ u, Q (.str code u) s₁) → wpAny (model G.prog G.w) (A.deeper env) (eval (.Name code_ p) env) Q E s₁ := fun {s₁} {p} {Q} {E} es k =>
    wpAny_Name (loadName_ok (W := W.fram (pOf env)) (ρ := ⟨fnF.sc, put [] code_ (.str code)⟩) lcode (by decide) (by rw [es]; exact is2) fun v hv => by obtain ⟨u, _, rfl⟩ := hv; exact k u) (by decide)
  rw [hbody]
  refine wpAny_execs_cons (wpAny_Return_some ?_)
  refine wpAny_Call_Name_kw (nameG (s := { s with heap := h₂, toks := t₂ }) is2 hg2 bF.s1 (by decide) XA.gC ?_)
  refine callWith_x (C := C) (N := N) (WF := WF) (N2 := N2) (mN := mN) (mW := mW) rfl (Calls.evalArgs_plain (Calls.spliced_cons (ld rfl fun u3 => Calls.spliced_cons ?_)))
  obtain ⟨fw, fo, fd, ef, hfo, hfc, hfd, _⟩ := okw.ex
  subst ef
  refine wpAny_Call_Name_kw (nameG (s := { s with heap := h₂, toks := t₂ }) is2 hg2 bF.s2 (by decide) hw ?_)
  refine Calls.callWith_function (Calls.evalArgs_plain (Calls.spliced_cons (ld rfl fun u4 => Calls.spliced_nil ⟨⟨la.keep _ _ (base _ _ hfo), hfd⟩, ?_⟩)))
  refine hS (.glob (Str.ofString "words_of")) [.str code] sh _ noX (A.deeper env) (W.fram (pOf env)) { s with heap := h₂, toks := t₂ } _ _ _ _ h ⟨rm2, at2⟩ (by exact hw) (by exact ⟨V.str trivial, by trivial⟩) (fun d sh' W₃ h₃ v t₃ k₃ l₃ p₃ r₃ n₃ hv₃ ht₃ => ?_) noX_ok
  obtain ⟨why, e3, k₃⟩ := someE k₃
  obtain rfl := strOf_out e3
  obtain ⟨u5, _, rfl⟩ := hv₃
  have base3 : ∀ a o, G.h₀.get? a = some o → h₃.get? a = some o := fun a o e => (r₃.base a o e).2
  refine Calls.spliced_nil ⟨rfl, XA.cls.keeps base3, ?_⟩
  refine wpAny_mono (wpAny_toks (refused_made (s := { s with heap := h₃, toks := t₃ }) (Q := fun v s' => ∃ e dx t2 h' tk u1 u2 u3, v = .ref e ∧ s' = { s with heap := h', toks := tk } ∧ h₃.get? e = none ∧ h₃.get? dx = none ∧ dx ≠ e ∧ (∀ b o, h₃.get? b = some o → h'.get? b = some o) ∧ h'.get? e = some (xObj C t2 (some dx)) ∧ h'.Ns1 dx (xm3 code why u1 u2 u3))
    ok.nolimit ok.g XA base3 (by show A.depth + 1 + 2 < _; omega) fun h' e dx t2 tk u1 u2 u3 a1 a2 a3 a4 a5 a6 => ⟨e, dx, t2, h', tk, u1, u2, u3, rfl, rfl, a1, a2, a3, a4, a5, a6⟩)) (fun v s' hh => ?_) fun _ _ y => y.2
  obtain ⟨tl4, e, dx, t2, h₄, tk, u1, u2, u3', rfl, rfl, a1, a2, a3, a4, a5, a6⟩ := hh
  have tl2 : t₂ ≤ t₃ := ht₃
  have tl3 : t₃ ≤ tk := tl4
  have stn : Stn W₃ W₃.n (W₃.own1 e W₃.n) h₃ h₄ := ⟨fun a o z => if_neg fun q : a = e => (by rw [q, a1] at z; cases z), fun a w z => by
    by_cases q : a = e
    · exact ⟨_, by rw [q]; exact a5⟩
    · have z : (if a = e then some (Own.t W₃.n) else W₃.own a) = some w := z
      rw [if_neg q] at z
      obtain ⟨o, ho⟩ := r₃.ownd a w z
      exact ⟨o, a4 a o ho⟩, fun a o z _ => ⟨.of (a4 a o z), fun _ => a4 a o z⟩, rfl, rfl⟩
  obtain ⟨R4, l4, p4⟩ := stn.out r₃ (Nat.le_refl _)
  have od : W₃.own dx = none := by
    cases z : W₃.own dx with
    | none => rfl
    | some w => obtain ⟨o, ho⟩ := r₃.ownd dx w z; rw [a2] at ho; cases ho
  refine q e C N WF N2 mN mW t2 dx why sh' _ h₄ tk (XA.cls.keeps fun b o z => a4 b o (base3 b o z)) a5 k₃ (le2.trans (l₃.trans l4)) (Kp.trans le2 kp2 (Kp.trans l₃ p₃ p4)) R4 n₃ ⟨C, t2, dx, W₃.n, _, XA.gC, Nat.le_refl _, if_pos rfl, ⟨_, _, a5, rfl, rfl, rfl, rfl, rfl, .inl rfl⟩, ?_, a6.ns, ⟨u3', if_pos rfl⟩, ⟨u2, ?_⟩⟩ (by omega)
  · show (if dx = e then some (Own.t W₃.n) else W₃.own dx) = none
    rw [if_neg a3]; exact od
  · show xm3 code why u1 u2 u3' why_ = _
    unfold xm3
    rw [if_neg (by decide), if_neg (by decide), if_pos rfl]
end
end Mine
end
section
open Classical
namespace Mine
section
variable {cf : Cf} {G : Glo} {r : Ev} {A : Around} {n : Nat} {E : Value → Shared → Prop} {W : Wd} {sh : Sh} {s : Shared} {env : Env} {ρ : Loc} {X : KX} {K : KB} {Q : Flow → Shared → Prop}
theorem raise_ok (ok : GOk cf G) (xo : XOk G) (S : Sound G r n) {f code : Str} {np p pos cpos : Pos} {k : Nat} (hf : (decide (f = Str.ofString "refused") && globN ρ f) = true)
    (h : r.C (.glob (Str.ofString "words_of")) [.str code] sh (fun d sh => withO (strOf d) fun why => X code why sh) noX) (top : TopN A env n) (st : S1 G W sh A n env ρ s) (qx : AfM G env W s X E) :
    wpAny (model G.prog G.w) A (exec (.Raise (some (.Call (.Name f np) [.Constant (.str code) k p] [] cpos)) none pos) env) Q E s := by
  simp only [Bool.and_eq_true, decide_eq_true_eq] at hf
  obtain ⟨rfl, hgl⟩ := hf
  unfold globN at hgl
  simp only [Bool.and_eq_true, decide_eq_true_eq] at hgl
  obtain ⟨hgl1, hgl2⟩ := hgl
  obtain ⟨C, N, WF, N2, fR, fW, mN, mW, mb, fnR, fnW, Kf, vF, fnF, vw, fnw, XA, hF, okF, bF, hw, okw⟩ := id xo.ex
  have base : ∀ a o, G.h₀.get? a = some o → s.heap.get? a = some o := fun a o e => (st.at_.rep.base a o e).2
  have hg : s.heap.Ns mainGlobals G.mg := ok.g.keeps base
  obtain ⟨ff, fo, fd, ef, hfo, hfc, hfd, _⟩ := id okF.ex
  subst ef
  have call : wpAny (model G.prog G.w) A (eval (.Call (.Name (Str.ofString "refused") np) [.Constant (.str code) k p] [] cpos) env)
      (fun v s₁ => ∃ e t2 dx C N WF N2 mN mW, v = .ref e ∧ XC s₁.heap C N WF N2 mN mW ∧ s₁.heap.get? e = some (xObj C t2 dx) ∧ E (.ref e) s₁) E s := by
    refine wpAny_Call_Name_kw (nameG st.is hg hgl2 (by decide) hF ?_)
    refine Calls.callWith_function (Calls.evalArgs_plain (Calls.spliced_cons (Calls.Constant_str (k := k) (pos := p) (Calls.spliced_nil ⟨⟨base _ _ hfo, hfd⟩, ?_⟩))))
    have st' : S1 G W sh A n env ρ { s with toks := s.toks + 1 } := st.step (h' := s.heap) Le.refl Kp.refl st.at_.rep st.at_.n (Nat.le_succ _)
    refine refused_call ok xo S.C h ⟨by have := top.2.1; omega, by have := top.2.2; omega, st.rm.hand, st.rm.fr⟩ (by have := top.2.1; omega) st'.at_ hF fun e C N WF N2 mN mW t2 dx why sh' W' h' tk Xc he hx l kp R n' made ht => ?_
    have ht' : s.toks + 1 ≤ tk := ht
    obtain ⟨m, hn, _⟩ := (st.is.mono l kp).ns
    exact ⟨e, t2, some dx, C, N, WF, N2, mN, mW, rfl, Xc, he, qx code why sh' W' h' e tk hx l R n' ⟨Kp.b kp, ⟨m, hn⟩, made⟩ (by show s.toks ≤ tk; omega)⟩
  rw [arm_exec_Raise]
  refine wpAny_bind (wpAny_standAt (raise_x st.rm.hand ?_))
  first
    | exact wpAny_bind (wpAny_mono call (fun v s₃ h₃ => wpAny_bind (wpAny_standAt (wpAny_pure h₃))) fun _ _ x => x)
    | exact call
end
end Mine
end
section
open Classical
namespace Mine
section
variable {cf : Cf} {G : Glo} {r : Ev} {A : Around} {n : Nat} {E : Value → Shared → Prop} {W : Wd} {sh : Sh} {s : Shared} {env : Env} {ρ : Loc} {X : KX} {K : KB} {Q : Flow → Shared → Prop}
theorem suite_ok {A : Around} {e C N WF N2 d t : Addr} {k : Nat} {mN mW md : Str → Option Value} {code why nm told : Str} {q1 q2 q3 q4 q5 q6 q7 : Pos} {kk : Nat} {Q : Flow → Shared → Prop} {E₁ : Value → Shared → Prop} {tr : List (Nat × T)} (R : Rep G W tr s.heap) (is : Is G W s.heap env ρ)
    (Xc : XC G.h₀ C N WF N2 mN mW) (qn : Quiet mN) (qw : Quiet mW) (oe : W.own e = some (.t k)) (ef : EF W k .none s.heap e C d t) (od : W.own d = none) (hd : s.heap.Ns d md) (hcode : ∃ u, md code_ = some (.str code u)) (hwhy : ∃ u, md why_ = some (.str why u))
    (h1 : ρ.sc.lookup told = some .local) (h2 : ρ.sc.lookup nm = some .local) (h3 : nm ≠ told) (h4 : lk ρ.lo nm = none) (h5 : dbg nm = false)
    (hq : ∀ h' tk m', s.toks ≤ tk → h'.Ns env.locals m' → Rep G W tr h' → Le W s.heap W h' → (∀ a o, a ≠ env.locals → s.heap.get? a = some o → h'.get? a = some o) → (∀ h'' v, h''.Ns env.locals (fun y => if y = nm then v else m' y) → Heap.SameBut env.locals h' h'' → Is G W h'' env ⟨ρ.sc, put ρ.lo told (.tup [.str code, .str why])⟩) → Q .next { s with heap := h', toks := tk }) :
    wpAny (model G.prog G.w) A (storeName env nm (.ref e)) (fun _ s₂ => wpAny (model G.prog G.w) A (execs [.Assign [.Name told q1] (.Tuple [.Attribute (.Name nm q2) code_ q3, .Attribute (.Name nm q4) why_ q5] kk q6) q7] env) Q E s₂) E₁ s := by
  have hp : (env.scope.kind == .class || (env.scope.kind == .module && env.locals != env.globals)) = false := by rw [is.kind]; rfl
  obtain ⟨m, hn, hm⟩ := is.ns
  have k1 : env.kindOf told = some .local := by show env.scope.names.lookup told = _; rw [is.names]; exact h1
  have k2 : env.kindOf nm = some .local := by show env.scope.names.lookup nm = _; rw [is.names]; exact h2
  refine wpAny_storeName_local k2 hn (fun h₄ hn₄ sb₄ => ?_) hp
  have neL : ∀ a w, W.own a = some w → w ≠ .f → a ≠ env.locals := fun a w z n q => n (Option.some.inj (z.symm.trans (q ▸ is.own)))
  have neE : e ≠ env.locals := neL e _ oe (by intro z; cases z)
  have neD : d ≠ env.locals := fun q => by rw [q, is.own] at od; cases od
  obtain ⟨oe', vs, he, hcls, hdict, hdat, hsz, hv0, _⟩ := ef.ex
  have he4 : h₄.get? e = some oe' := (sb₄.2 e neE).trans he
  have hd4 : h₄.Ns d md := hd.sameBut sb₄ neD
  obtain ⟨ob₄, hob₄⟩ : ∃ ob, h₄.get? env.locals = some ob := let ⟨o, _, _, z, _⟩ := hn₄; ⟨o, z⟩
  obtain ⟨R₄, l₄⟩ := R.updF is.own sb₄ hob₄
  have Xc4 : XC h₄ C N WF N2 mN mW := Xc.keeps fun b o z => (R₄.base b o z).2
  obtain ⟨u1, hu1⟩ := hcode
  obtain ⟨u2, hu2⟩ := hwhy
  have ld : ∀ {tk : Nat} {p : Pos} {Q : Value → Shared → Prop} {E}, Q (.ref e) { s with heap := h₄, toks := tk } → wpAny (model G.prog G.w) A (eval (.Name nm p) env) Q E { s with heap := h₄, toks := tk } := fun {tk} {p} {Q} {E} k =>
    wpAny_Name (wpAny_loadName_local is.kind k2 hn₄ (if_pos rfl) k) (dbg_out h5).1
  refine wpAny_execs_cons (wpAny_Assign_stores ?_ (by exact swap_some (env := env) (e := .Tuple [.Attribute (.Name nm q2) code_ q3, .Attribute (.Name nm q4) why_ q5] kk q6) (t := .Name told q1) (l := q7.line) rfl) (by exact swapped_none (env := env) (e := .Tuple [.Attribute (.Name nm q2) code_ q3, .Attribute (.Name nm q4) why_ q5] kk q6) (t := .Name told q1) rfl rfl))
  refine Tuple_ (Calls.spliced_cons (Attribute_any_ (ld ?_) rfl))
  refine xget Xc4 qn.code qw.code lk_code qn.ga qw.ga qn.gt qw.gt he4 hcls hdict hdat hd4 hu1 rfl ?_
  refine Calls.spliced_cons (Attribute_any_ (ld (tk := s.toks + 1 + 1) ?_) rfl)
  refine xget Xc4 qn.why qw.why lk_why qn.ga qw.ga qn.gt qw.gt he4 hcls hdict hdat hd4 hu2 rfl ?_
  refine Calls.spliced_nil (wpAny_newObj_type ?_)
  rw [each_one rfl]
  show wpAny _ _ (assign (.Name told q1) env _) _ _ _
  refine PySem.wpAny_assign_Name (wpAny_storeName_local k1 (hn₄.keeps fun a o z => push_keeps _ a o z) (fun h₆ hn₆ sb₆ => ?_) hp)
  refine wpAny_execs_nil ?_
  obtain ⟨ob₆, hob₆⟩ : ∃ ob, h₆.get? env.locals = some ob := let ⟨o, _, _, z, _⟩ := hn₆; ⟨o, z⟩
  have R₅ := R₄.push { cls := .type "tuple", data := .seq [Value.str code u1, Value.str why u2].toArray }
  obtain ⟨R₆, l₆⟩ := R₅.updF is.own sb₆ hob₆
  have l₅ : Le W h₄ W (h₄.push { cls := .type "tuple", data := .seq [Value.str code u1, Value.str why u2].toArray }) := Le.push _
  have kp : ∀ a o, a ≠ env.locals → s.heap.get? a = some o → h₆.get? a = some o := fun a o q z => (sb₆.2 a q).trans (push_keeps _ a o ((sb₄.2 a q).trans z))
  refine hq h₆ _ _ (by show s.toks ≤ s.toks + 1 + 1 + 1 + 1; omega) hn₆ R₆ (l₄.trans (l₅.trans l₆)) kp fun h₇ v hn₇ sb₇ => ?_
  obtain ⟨ob₇, hob₇⟩ : ∃ ob, h₇.get? env.locals = some ob := let ⟨o, _, _, z, _⟩ := hn₇; ⟨o, z⟩
  obtain ⟨R₇, l₇⟩ := R₆.updF is.own sb₇ hob₇
  have cell : ∀ {c : Addr} {v : Option Value}, c ≠ env.locals → s.heap.IsCell c v → h₇.IsCell c v := fun ne ⟨o, ho, hd⟩ => ⟨o, (sb₇.2 _ ne).trans (kp _ o ne ho), hd⟩
  have lA := (l₄.trans (l₅.trans l₆)).trans l₇
  refine ⟨is.kind, is.names, is.glob, is.blt, is.own, fun y c z => ⟨(is.cown y c z).1, let ⟨v, q⟩ := (is.cown y c z).2; ⟨v, cell (is.cellNe z) q⟩⟩, is.inj, is.cex, _, hn₇, fun y dd z => ?_⟩
  have z : lk (put ρ.lo told (.tup [.str code, .str why])) y = some dd := z
  rw [lk_put] at z
  by_cases hy : told = y
  · subst hy
    rw [if_pos rfl] at z; cases z
    refine .inl ⟨k1, _, (if_neg (Ne.symm h3)).trans (if_pos rfl), V.mono l₇ (V.mono l₆ (V.tupNew R₄.fresh (by exact ⟨V.str trivial, by exact ⟨V.str trivial, by trivial⟩⟩)))⟩
  · rw [if_neg hy] at z
    have ny : y ≠ nm := fun q => by rw [q, h4] at z; cases z
    rcases hm y dd z with ⟨b1, v', b2, b3⟩ | ⟨b1, c, v', b2, b3, b4⟩
    · exact .inl ⟨b1, v', (if_neg ny).trans ((if_neg (Ne.symm hy)).trans ((if_neg ny).trans b2)), V.mono lA b3⟩
    · exact .inr ⟨b1, c, v', b2, cell (is.cellNe b2) b3, V.mono lA b4⟩
end
end Mine
end
section
open Classical
namespace Mine
section
variable {cf : Cf} {G : Glo} {r : Ev} {A : Around} {n : Nat} {E : Value → Shared → Prop} {W : Wd} {sh : Sh} {s : Shared} {env : Env} {ρ : Loc} {X : KX} {K : KB} {Q : Flow → Shared → Prop}
theorem cutT_look {n k : Nat} {t : T} {tr : List (Nat × T)} : (cutT n tr).lookup k = some t → tr.lookup k = some t ∧ k < n := by
  induction tr with
  | nil => exact fun e => nos e
  | cons p tr ih =>
    obtain ⟨j, u⟩ := p
    intro e
    have e : (match decide (j < n) with | true => (j, u) :: cutT n tr | false => cutT n tr).lookup k = some t := e
    rw [List.lookup_cons]
    by_cases c : j < n
    · rw [decide_eq_true c] at e
      by_cases h : k = j
      · subst h
        rw [List.lookup_cons_self] at e
        rw [beq_self_eq_true]
        exact ⟨e, c⟩
      · rw [List.lookup_cons, beq_false_of_ne h] at e
        rw [beq_false_of_ne h]
        exact ih e
    · rw [decide_eq_false c] at e
      obtain ⟨e, l⟩ := ih e
      rw [beq_false_of_ne fun z : k = j => c (z ▸ l)]
      exact ⟨e, l⟩
theorem belowTr_look {n k : Nat} {t : T} {tr : List (Nat × T)} : belowTr n tr = true → tr.lookup k = some t → belowT n t = true := by
  induction tr with
  | nil => exact fun _ e => nos e
  | cons p tr ih =>
    intro b e
    obtain ⟨b1, b2⟩ := Bool.and_eq_true_iff.mp b
    by_cases h : k = p.1
    · subst h
      cases (List.lookup_cons_self (b := p.2)).symm.trans e
      exact b1
    · have e : (match k == p.1 with | true => some p.2 | false => tr.lookup k) = some t := (List.lookup_cons ..).symm.trans e
      rw [beq_false_of_ne h] at e
      exact ih b2 e
theorem Rep.low {W : Wd} {h : Heap} {tr : List (Nat × T)} {n : Nat} (R : Rep G W tr h) (b : belowTr n (cutT n tr) = true) : Rep G (W.low n) (cutT n tr) h where
  base := R.base
  ownd := R.ownd
  trk := fun k t e => by
    obtain ⟨e', l⟩ := cutT_look e
    obtain ⟨q1, q2, q3⟩ := R.trk k t e'
    exact ⟨l, by cases t <;> exact q2, TRa.both .low (fun _ x => x) (fun _ _ _ x => x) (.inr (belowTr_look b e)) q2 q3⟩
theorem cutK_out {n : Nat} {sh : Sh} {K : Sh → Prop} (h : cutK n sh K) : belowTr n (cutT n sh.tr) = true ∧ K { sh with tr := cutT n sh.tr, n := n } :=
  trueE h
theorem try_ok (ok : GOk cf G) (xo : XOk G) (S : Sound G r n) {f nm told : Str} {p pos epos cp hpos tpos q1 q2 q3 q4 q5 q6 q7 : Pos} {kk : Nat} {args : List Expr}
    (g1 : globN ρ (Str.ofString "Refused") = true) (g2 : ρ.sc.lookup told = some .local) (g3 : ρ.sc.lookup nm = some .local) (g4 : nm ≠ told) (g5 : lk ρ.lo nm = none) (g6 : noStar args = true) (g7 : dbg nm = false)
    (h : r.E (.Name f p) ρ sh fun fd sh => match callee cf fd args with
      | true => evL r args ρ sh fun ds sh => r.C fd ds sh (fun _ sh => nrmS sh (K .next ρ.lo)) (fun code why sh' => cutK sh.n sh' fun sh => nrmS sh (K .next (put ρ.lo told (.tup [.str code, .str why]))))
      | false => False) (top : TopN A env n) (st : S1 G W sh A n env ρ s) (q : AfB G W env ρ.sc s K Q) :
    wpAny (model G.prog G.w) A (exec (.Try [.Expr (.Call (.Name f p) args [] pos) epos] [.ExceptHandler (some (.Name (Str.ofString "Refused") cp)) (some nm) [.Assign [.Name told q1] (.Tuple [.Attribute (.Name nm q2) code_ q3, .Attribute (.Name nm q4) why_ q5] kk q6) q7] hpos] [] [] tpos) env) Q E s := by
  unfold globN at g1
  simp only [Bool.and_eq_true, decide_eq_true_eq] at g1
  obtain ⟨C, N, WF, N2, fR, fW, mN, mW, mb, fnR, fnW, Kf, vF, fnF, vw, fnw, XA, hF, okF, bF, hw, okw⟩ := id xo.ex
  have hp : (env.scope.kind == .class || (env.scope.kind == .module && env.locals != env.globals)) = false := by rw [st.is.kind]; rfl
  have k2 : env.kindOf nm = some .local := by show env.scope.names.lookup nm = _; rw [st.is.names]; exact g3
  refine wpAny_Try_except (wpAny_execs_cons (wpAny_Expr_any ?_ (by unfold interactive; rw [st.is.kind]; rfl) (swap_none rfl)))
  refine wpAny_Call_Name_kw (go S.E h st fun fd sh₁ W₁ h₁ fv t₁ k₁ st₁ l₁ p₁ hv₁ ht₁ => ?_)
  obtain ⟨hc, k₁⟩ := trueE k₁
  obtain ⟨cl, ne⟩ := callee_ok ok hc
  refine callWith_ok (first := []) (Q' := fun vs s₁ => wpAny (model G.prog G.w) A (call fv vs) _ _ s₁) S.E cl hv₁ (.inl rfl) k₁ g6 st₁ ne ?_ fun vs s₁ hk hq => hq
  intro ds sh₂ W₂ h₂ vs t₂ k₂ l₂ p₂ r₂ n₂ hv₂ ht₂
  have st₂ := st₁.step l₂ p₂ r₂ n₂ ht₂
  refine S.C fd ds sh₂ _ _ A W₂ _ fv vs _ _ k₂ st₂.s0 (V.mono l₂ hv₁) hv₂ (fun d sh₃ W₃ h₃ v t₃ k₃ l₃ p₃ r₃ n₃ hv₃ ht₃ => ?_) ?_
  ·
    rw [nrmS_eq] at k₃
    refine wpAny_execs_nil ?_
    refine wpAny_execs_nil ?_
    have st₃ := st₂.step l₃ p₃ r₃ n₃ ht₃
    exact ((q.step l₁ (Kp.b p₁) ht₁).step l₂ (Kp.b p₂) ht₂) .next ρ.lo sh₃ W₃ h₃ .next t₃ k₃ l₃ (Kp.b p₃) r₃ n₃ st₃.is rfl ht₃
  ·
    intro code why sh₃ W₃ h₃ e t₃ k₃ l₃ r₃ n₃ hm ht₃
    obtain ⟨bel, k₃⟩ := cutK_out k₃
    rw [nrmS_eq] at k₃
    obtain ⟨p₃, c, t, d, k, md, hc, hk, oe, ef, od, hd, hcode, hwhy⟩ := hm
    rw [XA.gC] at hc; cases hc
    have st₃ := st₂.step l₃ p₃ r₃ n₃ ht₃
    obtain ⟨⟨outer, hfr⟩, hloc⟩ := top.1
    have fr₃ : FrOk W₃ h₃ (env :: outer) := by
      obtain ⟨l, a, b⟩ := st₃.rm.fr
      rw [hfr] at a; cases a
      exact b
    refine note_ok (s := { s with heap := h₃, toks := t₃ }) r₃ hk hfr fr₃ hloc oe ef fun W₄ h₄ R₄ l₄ p₄ n₄ o₄ x₄ => ?_
    have hk₄ : W₄.n ≤ k := by rw [n₄]; exact hk
    refine land_ok (s := { s with heap := h₄, toks := t₃ }) R₄ hk₄ o₄ x₄ fun h₅ R₅ l₅ p₅ x₅ => ?_
    have is₅ : Is G W₄ h₅ env ρ := (st₃.is.mono l₄ p₄).mono l₅ p₅
    have base5 : ∀ a o, G.h₀.get? a = some o → h₅.get? a = some o := fun a o z => (R₅.base a o z).2
    refine wpAny_handleBy_cons (codeAny_handlers_test (nameG (s := { s with heap := h₅, toks := t₃ }) is₅ (ok.g.keeps base5) g1.2 (by decide) XA.gC ?_)) (by intro z; cases z)
    obtain ⟨nm', qn, bs, sn, sub, col, dd, k0, k1, k2', k3, k5, hC⟩ := XA.cls.c
    obtain ⟨oe', vs', he, hcls, hdict, hdat, hsz, hv0, hvT⟩ := id x₅.ex
    refine wpAny_excMatches_sub_self (base5 _ _ hC) he hcls (by rw [List.contains_cons]; rfl) ?_
    refine codeAny_handlers_suite_as ?_
    refine land_ok (s := { s with heap := h₅, toks := t₃ }) R₅ hk₄ o₄ x₅ fun h₆ R₆ l₆ p₆ x₆ => ?_
    have lA := l₄.trans (l₅.trans l₆)
    have pA := Kp.trans l₄ p₄ (Kp.trans l₅ p₅ p₆)
    have lB := l₃.trans lA
    have RL : Rep G (W₄.low W₂.n) (cutT W₂.n sh₃.tr) h₆ := R₆.low (by rw [n₂]; exact bel)
    have lL : Le W₂ h₂ (W₄.low W₂.n) h₆ := ⟨lB.fz, lB.fr, Nat.le_refl _, lB.ρ, lB.xx⟩
    have pL : Kp W₂ h₂ h₆ := Kp.trans l₃ p₃ pA
    have isL : Is G (W₄.low W₂.n) h₆ env ρ := st₂.is.mono lL pL
    have xL : EF (W₄.low W₂.n) k .none h₆ e C d t := let ⟨a, b, c1, c2, c3, c4, c5, c6, c7⟩ := x₆.ex; ⟨⟨a, b, c1, c2, c3, c4, c5, c6, c7⟩⟩
    have od₆ : W₄.own d = none ∧ h₆.Ns d md := by
      obtain ⟨o, es, ep, ho, z⟩ := hd
      obtain ⟨a, b⟩ := lA.fz d o od ho
      exact ⟨a, o, es, ep, b, z⟩
    refine suite_ok (s := { s with heap := h₆, toks := t₃ }) RL isL XA.cls XA.q1 XA.q2 (show (W₄.low W₂.n).own e = _ from o₄) xL od₆.1 od₆.2 hcode hwhy g2 g3 g4 g5 g7 fun h₇ tk m' htk hn₇ R₇ l₇ k₇ i₇ => ?_
    refine wpAny_nameGoes_keeps (s := { s with heap := h₇, toks := tk }) k2 hn₇ hp fun h₈ v hn₈ sb₈ => ?_
    have is₈ := i₇ h₈ v hn₈ sb₈
    obtain ⟨ob₈, hob₈⟩ : ∃ ob, h₈.get? env.locals = some ob := let ⟨o, _, _, z, _⟩ := hn₈; ⟨o, z⟩
    obtain ⟨R₈, l₈⟩ := R₇.updF isL.own sb₈ hob₈
    have htk' : t₃ ≤ tk := htk
    have kb : KpB env W₂ h₂ h₈ := fun a o z n1 n2 e' => by
      obtain ⟨o', z1, z2⟩ := pL a o z e'
      exact ⟨o', (sb₈.2 a n1).trans (k₇ a o' n1 z1), z2⟩
    rw [n₂] at R₈
    exact ((q.step l₁ (Kp.b p₁) ht₁).step l₂ (Kp.b p₂) ht₂) .next _ _ (W₄.low W₂.n) h₈ .next (tk + 1) k₃ (lL.trans (l₇.trans l₈)) kb (by rw [n₂]; exact R₈) n₂ is₈ rfl (by have : t₂ ≤ t₃ := ht₃; show t₂ ≤ tk + 1; omega)
theorem exc_sound (ok : GOk cf G) (xo : XOk G) : ExcSound cf G := by
  intro r n S st ρ sh K X A env W s Q E h st1 q qx
  obtain ⟨h, top⟩ := h
  cases h with
  | raise f code p1 p2 p3 p4 kk e g k => subst e; exact raise_ok ok xo S g k top st1 qx
  | tri f n told p pos epos cp hpos tpos q1 q2 q3 q4 q5 q6 q7 kk args e g1 g2 g3 g4 g5 g6 g7 k => subst e; exact try_ok ok xo S g1 g2 g3 g4 g5 g6 g7 k top st1 q
end
end Mine
end
namespace Mine
noncomputable abbrev bodyP : List Stmt := pw.main.body
theorem vl_nil {G : Glo} {W : Wd} {h : Heap} : VL G W h [] [] := trivial
theorem kinds_of {sc : Scope} {ps : List Str} (kd : (ps.all fun x => decide (sc.names.lookup x = some .local) || decide (sc.names.lookup x = some .cell)) = true) : ∀ x ∈ ps, sc.names.lookup x = some .local ∨ sc.names.lookup x = some .cell := fun x hx => by
  cases Bool.or_eq_true_iff.mp (List.all_eq_true.mp kd x hx) with
  | inl q => exact .inl (of_decide_eq_true q)
  | inr q => exact .inr (of_decide_eq_true q)
theorem fnOk_of {G : Glo} {a : Addr} {o : Obj} {fd : FuncData} {body : List Stmt} {sc : Scope} {ps : List Str} (h2 : G.h₀.get? a = some o) (hc : o.cls = .type "function") (h3 : o.data = .func fd) (hb : fd.body = .stmts body) (hs : fd.scope = sc)
    (k1 : sc.kind = .function) (k2 : sc.isGenerator = false) (k3 : sc.isCoroutine = false) (hg : fd.globals = mainGlobals) (hcl : fd.closure = []) (hbl : fd.builtins = builtinsNs) (hcd : G.h₀.CodeRec fd.code fd.qualname)
    (hbind : ∀ vals : List Value, vals.length = ps.length → bindArgs fd ⟨vals, []⟩ = pure (ps.zip vals)) (nd : ps.Nodup) (kd : ∀ x ∈ ps, sc.names.lookup x = some .local ∨ sc.names.lookup x = some .cell) :
    FnOk G (.ref a) ⟨ps, [], body, sc.names⟩ := by
  subst hs
  refine ⟨⟨a, o, fd, rfl, h2, hc, h3, hb, rfl, k1, k2, k3, hg, hcl, hbl, hcd, [], fun W h => vl_nil, fun s vals k hk hk0 hl => ?_⟩, nd, kd⟩
  obtain rfl : k = 0 := Nat.le_zero.mp hk0
  exact BindsTo.of_eq ((hbind vals hl).trans (congrArg (fun l => (pure (ps.zip l) : Sem (List (Str × Value)))) (List.append_nil vals).symm))
theorem len0 {l : List Value} (h : l.length = 0) : l = [] := List.length_eq_zero_iff.mp h
theorem len2 {l : List Value} (h : l.length = 2) : ∃ a b, l = [a, b] := by rcases l with _ | ⟨a, _ | ⟨b, _ | _⟩⟩ <;> first | exact ⟨_, _, rfl⟩ | (simp at h)
theorem len3 {l : List Value} (h : l.length = 3) : ∃ a b c, l = [a, b, c] := by rcases l with _ | ⟨a, _ | ⟨b, _ | ⟨c, _ | _⟩⟩⟩ <;> first | exact ⟨_, _, _, rfl⟩ | (simp at h)
theorem isFn_of {h h' : Heap} {x : Str} {a : Addr} {o : Obj} (hf : fnsB h = true) (hx : x ∈ defNames pw.main.body) (hc : classAt h x = some a) (k : ∀ b o, h.get? b = some o → h'.get? b = some o) (ho : h'.get? a = some o) : o.cls = .type "function" := by
  obtain ⟨f, e1, x1⟩ := anyE (List.all_eq_true.mp hf x hx)
  obtain ⟨o', e2, x2⟩ := anyE x1
  obtain rfl : a = f := Option.some.inj (hc.symm.trans e1)
  obtain rfl : o = o' := Option.some.inj (ho.symm.trans (k _ _ e2))
  exact eq_of_beq x2
end Mine
namespace Mine
theorem zip_lookup {ps : List Str} : ∀ {vals : List Value} {n : Str}, vals.length = ps.length → n ∈ ps → ((ps.zip vals).lookup n).isNone = false := by
  induction ps with
  | nil => exact fun _ h => (List.not_mem_nil h).elim
  | cons p ps ih =>
    intro vals n h m
    cases vals with
    | nil => cases h
    | cons v vals =>
      show (List.lookup n ((p, v) :: ps.zip vals)).isNone = false
      by_cases e : n = p
      · subst e; rw [List.lookup_cons_self]; rfl
      · rw [List.lookup_cons, beq_false_of_ne e]
        cases m with
        | head => exact absurd rfl e
        | tail _ q => exact ih (Nat.succ.inj h) q
theorem zip_filter {ps : List Str} : ∀ {vals : List Value}, vals.length = ps.length → ps.Nodup → ∀ {L : List (Str × Value)}, (∀ n ∈ ps, L.lookup n = (ps.zip vals).lookup n) → ps.filterMap (fun n => (L.lookup n).map (n, ·)) = ps.zip vals := by
  induction ps with
  | nil => exact fun _ _ _ _ => rfl
  | cons p ps ih =>
    intro vals h nd L hL
    cases vals with
    | nil => cases h
    | cons v vals =>
      have e : L.lookup p = some v := (hL p (List.mem_cons_self ..)).trans List.lookup_cons_self
      obtain ⟨nd1, nd2⟩ := List.nodup_cons.mp nd
      rw [List.filterMap_cons, e]
      refine congrArg ((p, v) :: ·) (ih (Nat.succ.inj h) nd2 fun n hn => ?_)
      rw [hL n (List.mem_cons_of_mem _ hn)]
      exact (List.lookup_cons ..).trans (by rw [beq_false_of_ne fun q : n = p => nd1 (q ▸ hn)]; rfl)
noncomputable abbrev argN (as : List Arg) : List Str := as.map fun a => a.arg
theorem bind_plain {fd : FuncData} {as : List Arg} {vals : List Value} (hp : fd.params = { posonlyargs := [], args := as, vararg := none, kwonlyargs := [], kw_defaults := [], kwarg := none, defaults := [] })
    (hd : fd.defaults = .none) (nd : (argN as).Nodup) (hl : vals.length = (argN as).length) : bindArgs fd ⟨vals, []⟩ = pure ((argN as).zip vals) := by
  obtain ⟨n, qn, pr, bd, fsc, gl, cl, df, kw, dc, pm, cd, bl⟩ := fd
  cases hp
  cases hd
  have f1 : (argN as ++ []).filterMap (fun n => (((argN as).zip vals).lookup n).map (n, ·)) = (argN as).zip vals := by
    rw [List.append_nil]; exact zip_filter (ps := argN as) hl nd (fun n _ => rfl)
  have f2 : ∀ k, List.filter (fun n => (((argN as).zip vals).lookup n).isNone) ((argN as).take k) = [] := fun k =>
    List.filter_eq_nil_iff.mpr fun n hn => by rw [zip_lookup hl (List.mem_of_mem_take hn)]; decide
  have f3 : (decide (vals.length > (argN as).length) && true) = false := by rw [hl, decide_eq_false (Nat.lt_irrefl _)]; rfl
  refine Eq.trans (if_neg (c := (decide (vals.length > (argN as).length) && true) = true) (by rw [f3]; exact Bool.false_ne_true)) ?_
  refine Eq.trans (if_neg (c := (!(List.filter (fun n => (((argN as).zip vals).lookup n).isNone) ((argN as).take ((argN as).length - (List.drop (0 - (argN as).length) ([] : List Value)).length))).isEmpty) = true) (by rw [f2]; exact Bool.false_ne_true)) ?_
  have f5 : ((argN as).drop ((argN as).length - (List.drop (0 - (argN as).length) ([] : List Value)).length)).zip (List.drop (0 - (argN as).length) ([] : List Value)) = [] := by rw [List.drop_nil, List.zip_nil_right]
  show ((forIn (β := List (Str × Value)) (m := Sem) (((argN as).drop ((argN as).length - (List.drop (0 - (argN as).length) ([] : List Value)).length)).zip (List.drop (0 - (argN as).length) ([] : List Value))) ((argN as).zip vals) _) >>= _) = _
  rw [f5]
  exact congrArg (fun b => (pure b : Sem (List (Str × Value)))) f1
noncomputable def plain0 (ps : Arguments) : Bool := ps.posonlyargs.isEmpty && ps.vararg.isNone && ps.kwonlyargs.isEmpty && ps.kw_defaults.isEmpty && ps.kwarg.isNone && ps.defaults.isEmpty
noncomputable def plainQ (ps : Arguments) : Bool := ps.posonlyargs.isEmpty && ps.vararg.isNone && ps.kwonlyargs.isEmpty && ps.kw_defaults.isEmpty && ps.kwarg.isNone
theorem plainQ_out {ps : Arguments} (h : plainQ ps = true) : ps = { posonlyargs := [], args := ps.args, vararg := none, kwonlyargs := [], kw_defaults := [], kwarg := none, defaults := ps.defaults } := by
  obtain ⟨a, b, c, d, e, f, g⟩ := ps
  obtain ⟨h, h5⟩ := Bool.and_eq_true_iff.mp h
  obtain ⟨h, h4⟩ := Bool.and_eq_true_iff.mp h
  obtain ⟨h, h3⟩ := Bool.and_eq_true_iff.mp h
  obtain ⟨h1, h2⟩ := Bool.and_eq_true_iff.mp h
  cases List.isEmpty_iff.mp h1
  cases Option.isNone_iff_eq_none.mp h2
  cases List.isEmpty_iff.mp h3
  cases List.isEmpty_iff.mp h4
  cases Option.isNone_iff_eq_none.mp h5
  rfl
theorem plain0_out {ps : Arguments} (h : plain0 ps = true) : ps = { posonlyargs := [], args := ps.args, vararg := none, kwonlyargs := [], kw_defaults := [], kwarg := none, defaults := [] } := by
  obtain ⟨h, h6⟩ := Bool.and_eq_true_iff.mp h
  exact (plainQ_out h).trans (congrArg (fun l => ({ posonlyargs := [], args := ps.args, vararg := none, kwonlyargs := [], kw_defaults := [], kwarg := none, defaults := l } : Arguments)) (List.isEmpty_iff.mp h6))
noncomputable def frameB (ps : Arguments) (sc : Scope) : Bool := sc.kind == .function && !sc.isGenerator && !sc.isCoroutine && nodupS (ps.args.map (·.arg)) && ((ps.args.map (·.arg)).all fun y => decide (sc.names.lookup y = some .local) || decide (sc.names.lookup y = some .cell))
structure FrameB (ps : Arguments) (sc : Scope) : Prop where
  k1 : sc.kind = .function
  k2 : sc.isGenerator = false
  k3 : sc.isCoroutine = false
  nd : (ps.args.map (·.arg)).Nodup
  kd : ∀ x ∈ ps.args.map (·.arg), sc.names.lookup x = some .local ∨ sc.names.lookup x = some .cell
theorem frame_of {ps : Arguments} {sc : Scope} (h : frameB ps sc = true) : FrameB ps sc := by
  obtain ⟨h, kd⟩ := Bool.and_eq_true_iff.mp h
  obtain ⟨h, nd⟩ := Bool.and_eq_true_iff.mp h
  obtain ⟨h, k3⟩ := Bool.and_eq_true_iff.mp h
  obtain ⟨k1, k2⟩ := Bool.and_eq_true_iff.mp h
  exact ⟨eq_of_beq k1, notT k2, notT k3, nodup_of nd, kinds_of kd⟩
noncomputable def plainD (d : DefRec) (x : Str) : Bool := plain0 d.params && frameB d.params d.scope && (defNames pw.main.body).contains x
noncomputable def viaDef (x : Str) : Option (Fn × Bool) := (defOf qv x).bind fun p => match p.2 with
  | [] => some (fnT p.1.params p.1.body p.1.scope, plainD p.1 x)
  | _ :: _ => none
theorem via_all : (fnsA bodyP).map (fun p => viaDef p.1) = (fnsA bodyP).map (fun p => some (fnT p.2.1 p.2.2.1 p.2.2.2, true)) := by kernel_rfl
inductive ViaE (x : Str) (fn : Fn) : Prop
  | mk (d : DefRec) (hd : defOf qv x = some (d, [])) (e : fnT d.params d.body d.scope = fn) (pl : plainD d x = true) : ViaE x fn
theorem via_of {x : Str} {fn : Fn} (h : fnIn bodyP x = some fn) : ViaE x fn := by
  obtain ⟨p, e1, rfl⟩ := map_out h
  obtain rfl : p.1 = x := of_decide_eq_true (List.find?_some (p := fun p : Str × Arguments × List Stmt × Scope => decide (p.1 = x)) e1)
  have v := List.map_inj_left.mp via_all p (List.mem_of_find?_eq_some e1)
  obtain ⟨⟨d, kw⟩, e2, v⟩ := Option.bind_eq_some_iff.mp v
  cases kw with
  | cons _ _ => exact nos v
  | nil =>
    obtain ⟨a, b⟩ := Prod.mk.inj (Option.some.inj v)
    exact ⟨d, e2, a, b⟩
theorem fn_ok {loose R XP w s₀ mg mb h} (Gr : Ground qv loose R XP w s₀ mg mb h) {G : Glo} (e1 : G.h₀ = h) (e2 : G.mg = mg) (hf : fnsB s₀.heap = true)
    (keeps : ∀ b o, s₀.heap.get? b = some o → h.get? b = some o) {x : Str} {fn : Fn} (hx : fnIn bodyP x = some fn) : ∃ v, G.mg x = some v ∧ FnOk G v fn := by
  subst e1 e2
  obtain ⟨d, hd, rfl, pl⟩ := via_of hx
  obtain ⟨pl, mem⟩ := Bool.and_eq_true_iff.mp pl
  obtain ⟨hp, fr⟩ := Bool.and_eq_true_iff.mp pl
  obtain ⟨k1, k2, k3, nd, kd⟩ := frame_of fr
  have hpar := plain0_out hp
  obtain ⟨a, o, pm, cd, doc, dV, kV, f1, f2, f3, f4, f5⟩ := Gr.fn hd
  have ho := isFn_of hf (List.contains_iff_mem.mp mem) ((Gr.cls x a).mpr f1) keeps f2
  have d1 : dV = .none := by
    rcases f5.pos with ⟨_, q⟩ | ⟨q, _⟩
    · exact q
    · rw [hpar] at q; exact absurd rfl q
  refine ⟨_, f1, ?_⟩
  rw [show fnT d.params d.body d.scope = ⟨d.params.args.map (·.arg), [], d.body, d.scope.names⟩ from congrArg (fun l => Fn.mk (argN d.params.args) (dfltD l) d.body d.scope.names) (congrArg Arguments.defaults hpar : d.params.defaults = [])]
  exact fnOk_of (ps := d.params.args.map (·.arg)) f2 ho f3 rfl rfl k1 k2 k3 rfl rfl rfl f4 (fun vals hl => bind_plain hpar d1 nd hl) nd kd
end Mine
namespace Mine
theorem refV_out {v : Option Value} {c : Addr} (h : refV v = some c) : v = some (.ref c) := by
  cases v with
  | none => exact nos h
  | some v => cases v <;> first | (cases h; rfl) | exact nos h
theorem strVl_out {v : Value} {x : Str} (h : strVl v = some x) : ∃ t, v = .str x t := by
  cases v <;> first | (cases h; exact ⟨_, rfl⟩) | exact nos h
theorem fldD_out {d : Data} {vs : Array Value} (h : fldD d = some vs) : d = .fields vs := by
  cases d <;> first | (cases h; rfl) | exact nos h
theorem seqD_out {d : Data} {vs : Array Value} (h : seqD d = some vs) : ∃ n, d = .seq vs n := by
  cases d <;> first | (cases h; exact ⟨_, rfl⟩) | exact nos h
theorem funD_out {d : Data} {vs : FuncData} (h : funD d = some vs) : d = .func vs := by
  cases d <;> first | (cases h; rfl) | exact nos h
theorem clsD_out {d : Data} {vs : ClassData} (h : clsD d = some vs) : d = .cls vs := by
  cases d <;> first | (cases h; rfl) | exact nos h
theorem code_of {h : Heap} {cd : Value} {q : Str} (x : codeB h cd q = true) : h.CodeRec cd q := by
  obtain ⟨c, e1, x⟩ := anyE x
  obtain ⟨o, e2, x⟩ := anyE x
  obtain ⟨vs, e3, x⟩ := anyE x
  obtain ⟨v, e4, x⟩ := anyE x
  obtain ⟨y, e5, x⟩ := anyE x
  obtain ⟨t, rfl⟩ := strVl_out e5
  obtain rfl := of_decide_eq_true x
  exact ⟨c, o, vs, t, Option.some.inj (refV_out e1), e2, fldD_out e3, e4⟩
theorem six {sl : Array (Option Value)} {v : String} (a : sl.size = 6) (b : sl[4]? = some (some (.builtin v))) : ∃ k0 k1 k2 k3 k5, sl = #[k0, k1, k2, k3, some (.builtin v), k5] := by
  obtain ⟨l⟩ := sl
  have b : l[4]? = some (some (.builtin v)) := List.getElem?_toArray.symm.trans b
  have a : l.length = 5 + 1 := a
  obtain ⟨x0, l, rfl⟩ := List.exists_cons_of_length_eq_add_one a
  obtain ⟨x1, l, rfl⟩ := List.exists_cons_of_length_eq_add_one (Nat.succ.inj a : l.length = 4 + 1)
  obtain ⟨x2, l, rfl⟩ := List.exists_cons_of_length_eq_add_one (Nat.succ.inj (Nat.succ.inj a) : l.length = 3 + 1)
  have a : l.length = 3 := Nat.add_right_cancel (m := 3) a
  obtain ⟨x3, l, rfl⟩ := List.exists_cons_of_length_eq_add_one a
  obtain ⟨x4, l, rfl⟩ := List.exists_cons_of_length_eq_add_one (Nat.succ.inj a : l.length = 1 + 1)
  obtain ⟨x5, rfl⟩ := List.length_eq_one_iff.mp (Nat.succ.inj (Nat.succ.inj a) : l.length = 1)
  obtain rfl : x4 = some (.builtin v) := Option.some.inj b
  exact ⟨_, _, _, _, _, rfl⟩
inductive InitAt (h : Heap) (want : List Value) (f : Addr) (b : FuncBody) (sc : Scope) (ps : Arguments) : Prop
  | mk (o : Obj) (fd : FuncData) (ho : h.get? f = some o) (hc : o.cls = .type "function") (hd : o.data = .func fd) (e1 : fd.globals = mainGlobals) (e2 : fd.closure = []) (e3 : fd.builtins = builtinsNs) (e4 : h.CodeRec fd.code fd.qualname) (e5 : dfltB h fd.defaults want = true) (e6 : fd.body = b) (e7 : fd.scope = sc) (e8 : fd.params = ps) : InitAt h want f b sc ps
theorem init_of {h : Heap} {want : List Value} {v : Option Value} {b sc ps} (x : initB h want v = true) (y : initL h v = some (b, sc, ps)) : ∃ f, v = some (.ref f) ∧ InitAt h want f b sc ps := by
  obtain ⟨f, e1, x⟩ := anyE x
  obtain ⟨o, e2, x⟩ := anyE x
  obtain ⟨fd, e3, x⟩ := anyE x
  have y : ((refV v).bind fun f => (h.get? f).bind fun o => (funD o.data).map fun fd => (fd.body, fd.scope, fd.params)) = some (b, sc, ps) := y
  rw [e1, Option.bind_some, e2, Option.bind_some, e3] at y
  cases y
  obtain ⟨x, x7⟩ := Bool.and_eq_true_iff.mp x
  obtain ⟨x, x6⟩ := Bool.and_eq_true_iff.mp x
  obtain ⟨x, x5⟩ := Bool.and_eq_true_iff.mp x
  obtain ⟨x, x4⟩ := Bool.and_eq_true_iff.mp x
  obtain ⟨x, x3⟩ := Bool.and_eq_true_iff.mp x
  obtain ⟨x1, x2⟩ := Bool.and_eq_true_iff.mp x
  exact ⟨f, refV_out e1, o, fd, e2, eq_of_beq x1, funD_out e3, eq_of_beq x2, List.isEmpty_iff.mp x3, eq_of_beq x4, code_of x5, x6, rfl, rfl, rfl⟩
inductive ClsIs (h : Heap) (tail : List Value) (newId : String) (quiet : List Str) (want : List Value) (v : Option Value) (b : FuncBody) (sc : Scope) (ps : Arguments) : Prop
  | mk (C N : Addr) (mN : Str → Option Value) (f : Addr) (hv : v = some (.ref C)) (nm q : Str) (bs : List Value) (sn : _) (sub : _) (col : _) (dd : _) (k0 k1 k2 k3 k5 : Option Value) (hC : h.get? C = some (excClassObj nm q C N bs tail true sn sub false col dd k0 k1 k2 k3 k5 newId)) (hN : h.Ns N mN) (hq : ∀ a ∈ quiet, mN a = none) (hi : mN "__init__" = some (.ref f))
    (I : InitAt h want f b sc ps) (hns : ∀ o cd, h.get? C = some o → o.data = .cls cd → cd.ns = N) (em : mN = h.nsMap N) : ClsIs h tail newId quiet want v b sc ps
theorem exc_obj {o : Obj} {cd : ClassData} {c : Addr} {tail : List Value} {newId : String} {k0 k1 k2 k3 k5 : Option Value} (hd : o.data = .cls cd) (x1 : o.cls = .type "type") (x2 : cd.mro = .ref c :: tail) (x3 : cd.hasDict = true) (x4 : cd.abstract = false) (x5 : cd.hasDel = false) (es : o.slots = #[k0, k1, k2, k3, some (.builtin newId), k5]) :
    ∃ nm q bs sn sub col dd, o = excClassObj nm q c cd.ns bs tail true sn sub false col dd k0 k1 k2 k3 k5 newId := by
  obtain ⟨k, dd, dat, sl⟩ := o
  obtain ⟨nm, bs, mro, ns, q, hd', sn, sub, ab, col, hdel⟩ := cd
  exact ⟨nm, q, bs, sn, sub, col, dd, by cases hd; cases x1; cases x2; cases x3; cases x4; cases x5; cases es; rfl⟩
theorem same_cls {h : Heap} {a : Addr} {o o' : Obj} {cd cd' : ClassData} (e2 : h.get? a = some o) (e3 : o.data = .cls cd) (e4 : h.get? a = some o') (e5 : o'.data = .cls cd') : cd'.ns = cd.ns := by
  obtain rfl : o = o' := Option.some.inj (e2.symm.trans e4)
  exact congrArg ClassData.ns (Data.cls.inj (e5.symm.trans e3))
theorem cls_of {h : Heap} {tail : List Value} {newId : String} {quiet : List Str} {want : List Value} {v : Option Value} {b sc ps} (x : clsB h tail newId quiet want v = true) (y : clsL h v = some (b, sc, ps)) : ClsIs h tail newId quiet want v b sc ps := by
  obtain ⟨c, e1, x⟩ := anyE x
  obtain ⟨o, e2, x⟩ := anyE x
  obtain ⟨cd, e3, x⟩ := anyE x
  have y : ((refV v).bind fun c => (h.get? c).bind fun o => (clsD o.data).bind fun cd => initL h (h.nsMap cd.ns "__init__")) = some (b, sc, ps) := y
  rw [e1, Option.bind_some, e2, Option.bind_some, e3] at y
  obtain ⟨x, xa⟩ := Bool.and_eq_true_iff.mp x
  obtain ⟨x, x9⟩ := Bool.and_eq_true_iff.mp x
  obtain ⟨x, x8⟩ := Bool.and_eq_true_iff.mp x
  obtain ⟨x, x7⟩ := Bool.and_eq_true_iff.mp x
  obtain ⟨x, x6⟩ := Bool.and_eq_true_iff.mp x
  obtain ⟨x, x5⟩ := Bool.and_eq_true_iff.mp x
  obtain ⟨x, x4⟩ := Bool.and_eq_true_iff.mp x
  obtain ⟨x, x3⟩ := Bool.and_eq_true_iff.mp x
  obtain ⟨x1, x2⟩ := Bool.and_eq_true_iff.mp x
  obtain ⟨f, e, I⟩ := init_of xa y
  obtain ⟨k0, k1, k2, k3, k5, es⟩ := six (eq_of_beq x6) (eq_of_beq x7)
  have e3 := clsD_out e3
  obtain ⟨nm, q, bs, sn, sub, col, dd, eo⟩ := exc_obj e3 (eq_of_beq x1) (eq_of_beq x2) x3 (notT x4) (notT x5) es
  exact ⟨c, cd.ns, h.nsMap cd.ns, f, refV_out e1, nm, q, bs, sn, sub, col, dd, k0, k1, k2, k3, k5, e2.trans (congrArg some eo), .of_isNs x8, fun a ha => Option.isNone_iff_eq_none.mp (List.all_eq_true.mp x9 a ha), e, I, fun o' cd' e4 e5 => same_cls e2 e3 e4 e5, rfl⟩
end Mine
namespace Mine
noncomputable abbrev cChain : Str := Str.ofString "Chain"
noncomputable abbrev cTable : Str := Str.ofString "Table"
noncomputable abbrev iInit : Str := Str.ofString "__init__"
noncomputable def shapeC (ps : Arguments) : Bool := plainQ ps && decide (ps.args.map (·.arg) = [Str.ofString "self", Str.ofString "name", Str.ofString "base"]) && decide (ps.defaults.length = 1) && ps.defaults.all noneC
theorem noneC_out {e : Expr} (h : noneC e = true) : ∃ k p, e = .Constant .none k p := by
  cases e with
  | Constant c k p => cases c <;> first | exact ⟨k, p, rfl⟩ | exact Bool.noConfusion h
  | _ => exact Bool.noConfusion h
theorem map3 {α β : Type} {f : α → β} {l : List α} {x y z : β} (h : l.map f = [x, y, z]) : ∃ a b c, l = [a, b, c] ∧ f a = x ∧ f b = y ∧ f c = z := by
  cases l with
  | nil => cases h
  | cons a l => cases l with
    | nil => cases h
    | cons b l => cases l with
      | nil => cases h
      | cons c l => cases l with
        | nil => cases h; exact ⟨a, b, c, rfl, rfl, rfl, rfl⟩
        | cons _ _ => cases h
inductive ShapeC (ps : Arguments) : Prop
  | mk (a b c : _) (p1 p2 p3 : _) (u : Nat) (p : Pos) (e : ps = { posonlyargs := [], args := [⟨Str.ofString "self", a, p1⟩, ⟨Str.ofString "name", b, p2⟩, ⟨Str.ofString "base", c, p3⟩], vararg := none, kwonlyargs := [], kw_defaults := [], kwarg := none, defaults := [.Constant .none u p] }) : ShapeC ps
theorem shapeC_out {ps : Arguments} (h : shapeC ps = true) : ShapeC ps := by
  obtain ⟨h, h4⟩ := Bool.and_eq_true_iff.mp h
  obtain ⟨h, h3⟩ := Bool.and_eq_true_iff.mp h
  obtain ⟨h1, h2⟩ := Bool.and_eq_true_iff.mp h
  obtain ⟨⟨n1, a1, p1⟩, ⟨n2, a2, p2⟩, ⟨n3, a3, p3⟩, e, rfl, rfl, rfl⟩ := map3 (of_decide_eq_true h2)
  obtain ⟨d, ed⟩ := List.length_eq_one_iff.mp (of_decide_eq_true h3)
  rw [ed] at h4
  obtain ⟨k, p, rfl⟩ := noneC_out (Bool.and_eq_true_iff.mp h4).1
  refine ⟨a1, a2, a3, p1, p2, p3, k, p, (plainQ_out h1).trans ?_⟩
  rw [e, ed]
noncomputable def plainC (x : Str) (ps : Arguments) (sc : Scope) (st : List Str) : Bool := frameB ps sc && ((decide (x = cChain) && shapeC ps && st.all chainA.contains) || (decide (x = cTable) && plain0 ps && st.all tableA.contains))
noncomputable def viaCls (x : Str) (st : List Str) : Option (Fn × Bool) := (clsText bodyP x).bind fun p => match p.1 with
  | .stmts b => some (fnT p.2.2 b p.2.1, plainC x p.2.2 p.2.1 st)
  | _ => none
noncomputable def clsA1 (p : Str × List Expr × List Stmt × List Str) : Option (Str × Fn × List Str) := match p.2.1 with
  | [] => (fnIn p.2.2.1 iInit).map fun f => (p.1, f, p.2.2.2)
  | _ :: _ => none
noncomputable def clsA (b : List Stmt) : List (Str × Fn × List Str) := (b.filterMap clsV).filterMap clsA1
theorem via_cls : (clsA bodyP).map (fun p => viaCls p.1 p.2.2) = (clsA bodyP).map (fun p => some (p.2.1, true)) := by kernel_rfl
inductive ClsTx (x : Str) (fn : Fn) (st : List Str) : Prop
  | mk (b : List Stmt) (sc : Scope) (ps : Arguments) (t : clsText bodyP x = some (.stmts b, sc, ps)) (e : fn = fnT ps b sc) (pl : plainC x ps sc st = true) : ClsTx x fn st
theorem cls_mem {x : Str} {fn : Fn} {st : List Str} (h : clsIn bodyP x = some (fn, st)) : (x, fn, st) ∈ clsA bodyP := by
  obtain ⟨⟨y, bases, body, sta⟩, e1, h⟩ := Option.bind_eq_some_iff.mp h
  obtain rfl : y = x := of_decide_eq_true (List.find?_some (p := fun p : Str × List Expr × List Stmt × List Str => decide (p.1 = x)) e1)
  refine List.mem_filterMap.mpr ⟨_, List.mem_of_find?_eq_some e1, ?_⟩
  cases bases with
  | cons _ _ => exact nos h
  | nil =>
    obtain ⟨f, e2, e3⟩ := map_out h
    cases e3
    exact congrArg (Option.map fun f => (y, f, sta)) e2
theorem cls_text {x : Str} {fn : Fn} {st : List Str} (h : clsIn bodyP x = some (fn, st)) : ClsTx x fn st := by
  have m := List.map_inj_left.mp via_cls (x, fn, st) (cls_mem h)
  obtain ⟨⟨b, sc, ps⟩, e, m⟩ := Option.bind_eq_some_iff.mp m
  cases b with
  | stmts b =>
    obtain ⟨a, b'⟩ := Prod.mk.inj (Option.some.inj m)
    exact ⟨b, sc, ps, e, a.symm, b'⟩
  | _ => exact nos m
section
variable {G : Glo} {h : Heap} {f : Addr} {b : List Stmt} {sc : Scope} {ps : Arguments} {want : List Value}
theorem init_plain (I : InitAt h [] f (.stmts b) sc ps) (keeps : ∀ a o, h.get? a = some o → G.h₀.get? a = some o) (hp : plain0 ps = true) (fr : frameB ps sc = true) : FnOk G (.ref f) (fnT ps b sc) := by
  obtain ⟨o, fd, hf, hc, hd, e1, e2, e3, e4, e5, e6, e7, e8⟩ := I
  obtain ⟨k1, k2, k3, nd, kd⟩ := frame_of fr
  have hpar := plain0_out hp
  rw [show fnT ps b sc = ⟨argN ps.args, [], b, sc.names⟩ from congrArg (fun l => Fn.mk (argN ps.args) (dfltD l) b sc.names) (congrArg Arguments.defaults hpar : ps.defaults = [])]
  exact fnOk_of (ps := argN ps.args) (keeps _ _ hf) hc hd e6 e7 k1 k2 k3 e1 e2 e3 (e4.keeps keeps) (fun vals hl => bind_plain (e8.trans hpar) (eq_of_beq e5) nd hl) nd kd
theorem vl_one {G : Glo} {W : Wd} {h : Heap} : VL G W h [.none] [.none] := ⟨rfl, trivial⟩
theorem init_chain (I : InitAt h [.none] f (.stmts b) sc ps) (keeps : ∀ a o, h.get? a = some o → G.h₀.get? a = some o) (hp : shapeC ps = true) (fr : frameB ps sc = true) : FnOk G (.ref f) (fnT ps b sc) := by
  obtain ⟨o, fd, hf, hc, hd, e1, e2, e3, e4, e5, e6, e7, e8⟩ := I
  obtain ⟨k1, k2, k3, nd, kd⟩ := frame_of fr
  obtain ⟨a1, a2, a3, p1, p2, p3, u, p, rfl⟩ := shapeC_out hp
  obtain ⟨T, d1, e5⟩ := anyE e5
  obtain ⟨oT, d2, e5⟩ := anyE e5
  obtain ⟨items, d3, e5⟩ := anyE e5
  obtain ⟨m, d3⟩ := seqD_out d3
  obtain rfl : items = #[.none] := Array.toList_inj.mp (eq_of_beq e5)
  have ed := Option.some.inj (refV_out d1)
  clear d1
  subst e7
  refine ⟨⟨f, o, fd, rfl, keeps _ _ hf, hc, hd, e6, rfl, k1, k2, k3, e1, e2, e3, e4.keeps keeps, [.none], fun W h => vl_one, fun s vals k hk hk0 hl => ?_⟩, nd, kd⟩
  have hl : vals.length + k = 3 := hl
  obtain ⟨nm, qn, pr, bd, fsc, gl, cl, df, kw, dc, pm, cd, bl⟩ := fd
  dsimp only at e8 ed
  subst e8
  rcases Nat.le_one_iff_eq_zero_or_eq_one.mp hk0 with rfl | rfl
  · obtain ⟨x, y, z, rfl⟩ := len3 hl
    exact BindsTo.of_defaults ed (hk _ _ (keeps _ _ d2)) d3 rfl rfl
  · obtain ⟨x, y, rfl⟩ := len2 (Nat.succ.inj hl)
    exact BindsTo.of_defaults ed (hk _ _ (keeps _ _ d2)) d3 rfl rfl
end
end Mine
namespace Mine
structure YaO (s : Shared) : Prop where
  y1 : chk s = true
  y2 : clsL s.heap (gv s "Chain") = clsText bodyP cChain
  y3 : clsL s.heap (gv s "Table") = clsText bodyP cTable
  y4 : clsL s.heap (gv s "WallFault") = clsText bodyP (Str.ofString "WallFault")
  y5 : clsL s.heap (gv s "Refused") = clsText bodyP (Str.ofString "Refused")
theorem ya_of {s : Shared} (h : yf s = ya) : YaO s := by
  obtain ⟨a, h⟩ := Prod.mk.inj h
  obtain ⟨b, h⟩ := Prod.mk.inj h
  obtain ⟨c, h⟩ := Prod.mk.inj h
  obtain ⟨d, e⟩ := Prod.mk.inj h
  exact ⟨a, b, c, d, e⟩
structure ChkO (s : Shared) : Prop where
  c0 : s.toks ≠ 0
  cs : ∃ o, s.heap.get? sysModules = some o
  c1 : fnsB s.heap = true
  c2 : clsB s.heap [.type "object"] "object.__new__" (qo ++ chainA) [.none] (gv s "Chain") = true
  c3 : clsB s.heap [.type "object"] "object.__new__" (qo ++ tableA) [] (gv s "Table") = true
  c4 : clsB s.heap bmX "Exception.__new__" qx [] (gv s "WallFault") = true
  c5 : clsB s.heap ((gv s "WallFault").getD .none :: bmX) "Exception.__new__" qx [] (gv s "Refused") = true
  c6 : wfB s.heap (gv s "WallFault") = true
theorem chk_of {s : Shared} (h : chk s = true) : ChkO s := by
  obtain ⟨h, f⟩ := Bool.and_eq_true_iff.mp h
  obtain ⟨h, e⟩ := Bool.and_eq_true_iff.mp h
  obtain ⟨h, d⟩ := Bool.and_eq_true_iff.mp h
  obtain ⟨h, c⟩ := Bool.and_eq_true_iff.mp h
  obtain ⟨h, b⟩ := Bool.and_eq_true_iff.mp h
  obtain ⟨h, a⟩ := Bool.and_eq_true_iff.mp h
  obtain ⟨z, zz⟩ := Bool.and_eq_true_iff.mp h
  exact ⟨bne_iff_ne.mp z, Option.isSome_iff_exists.mp zz, a, b, c, d, e, f⟩
theorem gv_ref {s : Shared} {x : String} {a : Addr} (h : gv s x = some (.ref a)) : classAt s.heap (Str.ofString x) = some a := by
  obtain ⟨b, e, q⟩ := Option.map_eq_some_iff.mp h
  cases q
  exact e
theorem obj_fast : (chainA ++ tableA).map (fastLookup "object") = (chainA ++ tableA).map (fun _ => some none) := by kernel_rfl
theorem objNone : ∀ a ∈ chainA ++ tableA, typeLookup (.type "object") a = pure none := fun a ha => by
  rw [typeLookup_type, builtinLookup_eq_fast, List.map_inj_left.mp obj_fast a ha]
noncomputable def freeB (x : Str) : Bool := !startupNames.contains x && !(looseW qv []).contains x && !((recsOf qv).map (·.name)).contains x && !((litsOf qv).map (·.1)).contains x && !((clssOf qv (looseW qv [])).map (·.name)).contains x && !decide (x = "__name__")
noncomputable def bltV (p : Bool × String) : Value := match p.1 with
  | true => .builtin p.2
  | false => .type p.2
theorem blt_free : bltT.all (fun p => freeB (Str.ofString p.2)) = true := by kernel_rfl
theorem blt_boot : bltT.map (fun p => bootBuiltins (Str.ofString p.2)) = bltT.map (fun p => some (bltV p)) := by kernel_rfl
theorem vb_blt (p : Bool × String) : VB (bltG p) (bltV p) := by
  obtain ⟨b, s⟩ := p
  cases b <;> rfl
theorem not_con {l : List Str} {x : Str} (h : (!l.contains x) = true) : x ∉ l := fun m => by rw [List.contains_iff_mem.mpr m] at h; cases h
section
variable {R : WRecords} {XP : (Str → Option Value) → Heap → Prop} {w : World} {s₀ : Shared} {mg mb : Str → Option Value} {h : Heap}
theorem blt_of (Gr : Ground qv [] R XP w s₀ mg mb h) {x : Str} (hx : freeB x = true) : mg x = none ∧ mb x = bootBuiltins x := by
  obtain ⟨hx, f⟩ := Bool.and_eq_true_iff.mp hx
  obtain ⟨hx, e⟩ := Bool.and_eq_true_iff.mp hx
  obtain ⟨hx, d⟩ := Bool.and_eq_true_iff.mp hx
  obtain ⟨hx, c⟩ := Bool.and_eq_true_iff.mp hx
  obtain ⟨a, b⟩ := Bool.and_eq_true_iff.mp hx
  exact ⟨Gr.T.free x (not_con a) (not_con b) (not_con c) (not_con d) (not_con e), Gr.T.builtins x (of_decide_eq_false (notT f))⟩
theorem bltD_of (Gr : Ground qv [] R XP w s₀ mg mb h) {x : Str} {d : D} (e : bltD x = some d) : mg x = none ∧ ∃ v, mb x = some v ∧ VB d v := by
  obtain ⟨p, e1, rfl⟩ := map_out e
  obtain rfl := of_decide_eq_true (List.find?_some (p := fun p : Bool × String => decide (x = Str.ofString p.2)) e1)
  have m := List.mem_of_find?_eq_some e1
  obtain ⟨a, b⟩ := blt_of Gr (List.all_eq_true.mp blt_free p m)
  exact ⟨a, _, b.trans (List.map_inj_left.mp blt_boot p m), vb_blt p⟩
variable {G : Glo}
inductive ClsG (G : Glo) (x : Str) (fn : Fn) (st : List Str) : Prop
  | mk (c N : Addr) (mN : Str → Option Value) (fI : Addr) (h1 : G.mg x = some (.ref c)) (h2 : ClsAt G.h₀ c N mN) (h3 : mN (Str.ofString "__init__") = some (.ref fI)) (h4 : FnOk G (.ref fI) fn) (h5 : mN (Str.ofString "__getattribute__") = none) (h6 : mN (Str.ofString "__setattr__") = none) (h7 : ∀ a ∈ st, mN a = none ∧ typeLookup (.type "object") a = pure none) : ClsG G x fn st
theorem cls_go {x : String} {l : List Str} {b : List Stmt} {sc : Scope} {ps : Arguments} {st : List Str} {want : List Value} (keeps : ∀ b o, s₀.heap.get? b = some o → G.h₀.get? b = some o) (I : ClsIs s₀.heap [.type "object"] "object.__new__" (qo ++ l) want (gv s₀ x) (.stmts b) sc ps) (hg : ∀ a, classAt s₀.heap (Str.ofString x) = some a → G.mg (Str.ofString x) = some (.ref a))
    (hl : ∀ a ∈ l, a ∈ chainA ++ tableA) (p3 : st.all l.contains = true) (F : ∀ f, InitAt s₀.heap want f (.stmts b) sc ps → FnOk G (.ref f) (fnT ps b sc)) : ClsG G (Str.ofString x) (fnT ps b sc) st := by
  obtain ⟨C, N, mN, f, hv, nm, q, bs, sn, sub, col, dd, k0, k1, k2, k3, k5, hC, hN, hq, hi, I, _, _⟩ := I
  refine ⟨C, N, mN, f, hg _ (gv_ref hv), ⟨⟨nm, q, bs, sn, sub, col, dd, k0, k1, k2, k3, k5, keeps _ _ hC⟩, hN.keeps keeps⟩, hi, F f I, hq _ (List.mem_append_left _ (List.mem_cons_of_mem _ (List.mem_cons_self ..))), hq _ (List.mem_append_left _ (List.mem_cons_self ..)), fun a ha => ?_⟩
  have ha := List.contains_iff_mem.mp (List.all_eq_true.mp p3 a ha)
  exact ⟨hq a (List.mem_append_right _ ha), objNone a (hl a ha)⟩
theorem cls_ok (Gr : Ground qv [] R XP w s₀ G.mg mb G.h₀) (hy : yf s₀ = ya) (keeps : ∀ b o, s₀.heap.get? b = some o → G.h₀.get? b = some o) {x : Str} {fn : Fn} {st : List Str} (hx : clsIn bodyP x = some (fn, st)) : ClsG G x fn st := by
  obtain ⟨y1, y2, y3, y4, y5⟩ := ya_of hy
  obtain ⟨c0, cs, c1, c2, c3, c4, c5, c6⟩ := chk_of y1
  obtain ⟨b, sc, ps, t, rfl, pl⟩ := cls_text hx
  obtain ⟨fr, pl⟩ := Bool.and_eq_true_iff.mp pl
  rcases Bool.or_eq_true_iff.mp pl with pl | pl
  · obtain ⟨pl, p3⟩ := Bool.and_eq_true_iff.mp pl
    obtain ⟨p1, p2⟩ := Bool.and_eq_true_iff.mp pl
    obtain rfl := of_decide_eq_true p1
    exact cls_go keeps (cls_of c2 (y2.trans t)) (fun a => (Gr.cls _ a).mp) (fun a => List.mem_append_left _) p3 fun f I => init_chain I keeps p2 fr
  · obtain ⟨pl, p3⟩ := Bool.and_eq_true_iff.mp pl
    obtain ⟨p1, p2⟩ := Bool.and_eq_true_iff.mp pl
    obtain rfl := of_decide_eq_true p1
    exact cls_go keeps (cls_of c3 (y3.trans t)) (fun a => (Gr.cls _ a).mp) (fun a => List.mem_append_right _) p3 fun f I => init_plain I keeps p2 fr
theorem gok (Gr : Ground qv [] R XP w s₀ G.mg mb G.h₀) (hy : yf s₀ = ya) (keeps : ∀ b o, s₀.heap.get? b = some o → G.h₀.get? b = some o) : GOk (cfOf bodyP) G := by
  have hfn : ∀ x fn, fnIn bodyP x = some fn → ∃ v, G.mg x = some v ∧ FnOk G v fn := fun x fn hx => fn_ok Gr rfl rfl (chk_of (ya_of hy).y1).c1 keeps hx
  refine ⟨Gr.T.g, ⟨mb, Gr.T.b, fun x d hd => ?_⟩, Gr.T.nolimit, hfn, fun x fn st hx => ?_⟩
  · have hd : (match (fnIn bodyP x).isSome || (clsIn bodyP x).isSome with
      | true => some (D.glob x)
      | false => bltD x) = some d := hd
    cases hb : (fnIn bodyP x).isSome || (clsIn bodyP x).isSome with
    | true =>
      rw [hb] at hd
      cases hd
      refine .inl ⟨rfl, ?_⟩
      rcases Bool.or_eq_true_iff.mp hb with hb | hb
      · obtain ⟨fn, e⟩ := Option.isSome_iff_exists.mp hb
        obtain ⟨v, hv, _⟩ := hfn x fn e
        exact ⟨v, hv⟩
      · obtain ⟨q, e⟩ := Option.isSome_iff_exists.mp hb
        obtain ⟨c, N, mN, fI, hv, _⟩ := cls_ok Gr hy keeps e
        exact ⟨_, hv⟩
    | false => rw [hb] at hd; exact .inr (bltD_of Gr hd)
  · obtain ⟨c, N, mN, fI, h1, h2, h3, h4, h5, h6, h7⟩ := cls_ok Gr hy keeps hx
    exact ⟨c, N, mN, fI, h1, h2, h3, h4, h5, h6, h7⟩
end
end Mine
namespace Mine
noncomputable def noFn : Fn := ⟨[], [], [], []⟩
noncomputable def stmtsV (b : FuncBody) : Option (List Stmt) := match b with
  | .stmts b => some b
  | _ => none
noncomputable def fnV (p : FuncBody × Scope × Arguments) : Option Fn := (stmtsV p.1).map fun b => fnT p.2.2 b p.2.1
noncomputable def fnTo (t : L3) : Fn := (t.bind fnV).getD noFn
noncomputable abbrev fnWF : Fn := fnTo (clsText bodyP (Str.ofString "WallFault"))
noncomputable abbrev fnRF : Fn := fnTo (clsText bodyP (Str.ofString "Refused"))
noncomputable abbrev fnFF : Fn := (fnIn bodyP (Str.ofString "refused")).getD noFn
noncomputable abbrev fnWO : Fn := (fnIn bodyP (Str.ofString "words_of")).getD noFn
noncomputable def at1 (l c d : Nat) : Pos := ⟨l, c, l, d⟩
theorem bodyW : BodyW fnWF := ⟨by kernel_rfl, by kernel_rfl, ⟨at1 80 8 17, at1 80 8 26, at1 80 27 31, at1 80 33 36, at1 80 8 37, at1 80 8 37, at1 81 8 12, at1 81 8 16, at1 81 19 22, at1 81 8 22, at1 82 8 12, at1 82 8 15, at1 82 19 20, at1 82 18 20, at1 82 8 20, by kernel_rfl, by kernel_rfl⟩, by kernel_rfl⟩
theorem bodyR : BodyR fnRF := ⟨by kernel_rfl, by kernel_rfl, ⟨at1 88 8 17, at1 88 8 26, at1 88 27 31, at1 88 33 36, at1 88 8 37, at1 88 8 37, at1 89 8 12, at1 89 8 17, at1 89 20 24, at1 89 8 24, by kernel_rfl, by kernel_rfl⟩, by kernel_rfl⟩
theorem bodyF : BodyF fnFF := ⟨by kernel_rfl, by kernel_rfl, ⟨at1 96 11 18, at1 96 19 23, at1 96 25 33, at1 96 34 38, at1 96 25 39, at1 96 11 40, at1 96 4 40, by kernel_rfl⟩, by kernel_rfl, by kernel_rfl⟩
theorem has_f : fnIn bodyP (Str.ofString "refused") = some fnFF := by kernel_rfl
theorem has_w : fnIn bodyP (Str.ofString "words_of") = some fnWO := by kernel_rfl
noncomputable def pl3 (t : L3) : Bool := anyO t fun p => anyO (stmtsV p.1) fun _ => plain0 p.2.2 && frameB p.2.2 p.2.1
theorem pl_w : pl3 (clsText bodyP (Str.ofString "WallFault")) = true := by kernel_rfl
theorem pl_r : pl3 (clsText bodyP (Str.ofString "Refused")) = true := by kernel_rfl
theorem stmtsV_out {b : FuncBody} {l : List Stmt} (h : stmtsV b = some l) : b = .stmts l := by
  cases b <;> first | (cases h; rfl) | exact nos h
inductive Pl3 (t : L3) : Prop
  | mk (b : List Stmt) (sc : Scope) (ps : Arguments) (e : t = some (.stmts b, sc, ps)) (h1 : plain0 ps = true) (h2 : frameB ps sc = true) (f : fnTo t = fnT ps b sc) : Pl3 t
theorem pl3_of {t : L3} (h : pl3 t = true) : Pl3 t := by
  obtain ⟨⟨x, sc, ps⟩, et, h⟩ := anyE h
  obtain ⟨b, e, h⟩ := anyE h
  subst et
  obtain rfl : x = .stmts b := stmtsV_out e
  obtain ⟨a, c⟩ := Bool.and_eq_true_iff.mp h
  exact ⟨b, sc, ps, rfl, a, c, rfl⟩
theorem quiet_of {m : Str → Option Value} (h : ∀ a ∈ qx, m a = none) : Quiet m := by
  obtain ⟨h1, h⟩ := List.forall_mem_cons.mp h
  obtain ⟨h2, h⟩ := List.forall_mem_cons.mp h
  obtain ⟨h3, h⟩ := List.forall_mem_cons.mp h
  obtain ⟨h4, h⟩ := List.forall_mem_cons.mp h
  obtain ⟨h5, h⟩ := List.forall_mem_cons.mp h
  obtain ⟨h6, h⟩ := List.forall_mem_cons.mp h
  exact ⟨h1, h2, h3, h4, h5, h6⟩
theorem frag_in {h h' : Heap} (k : ∀ b o, h.get? b = some o → h'.get? b = some o) (as : List Addr) : (fragOf h as).In h' := by
  induction as with
  | nil => exact fun a o m => nos m
  | cons b as ih =>
    intro a o m
    cases e : h.get? b with
    | none =>
      refine ih a o (Eq.trans (congrArg (List.lookup a) (Eq.symm ?_)) m)
      exact List.filterMap_cons_none (congrArg (Option.map fun o => (b, o)) e)
    | some o' =>
      have m : List.lookup a ((b, o') :: fragOf h as) = some o := Eq.trans (congrArg (List.lookup a) (Eq.symm (List.filterMap_cons_some (congrArg (Option.map fun o => (b, o)) e)))) m
      by_cases c : a = b
      · subst c
        rw [List.lookup_cons_self] at m
        exact k _ _ (e.trans m)
      · rw [List.lookup_cons, beq_false_of_ne c] at m
        exact ih a o m
inductive WfIs (h : Heap) (f C N : Addr) : Prop
  | mk (K : Frag) (kin : K.In h) (kg : specialIn K (.ref C) "__getattribute__" = some (some (.builtin "type.__getattribute__"))) (kr : readsIn K C (.type "type") = true) (kf : findCls K (.ref C) (.type "type") "__init__" = some (.val (.ref f))) : WfIs h f C N
theorem foundV_out {v : Option CFound} {a : Addr} (h : foundV v = some a) : v = some (.val (.ref a)) := by
  cases v with
  | none => exact nos h
  | some v => cases v with
    | val v => cases refV_out h; rfl
    | _ => exact nos h
theorem wf_of {h h' : Heap} {C N f : Addr} (k : ∀ b o, h.get? b = some o → h'.get? b = some o) (w : wfB h (some (.ref C)) = true) (hns : ∀ o cd, h.get? C = some o → o.data = .cls cd → cd.ns = N) (hi : h.nsMap N "__init__" = some (.ref f)) : WfIs h' f C N := by
  obtain ⟨c, e1, w⟩ := anyE w
  cases e1
  obtain ⟨o, e2, w⟩ := anyE w
  obtain ⟨cd, e3, w⟩ := anyE w
  obtain rfl := hns _ _ e2 (clsD_out e3)
  obtain ⟨g, e4, w⟩ := anyE w
  cases Option.some.inj (e4.symm.trans (congrArg refV hi))
  obtain ⟨w, w3⟩ := Bool.and_eq_true_iff.mp w
  obtain ⟨w1, w2⟩ := Bool.and_eq_true_iff.mp w
  exact ⟨_, frag_in k _, eq_of_beq w1, w2, foundV_out (of_decide_eq_true w3)⟩
section
variable {R : WRecords} {XP : (Str → Option Value) → Heap → Prop} {w : World} {s₀ : Shared} {mg mb : Str → Option Value} {h : Heap}
theorem exc_free : freeB (Str.ofString "Exception") = true := by kernel_rfl
theorem xok {G : Glo} (Gr : Ground qv [] R XP w s₀ G.mg mb G.h₀) (hy : yf s₀ = ya) (keeps : ∀ b o, s₀.heap.get? b = some o → G.h₀.get? b = some o) : XOk G := by
  have ok := gok Gr hy keeps
  obtain ⟨y1, y2, y3, y4, y5⟩ := ya_of hy
  obtain ⟨c0, cs, c1, c2, c3, c4, c5, c6⟩ := chk_of y1
  obtain ⟨vF, hF, okF⟩ := ok.fn (Str.ofString "refused") fnFF has_f
  obtain ⟨vw, hw, okw⟩ := ok.fn (Str.ofString "words_of") fnWO has_w
  obtain ⟨bw, scw, psw, tw, pw1, pw2, ew⟩ := pl3_of pl_w
  obtain ⟨br, scr, psr, tr, pr1, pr2, er⟩ := pl3_of pl_r
  obtain ⟨WF, N2, mW, fW, hv, nm', q', bs', sn', sub', col', dd', k0', k1', k2', k3', k5', hWF, hN2, hqW, hiW, IW, hns, emW⟩ := cls_of c4 (y4.trans tw)
  rw [hv] at c5 c6
  obtain ⟨C, N, mN, fR, hv', nm, q, bs, sn, sub, col, dd, k0, k1, k2, k3, k5, hC, hN, hqR, hiR, IR, _, _⟩ := cls_of c5 (y5.trans tr)
  have okW := init_plain (G := G) IW keeps pw1 pw2
  have okR := init_plain (G := G) IR keeps pr1 pr2
  rw [← ew] at okW
  rw [← er] at okR
  obtain ⟨fnE, bE⟩ := blt_of Gr exc_free
  obtain ⟨K, kin, kg, kr, kf⟩ := wf_of keeps c6 hns ((congrFun emW _).symm.trans hiW)
  exact ⟨C, N, WF, N2, fR, fW, mN, mW, mb, fnRF, fnWF, K, vF, fnFF, vw, fnWO, ⟨⟨⟨nm, q, bs, sn, sub, col, dd, k0, k1, k2, k3, k5, keeps _ _ hC⟩, hN.keeps keeps, ⟨nm', q', bs', sn', sub', col', dd', k0', k1', k2', k3', k5', keeps _ _ hWF⟩, hN2.keeps keeps⟩,
    quiet_of hqR, quiet_of hqW, (Gr.cls _ _).mp (gv_ref hv'), (Gr.cls _ _).mp (gv_ref hv), fnE, Gr.T.b, bE.trans (by kernel_rfl), hiR, okR, okW, bodyR, bodyW, kin, kg, kr, kf⟩, hF, okF, bodyF, hw, okw⟩
end
end Mine
section
set_option maxHeartbeats 8000000
namespace Mine
noncomputable abbrev cfA : Cf := cfOf bodyP
noncomputable def Plain (N : Nat) : Prop := ∀ ns : List Int, ns.length ≤ 63 → ∃ sh : Sh, sh.tr = [] ∧ sh.n = 0 ∧ (ev cfA N).C (.glob (Str.ofString "law")) [.scr ns] sh (fun d _ => d = .bool true) noX
noncomputable def noW : Wd := ⟨fun _ => none, fun _ => 0, 0⟩
theorem law_run {N : Nat} (plain : Plain N) (hN : N ≤ 200) {R : WRecords} {XP : (Str → Option Value) → Heap → Prop} {w : World} {s₀ s₁ : Shared} {mg mb : Str → Option Value} (Gr : Ground qv [] R XP w s₀ mg mb s₁.heap) (hy : yf s₀ = ya)
    (keeps : ∀ b o, s₀.heap.get? b = some o → s₁.heap.get? b = some o) (ht : s₁.toks ≠ 0) {fa la : Addr} (hf : mg (Str.ofString "law") = some (.ref fa)) {vs : Array Value} {ns : List Int} (hl : s₁.heap.IsList la vs) (hi : IntsAre vs.toList ns) (hn : ns.length ≤ 63)
    {Q : Value → Shared → Prop} {E : Value → Shared → Prop} (q : ∀ h' tk, (∀ a o, s₁.heap.get? a = some o → h'.get? a = some o) → Q (.bool true) { s₁ with heap := h', toks := tk }) :
    wpAny (model pw w) callerA (call (.ref fa) [.ref la]) Q E s₁ := by
  have sm : ∃ o, s₁.heap.get? sysModules = some o := by
    obtain ⟨o, ho⟩ := (chk_of (ya_of hy).y1).cs
    exact ⟨o, keeps _ _ ho⟩
  let G : Glo := ⟨pw, w, s₁.heap, mg, sm⟩
  have ok : GOk cfA G := gok (G := G) Gr hy keeps
  have xo : XOk G := xok (G := G) Gr hy keeps
  have S := (ev_sound ok (exc_sound ok xo) N).C
  obtain ⟨sh, t1, t2, pl⟩ := plain ns hn
  have R0 : Rep G noW sh.tr s₁.heap := ⟨fun a o e => ⟨rfl, e⟩, fun a w e => nos e, fun k t e => (by rw [t1] at e; exact nos e)⟩
  refine S _ _ sh _ noX callerA noW s₁ (.ref fa) [.ref la] Q E pl ⟨⟨?_, ?_, rfl, [], rfl, fun e he => absurd he List.not_mem_nil⟩, ⟨R0, t2.symm, ht⟩⟩ ?_ ?_ ?_ noX_ok
  · show 301 + 3 * N + 10 < 1000
    omega
  · show 4 + 8 * N + 200 < 9900
    omega
  · exact hf
  · exact ⟨⟨la, vs, rfl, rfl, hl, hi⟩, vl_nil⟩
  · intro d sh' W' h' v tk kd le kp rp nn hv t
    subst kd
    cases hv
    exact q h' tk fun a o e => (rp.base a o e).2
end Mine
end
section
set_option maxHeartbeats 8000000
namespace Mine
theorem nr_split {lk : Look} {l : List Stmt} (k : Nat) (a : Fast.tw8326940854005059898 lk (l.take k) = true) (b : Fast.tw8326940854005059898 lk (l.drop k) = true) : Fast.tw8326940854005059898 lk l = true := by
  rw [← Fast.te8326940854005059898] at a b ⊢
  induction k generalizing l with
  | zero => exact b
  | succ k ih => cases l with
    | nil => exact a
    | cons x r =>
      have a : (noRoadLS lk x && noRoadLSs lk (r.take k)) = true := a
      have b : noRoadLSs lk (r.drop k) = true := b
      have ⟨a1, a2⟩ := Bool.and_eq_true_iff.mp a
      exact Bool.and_eq_true_iff.mpr ⟨a1, ih a2 b⟩
theorem nr_lk {lk lk' : Look} {l : List Stmt} (e : lk = lk') (h : Fast.tw8326940854005059898 lk' l = true) : Fast.tw8326940854005059898 lk l = true := e ▸ h
theorem wellSaid_c : OpenLaw.wellSaid PySem.Challenge.rw_pq1077_01 = true := by
  rw [PySem.W.Fast.te9446332074065402090]
  delta PySem.W.Fast.tw9446332074065402090 PySem.W.Fast.tw17960256430627541270 PySem.W.Fast.tw2436336058641802641 PySem.W.Fast.tw12908688711261696721
  iterate 34 refine look_both ?_ (by decide +kernel)
  refine look_both ?_ (nr_lk (lk' := { strict := false, foot := none, bare := [] }) (by kernel_rfl) (nr_split 20 (by decide +kernel) (nr_split 10 (by decide +kernel) (nr_split 5 (by decide +kernel) (by decide +kernel)))))
  iterate 3 refine look_both ?_ (by decide +kernel)
  decide +kernel
theorem fin (plain : Plain 200) : PySem.Challenge.rw_pq1077_01.Holds := by
  w_on
  refine holds_law wellSaid_c fun said => ?_
  refine holds_openX (q := qv) (loose := []) (Xt := xt) (XP := XL qv []) (Yf := yf) (Ya := fun _ => ya) (N := 4138) left0 (fun s e => xl_of s (Bool.and_eq_true_iff.mp e).1) XL.keeps (by rfl) (by rfl) (by rfl) (fun s e => recFacts_of (Bool.and_eq_true_iff.mp e).2) (by rfl) (by first | assumption | decide +kernel) (by decide +kernel) ⟨rfl, rfl, rfl, rfl, rfl, by decide +kernel⟩ ?hw ?hc
  case hw => w_witness2
  intro w s₀ s₁ mg mb G Y fa o pm cd doc dV kV ho hd hcd hD hmg hg args vals as hL hpre hlay hrd hwl hlo
  clear hd hD
  wrow_args hpre hlay hrd hwl hlo
  rename_i ns hs hlay0 hLb hr1 hl2 as1 as2 la its as3 hIL ra w1 r0 hI hr hc1 hc2
  have hf : mg (Str.ofString "law") = some (.ref fa) := hmg
  have hn : ns.length ≤ 63 := by omega
  have ht : s₁.toks ≠ 0 := by
    have a := PySem.W.X.script_toks hL rfl
    have b := (chk_of (ya_of Y).y1).c0
    omega
  refine law_run plain (Nat.le_refl _) G Y hL.keeps ht hf hIL (by simpa using hI) hn fun h' tk k => ?_
  refine ⟨.inl ⟨.bool true, ofPy (.bool true), [], rfl, fun cls => rfl, ?_, ?_, fun _ => ⟨List.nodup_nil, fun a ha => by cases ha⟩⟩, OldK.of_keep k, rfl, fun y hy => ?_⟩
  · exact .bool true
  · first | wrow_post | rfl | decide
  · have hy : y ∈ s₁.gens := hy
    rw [hg] at hy
    exact absurd hy (Array.not_mem_empty y)
end Mine
end
namespace Mine
noncomputable def so (x : String) : Str := Str.ofString x
noncomputable def famL : List Str := ["ip", "ip6", "inet", "arp", "bridge", "netdev", "decnet"].map so
noncomputable def hookL : List Str := ["prerouting", "input", "forward", "output", "postrouting", "ingress", "egress"].map so
noncomputable abbrev NL := List (String × Int)
noncomputable def nmB : Nat → Nat → NL
  | 4, j => ("filter", -200) :: (match j with | 0 => [("dstnat", -300)] | 3 => [("out", 100)] | 4 => [("srcnat", 300)] | _ => [])
  | i, j => ("filter", 0) :: (match decide (i < 3) with
    | true => ("raw", -300) :: ("mangle", -150) :: ("security", 50) :: (match j with | 0 => [("dstnat", -100)] | 3 => [("dstnat", -100)] | 1 => [("srcnat", 100)] | 4 => [("srcnat", 100)] | _ => [])
    | false => [])
noncomputable def pp1 : NL → Int → Option Str
  | [], _ => none
  | p :: l, n => if p.2 = n then some (so p.1) else pp1 l n
noncomputable def ppx (name : Str) (gap : Int) : Option Str := if 0 < gap ∧ gap ≤ 10 then some (name ++ so " + " ++ Str.ofString (toString gap)) else if -10 ≤ gap ∧ gap < 0 then some (name ++ so " - " ++ Str.ofString (toString (-gap))) else none
noncomputable def pp2 : NL → Int → Option Str
  | [], _ => none
  | p :: l, n => match ppx (so p.1) (n - p.2) with
    | some x => some x
    | none => pp2 l n
noncomputable def ppT (l : NL) (n : Int) : Str := match pp1 l n with
  | some x => x
  | none => match pp2 l n with
    | some x => x
    | none => Str.ofString (toString n)
noncomputable def hexs : Str := Str.ofString "0123456789abcdef"
noncomputable def dig (c : Nat) : Int := Txt.find hexs (Txt.lower ⟨#[c]⟩)
noncomputable def bn (b : Int) : List Nat → Int → Option Int
  | [], a => some a
  | c :: cs, a => if dig c < 0 then none else if b ≤ dig c then none else bn b cs (a * b + dig c)
noncomputable def bnR (b : Int) (x : Str) : Option Int := if x = Str.ofString "" then none else bn b x.cps.toList 0
noncomputable def nw (x : Str) : Option Int := if Txt.slice x none (some 2) = Str.ofString "0x" then bnR 16 (Txt.slice x (some 2) none) else bnR 10 x
noncomputable def pmc (c : Nat) : Bool := !(Builtin.Str.occurrences (Str.ofString "+-") ⟨#[c]⟩ 0 (Str.ofString "+-").length 1).isEmpty
noncomputable def scan : List Nat → Nat
  | [] => 0
  | c :: cs => bif pmc c then 0 else scan cs + 1
noncomputable def lkI : NL → Str → Option Int
  | [], _ => none
  | p :: l, k => if so p.1 = k then some p.2 else lkI l k
noncomputable def fstS (t : Str) : Str := ⟨#[t.cps[0]?.getD 0]⟩
noncomputable def prX (n : Int) (t : Str) : Option Int → Option Int
  | none => none
  | some q => bif fstS t == Str.ofString "+" then some (n + q) else some (n - q)
noncomputable def prT (l : NL) (x : Str) : Option Int :=
  let h := Txt.slice x none (some ((scan x.cps.toList : Nat) : Int))
  let t := Txt.slice x (some ((scan x.cps.toList : Nat) : Int)) none
  bif t == Str.ofString "" && !(lkI l h).isSome then nw h
  else bif !(h == Str.ofString "") && !(lkI l h).isSome then none
  else bif h == Str.ofString "" && fstS t == Str.ofString "+" then none
  else bif t == Str.ofString "" then some ((lkI l h).getD 0)
  else prX ((lkI l h).getD 0) t (nw (Txt.slice t (some 1) none))
end Mine
namespace Mine
noncomputable def nlD (l : NL) : D := .lst (l.map fun p => .tup [.str (so p.1), .int p.2])
noncomputable def r7 : List Nat := [0, 1, 2, 3, 4, 5, 6]
noncomputable def namedD : D := .pd (famL.flatMap fun f => hookL.map fun h => [f, h]) (r7.flatMap fun i => r7.map fun j => nlD (nmB i j))
noncomputable def fnOf (x : String) : Fn := (fnIn bodyP (so x)).getD ⟨[], [], [], []⟩
theorem named_eq (m : Nat) (K : KE) (sh : Sh) : pureC (ev cfA (m + 40)) (fnOf "_law_named") sh K false [] = K namedD sh := by kernel_rfl
end Mine
namespace Mine
noncomputable def fiveL : List String := ["prerouting", "input", "forward", "output", "postrouting"]
noncomputable def hooksB (i : Nat) : String → List String
  | "filter" => (match i with | 2 => fiveL ++ ["ingress"] | 3 => ["input", "output"] | 5 => ["ingress"] | 6 => [] | _ => fiveL)
  | "nat" => (match decide (i < 3) with | true => ["prerouting", "input", "output", "postrouting"] | false => [])
  | "route" => (match decide (i < 3) with | true => ["output"] | false => [])
  | _ => []
noncomputable def strsD (l : List String) : D := .tup (l.map fun x => .str (so x))
noncomputable def standsL : List (Nat × String) := [(0, "filter"), (1, "filter"), (2, "filter"), (3, "filter"), (4, "filter"), (5, "filter"), (0, "nat"), (1, "nat"), (2, "nat"), (0, "route"), (1, "route"), (2, "route")]
noncomputable def famN (i : Nat) : Str := famL.getD i (so "")
noncomputable def hookN (i : Nat) : Str := hookL.getD i (so "")
noncomputable def standsD : D := .pd (standsL.map fun p => [famN p.1, so p.2]) (standsL.map fun p => strsD (hooksB p.1 p.2))
theorem stands_eq (m : Nat) (K : KE) (sh : Sh) : pureC (ev cfA (m + 40)) (fnOf "_law_stands") sh K false [] = K standsD sh := by kernel_rfl
noncomputable def bodyOf (x : String) : List Stmt := (fnOf x).body
noncomputable def stmtOf (x : String) (i : Nat) : List Stmt := ((bodyOf x).drop i).take 1
noncomputable abbrev lawSc : List (Str × NameKind) := (fnOf "law").sc
theorem loop1_eq (m : Nat) (K : KB) (X : KX) (os : List Ora) (ns : List Int) : (ev cfA (m + 60)).B (stmtOf "law" 1) ⟨lawSc, [(so "script", .scr ns), (so "named", namedD)]⟩ ⟨[], 0, false, os⟩ K X =
    K .next [(so "script", .scr ns), (so "named", namedD), (so "place", .tup [.str (famN 6), .str (hookN 6)])] ⟨[], 0, false, os⟩ := by kernel_rfl
end Mine
namespace Mine
noncomputable abbrev Told (m : Nat) (f : String) (args : List D) (P : D → Prop) : Prop := ∀ sh : Sh, ∃ sym, pureC (ev cfA m) (fnOf f) sh (fun d _ => P d) sym args
theorem fmod_nn (a : Int) {M : Int} (h : 0 < M) : 0 ≤ Int.fmod a M := by rw [Int.fmod_eq_emod_of_nonneg _ (by omega)]; exact Int.emod_nonneg _ (by omega)
theorem fmod_lt (a : Int) {M : Int} (h : 0 < M) : Int.fmod a M < M := by rw [Int.fmod_eq_emod_of_nonneg _ (by omega)]; exact Int.emod_lt_of_pos _ h
theorem fmod_nat (a b : Nat) : Int.fmod a b = ((a % b : Nat) : Int) := by rw [Int.fmod_eq_emod_of_nonneg _ (by omega)]; rfl
theorem fdiv_nat (a b : Nat) : Int.fdiv a b = ((a / b : Nat) : Int) := by rw [Int.fdiv_eq_ediv_of_nonneg _ (by omega)]; rfl
theorem drawn_c {m : Nat} {ns : List Int} {p u M : Int} (hp : 0 ≤ p) (hp2 : p < 2^62) (hM : 0 < M) (hns : ns.length < 1000000) : Told (m + 20) "_law_drawn" [.scr ns, .int p, .int u, .int M] (fun d => ∃ r : Nat, d = .int r ∧ (r : Int) < M) := fun sh => by
  have fin : ∀ a, ∃ r : Nat, D.int (Int.fmod a M) = .int r ∧ (r : Int) < M := fun a => ⟨(Int.fmod a M).toNat, by rw [Int.toNat_of_nonneg (fmod_nn a hM)], by rw [Int.toNat_of_nonneg (fmod_nn a hM)]; exact fmod_lt a hM⟩
  refine ⟨true, fun _ => ⟨hns, decide (p < ns.length), rfl, ?_⟩⟩
  by_cases h : p < ns.length
  · rw [decide_eq_true h]
    have h3 : p.toNat < ns.length := by omega
    have h2 : ns[p.toNat]? = some ns[p.toNat] := List.getElem?_eq_getElem h3
    refine fun _ => ⟨.int (ns[p.toNat]), ?_, hM, fun _ => ⟨hM, ?_⟩⟩
    · show nthI ns p = _
      unfold nthI
      rw [inR_in ⟨hp, hp2⟩]; show (ns[p.toNat]?).map _ = _; rw [h2]; rfl
    · exact fin _
  · rw [decide_eq_false h]
    exact fun _ => ⟨hM, fin _⟩
theorem families_eq (m : Nat) (K : KE) (sh : Sh) : pureC (ev cfA (m + 20)) (fnOf "_law_families") sh K false [] = K (.lst (famL.map .str)) sh := by kernel_rfl
theorem hooks_eq (m : Nat) (K : KE) (sh : Sh) : pureC (ev cfA (m + 20)) (fnOf "_law_hooks") sh K false [] = K (.lst (hookL.map .str)) sh := by kernel_rfl
theorem families_c {m : Nat} : Told (m + 20) "_law_families" [] (fun d => d = .lst (famL.map .str)) := fun sh => ⟨false, by rw [families_eq]⟩
theorem hooks_c {m : Nat} : Told (m + 20) "_law_hooks" [] (fun d => d = .lst (hookL.map .str)) := fun sh => ⟨false, by rw [hooks_eq]⟩
theorem or3 {i : Nat} (h : i < 3) : i = 0 ∨ i = 1 ∨ i = 2 := (by decide +kernel : ∀ i < 3, i = 0 ∨ i = 1 ∨ i = 2) i h
theorem or4 {i : Nat} (h : i < 4) : i = 0 ∨ i = 1 ∨ i = 2 ∨ i = 3 := (by decide +kernel : ∀ i < 4, i = 0 ∨ i = 1 ∨ i = 2 ∨ i = 3) i h
theorem or6 {i : Nat} (h : i < 6) : i = 0 ∨ i = 1 ∨ i = 2 ∨ i = 3 ∨ i = 4 ∨ i = 5 := (by decide +kernel : ∀ i < 6, i = 0 ∨ i = 1 ∨ i = 2 ∨ i = 3 ∨ i = 4 ∨ i = 5) i h
theorem or7 {i : Nat} (h : i < 7) : i = 0 ∨ i = 1 ∨ i = 2 ∨ i = 3 ∨ i = 4 ∨ i = 5 ∨ i = 6 := (by decide +kernel : ∀ i < 7, i = 0 ∨ i = 1 ∨ i = 2 ∨ i = 3 ∨ i = 4 ∨ i = 5 ∨ i = 6) i h
theorem or16 {i : Nat} (h : i < 16) : i = 0 ∨ i = 1 ∨ i = 2 ∨ i = 3 ∨ i = 4 ∨ i = 5 ∨ i = 6 ∨ i = 7 ∨ i = 8 ∨ i = 9 ∨ i = 10 ∨ i = 11 ∨ i = 12 ∨ i = 13 ∨ i = 14 ∨ i = 15 := (by decide +kernel : ∀ i < 16, i = 0 ∨ i = 1 ∨ i = 2 ∨ i = 3 ∨ i = 4 ∨ i = 5 ∨ i = 6 ∨ i = 7 ∨ i = 8 ∨ i = 9 ∨ i = 10 ∨ i = 11 ∨ i = 12 ∨ i = 13 ∨ i = 14 ∨ i = 15) i h
theorem or18 {i : Nat} (h : i < 18) : i = 0 ∨ i = 1 ∨ i = 2 ∨ i = 3 ∨ i = 4 ∨ i = 5 ∨ i = 6 ∨ i = 7 ∨ i = 8 ∨ i = 9 ∨ i = 10 ∨ i = 11 ∨ i = 12 ∨ i = 13 ∨ i = 14 ∨ i = 15 ∨ i = 16 ∨ i = 17 := (by decide +kernel : ∀ i < 18, i = 0 ∨ i = 1 ∨ i = 2 ∨ i = 3 ∨ i = 4 ∨ i = 5 ∨ i = 6 ∨ i = 7 ∨ i = 8 ∨ i = 9 ∨ i = 10 ∨ i = 11 ∨ i = 12 ∨ i = 13 ∨ i = 14 ∨ i = 15 ∨ i = 16 ∨ i = 17) i h
theorem for49 {α : Type} {f g : Nat → Nat → α} (h : (List.range 7).map (fun i => (List.range 7).map (f i)) = (List.range 7).map (fun i => (List.range 7).map (g i))) {i j : Nat} (hi : i < 7) (hj : j < 7) : f i j = g i j :=
  List.map_inj_left.mp (List.map_inj_left.mp h i (List.mem_range.mpr hi)) j (List.mem_range.mpr hj)
theorem fam_nth {i : Nat} (h : i < 7) : nth (famL.map .str) (i : Int) = some (.str (famN i)) := by
  rcases or7 h with rfl | rfl | rfl | rfl | rfl | rfl | rfl <;> rfl
theorem hook_nth {i : Nat} (h : i < 7) : nth (hookL.map .str) (i : Int) = some (.str (hookN i)) := by
  rcases or7 h with rfl | rfl | rfl | rfl | rfl | rfl | rfl <;> rfl
theorem fam_nth2 {n : Nat} (h : n < 49) : nth (famL.map .str) (Int.fdiv (n : Int) 7) = some (.str (famN (n / 7))) := by
  rw [show Int.fdiv (n : Int) 7 = ((n / 7 : Nat) : Int) from fdiv_nat n 7]
  exact fam_nth (by omega)
theorem hook_nth2 {n : Nat} (h : n < 49) : nth (hookL.map .str) (Int.fmod (n : Int) 7) = some (.str (hookN (n % 7))) := by
  rw [show Int.fmod (n : Int) 7 = ((n % 7 : Nat) : Int) from fmod_nat n 7]
  exact hook_nth (by omega)
theorem place_c {m n : Nat} (h : n < 49) : Told (m + 40) "_law_place" [.int n] (fun d => d = .tup [.str (famN (n / 7)), .str (hookN (n % 7))]) := fun sh => by
  refine ⟨true, fun _ => ⟨rfl, _, families_c _, ?_⟩⟩
  rintro _ rfl
  refine ⟨by decide, .str (famN (n / 7)), fam_nth2 h, rfl, _, hooks_c _, ?_⟩
  rintro _ rfl
  refine ⟨by decide, .str (hookN (n % 7)), hook_nth2 h, ?_⟩
  rfl
end Mine
namespace Mine
noncomputable def nmKs (l : NL) : List Str := l.map fun p => so p.1
noncomputable def nmVs (l : NL) : List D := l.map fun p => .int p.2
theorem prio_eq (m : Nat) (K : KE) (sh : Sh) {i j : Nat} (hi : i < 7) (hj : j < 7) : pureC (ev cfA (m + 40)) (fnOf "priorities") sh K false [.str (famN i), .str (hookN j)] = K (.sd (nmKs (nmB i j)) (nmVs (nmB i j))) sh :=
  (for49 (f := fun i j => pureC (ev cfA (m + 40)) (fnOf "priorities") sh K false [.str (famN i), .str (hookN j)]) (g := fun i j => K (.sd (nmKs (nmB i j)) (nmVs (nmB i j))) sh) (by kernel_rfl) hi hj)
theorem prio_c {m i j : Nat} (hi : i < 7) (hj : j < 7) : Told (m + 40) "priorities" [.str (famN i), .str (hookN j)] (fun d => d = .sd (nmKs (nmB i j)) (nmVs (nmB i j))) := fun sh => ⟨false, by rw [prio_eq _ _ _ hi hj]⟩
noncomputable def forV (s : Stmt) : Option (Expr × List Stmt) := match s with
  | .For t _ b _ _ => some (t, b)
  | _ => none
noncomputable def forT (st : List Stmt) : Expr := ((st.head?.bind forV).map (·.1)).getD (.Name (so "") ⟨0, 0, 0, 0⟩)
noncomputable def forB (st : List Stmt) : List Stmt := ((st.head?.bind forV).map (·.2)).getD []
noncomputable def scOf (x : String) : List (Str × NameKind) := (fnOf x).sc
noncomputable abbrev shY (os : List Ora) : Sh := ⟨[], 0, true, os⟩
noncomputable abbrev ppLo (f h : Str) (n : Int) (l : NL) (tl : List (Str × D)) : List (Str × D) := (so "n", .int n) :: (so "hook", .str h) :: (so "family", .str f) :: (so "names", .sd (nmKs l) (nmVs l)) :: tl
theorem pp_loop1 {m : Nat} {os : List Ora} {f h : Str} {n : Int} {l : NL} {K : KB} : ∀ (l' : NL) (o : Option D), (∀ p ∈ l', look (nmKs l) (nmVs l) (so p.1) = some (.int p.2)) →
    (match pp1 l' n with | some x => ∀ lo, K (.ret (.str x)) lo (shY os) | none => ∀ o : Option D, K .next (ppLo f h n l (match o with | none => [] | some d => [(so "name", d)])) (shY os)) →
    forE cfA (ev cfA (m + 30)) (forT (stmtOf "print_priority" 1)) (forB (stmtOf "print_priority" 1)) (scOf "print_priority") ((nmKs l').map .str) (ppLo f h n l (match o with | none => [] | some d => [(so "name", d)])) (shY os) K := by
  intro l'
  induction l' with
  | nil => intro o _ k; exact k o
  | cons p l' ih =>
    intro o hl k
    have hp := hl p (List.mem_cons_self ..)
    unfold pp1 at k
    have key : ∀ lo' : List (Str × D), lo' = ppLo f h n l [(so "name", .str (so p.1))] → (ev cfA (m + 30)).B (forB (stmtOf "print_priority" 1)) ⟨scOf "print_priority", lo'⟩ (shY os) (fun fl lo sh => match fl with
        | .next => forE cfA (ev cfA (m + 30)) (forT (stmtOf "print_priority" 1)) (forB (stmtOf "print_priority" 1)) (scOf "print_priority") ((nmKs l').map .str) lo sh K
        | .cont => forE cfA (ev cfA (m + 30)) (forT (stmtOf "print_priority" 1)) (forB (stmtOf "print_priority" 1)) (scOf "print_priority") ((nmKs l').map .str) lo sh K
        | .brk => K .next lo sh
        | .ret d => K (.ret d) lo sh) noX := by
      rintro _ rfl
      by_cases e : p.2 = n
      · rw [if_pos e] at k
        refine fun _ => ⟨.int p.2, hp, true, ?_, ?_⟩
        · show some (p.2 == n) = some true
          rw [e, beq_self_eq_true]
        · exact fun _ => k _
      · rw [if_neg e] at k
        refine fun _ => ⟨.int p.2, hp, false, ?_, ?_⟩
        · show some (p.2 == n) = some false
          rw [beq_false_of_ne e]
        · exact ih (some _) (fun q hq => hl q (List.mem_cons_of_mem _ hq)) k
    cases o <;> exact key _ rfl
end Mine
namespace Mine
theorem len_int {g : Int} (h : g.natAbs < 10 ^ 20) : (Str.ofString (toString g)).length ≤ 21 := by
  rw [PySem.ofString_length]
  exact int_text_length_le10 (k := 20) (by decide) h
theorem natAbs_pos {g : Int} (c : 0 < g ∧ g ≤ 10) : g.natAbs ≤ 10 := Int.ofNat_le.mp ((Int.natAbs_of_nonneg (Int.le_of_lt c.1)).symm ▸ c.2)
theorem natAbs_neg {g : Int} (c : -10 ≤ g ∧ g < 0) : (-g).natAbs ≤ 10 := natAbs_pos ⟨Int.neg_pos_of_neg c.2, Int.neg_le_of_neg_le c.1⟩
theorem pp_len {x w : Str} {g : Int} (hx : x.length ≤ 100) (hw : w.length = 3) (hg : g.natAbs ≤ 10) : g.natAbs < 2 ^ 64 ∧ x.length + w.length ≤ 1000000 ∧ (x ++ w).length + (Str.ofString (toString g)).length ≤ 1000000 := by
  have l := len_int (g := g) (Nat.lt_of_le_of_lt hg (by decide))
  rw [PySem.Str.length_append, hw]
  exact ⟨Nat.lt_of_le_of_lt hg (by decide), Nat.le_trans (Nat.add_le_add_right hx 3) (by decide), Nat.le_trans (Nat.add_le_add (Nat.add_le_add_right hx 3) l) (by decide)⟩
theorem so_len (x : String) : (so x).length = x.length := PySem.ofString_length x
noncomputable abbrev pp2Tl : Option D → Option D → List (Str × D)
  | none, _ => []
  | some d, none => [(so "name", d)]
  | some d, some g => [(so "name", d), (so "gap", g)]
theorem pp_loop2 {m : Nat} {os : List Ora} {f h : Str} {n : Int} {l : NL} {K : KB} : ∀ (l' : NL) (o g : Option D), (∀ p ∈ l', look (nmKs l) (nmVs l) (so p.1) = some (.int p.2) ∧ (so p.1).length ≤ 100) →
    (match pp2 l' n with | some x => ∀ lo, K (.ret (.str x)) lo (shY os) | none => ∀ o g, K .next (ppLo f h n l (pp2Tl o g)) (shY os)) →
    forE cfA (ev cfA (m + 30)) (forT (stmtOf "print_priority" 2)) (forB (stmtOf "print_priority" 2)) (scOf "print_priority") ((nmKs l').map .str) (ppLo f h n l (pp2Tl o g)) (shY os) K := by
  intro l'
  induction l' with
  | nil => intro o g _ k; exact k o g
  | cons p l' ih =>
    intro o g hl k
    obtain ⟨hp, hlen⟩ := hl p (List.mem_cons_self ..)
    have e1 : (Str.ofString " + ").length = 3 := by decide +kernel
    have e2 : (Str.ofString " - ").length = 3 := by decide +kernel
    have key : ∀ lo' g', lo' = ppLo f h n l (pp2Tl (some (.str (so p.1))) g') → (ev cfA (m + 30)).B (forB (stmtOf "print_priority" 2)) ⟨scOf "print_priority", lo'⟩ (shY os) (fun fl lo sh => match fl with
        | .next => forE cfA (ev cfA (m + 30)) (forT (stmtOf "print_priority" 2)) (forB (stmtOf "print_priority" 2)) (scOf "print_priority") ((nmKs l').map .str) lo sh K
        | .cont => forE cfA (ev cfA (m + 30)) (forT (stmtOf "print_priority" 2)) (forB (stmtOf "print_priority" 2)) (scOf "print_priority") ((nmKs l').map .str) lo sh K
        | .brk => K .next lo sh
        | .ret d => K (.ret d) lo sh) noX := by
      rintro _ g' rfl
      unfold pp2 ppx at k
      have key2 : ∀ lo'', lo'' = ppLo f h n l (pp2Tl (some (.str (so p.1))) (some (.int (n - p.2)))) → (ev cfA (m + 29)).B ((forB (stmtOf "print_priority" 2)).drop 1) ⟨scOf "print_priority", lo''⟩ (shY os) (fun fl lo sh => match fl with
        | .next => forE cfA (ev cfA (m + 30)) (forT (stmtOf "print_priority" 2)) (forB (stmtOf "print_priority" 2)) (scOf "print_priority") ((nmKs l').map .str) lo sh K
        | .cont => forE cfA (ev cfA (m + 30)) (forT (stmtOf "print_priority" 2)) (forB (stmtOf "print_priority" 2)) (scOf "print_priority") ((nmKs l').map .str) lo sh K
        | .brk => K .next lo sh
        | .ret d => K (.ret d) lo sh) noX := by
        rintro _ rfl
        by_cases c : 0 < n - p.2 ∧ n - p.2 ≤ 10
        · rw [if_pos c] at k
          obtain ⟨l1, l2, l3⟩ := pp_len (x := so p.1) (w := Str.ofString " + ") hlen e1 (natAbs_pos c)
          refine fun _ => ⟨true, congrArg some (decide_eq_true c.1), true, congrArg some (decide_eq_true c.2), ?_⟩
          exact fun _ => ⟨l2, l1, l3, k _⟩
        · rw [if_neg c] at k
          have fin2 : ∀ lo'', lo'' = ppLo f h n l (pp2Tl (some (.str (so p.1))) (some (.int (n - p.2)))) → (ev cfA (m + 28)).B ((forB (stmtOf "print_priority" 2)).drop 2) ⟨scOf "print_priority", lo''⟩ (shY os) (fun fl lo sh => match fl with
            | .next => forE cfA (ev cfA (m + 30)) (forT (stmtOf "print_priority" 2)) (forB (stmtOf "print_priority" 2)) (scOf "print_priority") ((nmKs l').map .str) lo sh K
            | .cont => forE cfA (ev cfA (m + 30)) (forT (stmtOf "print_priority" 2)) (forB (stmtOf "print_priority" 2)) (scOf "print_priority") ((nmKs l').map .str) lo sh K
            | .brk => K .next lo sh
            | .ret d => K (.ret d) lo sh) noX := by
            rintro _ rfl
            by_cases c2 : -10 ≤ n - p.2 ∧ n - p.2 < 0
            · rw [if_pos c2] at k
              obtain ⟨l1, l2, l3⟩ := pp_len (x := so p.1) (w := Str.ofString " - ") hlen e2 (natAbs_neg c2)
              exact fun _ => ⟨true, congrArg some (decide_eq_true c2.1), true, congrArg some (decide_eq_true c2.2), fun _ => ⟨l2, l1, l3, k _⟩⟩
            · rw [if_neg c2] at k
              have k' := ih (some (.str (so p.1))) (some (.int (n - p.2))) (fun q hq => hl q (List.mem_cons_of_mem _ hq)) k
              by_cases c3 : -10 ≤ n - p.2
              · exact fun _ => ⟨true, congrArg some (decide_eq_true c3), false, congrArg some (decide_eq_false fun z => c2 ⟨c3, z⟩), k'⟩
              · exact fun _ => ⟨false, congrArg some (decide_eq_false c3), k'⟩
          by_cases c3 : 0 < n - p.2
          · exact fun _ => ⟨true, congrArg some (decide_eq_true c3), false, congrArg some (decide_eq_false fun z => c ⟨c3, z⟩), fin2 _ rfl⟩
          · exact fun _ => ⟨false, congrArg some (decide_eq_false c3), fin2 _ rfl⟩
      cases g' <;> exact fun _ => ⟨_, hp, key2 _ rfl⟩
    cases o with
    | none => exact key _ none rfl
    | some d => exact key _ g (by cases g <;> rfl)
theorem nm_look {l : NL} (nd : (nmKs l).Nodup) : ∀ p ∈ l, look (nmKs l) (nmVs l) (so p.1) = some (.int p.2) := by
  induction l with
  | nil => exact fun p hp => absurd hp List.not_mem_nil
  | cons q l ih =>
    intro p hp
    obtain ⟨nd1, nd2⟩ := List.nodup_cons.mp (show (so q.1 :: nmKs l).Nodup from nd)
    rcases List.mem_cons.mp hp with rfl | hp
    · exact if_pos rfl
    · exact (if_neg fun e : so q.1 = so p.1 => nd1 (e ▸ List.mem_map_of_mem (f := fun p : String × Int => so p.1) hp)).trans (ih nd2 p hp)
structure NmOk (l : NL) : Prop where
  nd : (nmKs l).Nodup
  len : ∀ p ∈ l, (so p.1).length ≤ 8
noncomputable def nmChk (l : NL) : Bool := nodupS (nmKs l) && l.all fun p => decide ((so p.1).length ≤ 8)
theorem nm_chk : ∀ i < 7, ∀ j < 7, nmChk (nmB i j) = true := by decide +kernel
theorem nm_ok {i j : Nat} (hi : i < 7) (hj : j < 7) : NmOk (nmB i j) := by
  obtain ⟨a, b⟩ := Bool.and_eq_true_iff.mp (nm_chk i hi j hj)
  exact ⟨nodup_of a, fun p hp => of_decide_eq_true (List.all_eq_true.mp b p hp)⟩
theorem print_c {m i j : Nat} {n : Int} (hi : i < 7) (hj : j < 7) (hn : n.natAbs < 10 ^ 9) : Told (m + 80) "print_priority" [.str (famN i), .str (hookN j), .int n] (fun d => d = .str (ppT (nmB i j) n)) := fun sh => by
  have ok := nm_ok hi hj
  have lk := nm_look ok.nd
  refine ⟨true, fun _ => ⟨rfl, _, prio_c hi hj _, ?_⟩⟩
  rintro _ rfl
  refine ⟨true, ?_⟩
  refine pp_loop1 (m := m + 48) (l := nmB i j) (nmB i j) none lk ?_
  unfold ppT
  cases e1 : pp1 (nmB i j) n with
  | some x => intro lo; rfl
  | none =>
    intro o
    refine ⟨true, ?_⟩
    have hl2 : ∀ p ∈ nmB i j, look (nmKs (nmB i j)) (nmVs (nmB i j)) (so p.1) = some (.int p.2) ∧ (so p.1).length ≤ 100 := fun p hp => ⟨lk p hp, Nat.le_trans (ok.len p hp) (by omega)⟩
    have fin : ∀ K : KB, (match pp2 (nmB i j) n with | some x => ∀ lo, K (.ret (.str x)) lo (shY sh.os) | none => ∀ o g, K .next (ppLo (famN i) (hookN j) n (nmB i j) (pp2Tl o g)) (shY sh.os)) → forE cfA (ev cfA (m + 77)) (forT (stmtOf "print_priority" 2)) (forB (stmtOf "print_priority" 2)) (scOf "print_priority") ((nmKs (nmB i j)).map .str) (ppLo (famN i) (hookN j) n (nmB i j) (match o with | none => [] | some d => [(so "name", d)])) (shY sh.os) K := by
      intro K k
      cases o with
      | none => exact pp_loop2 (m := m + 47) (nmB i j) none none hl2 k
      | some d => exact pp_loop2 (m := m + 47) (nmB i j) (some d) none hl2 k
    refine fin _ ?_
    cases e2 : pp2 (nmB i j) n with
    | some x => intro lo; rfl
    | none =>
      intro o g
      have c : n.natAbs < 2 ^ 64 := Nat.lt_trans hn (by decide)
      rcases o with _ | d
      · exact fun _ => ⟨c, rfl⟩
      · rcases g with _ | g
        · exact fun _ => ⟨c, rfl⟩
        · exact fun _ => ⟨c, rfl⟩
end Mine
namespace Mine
noncomputable def optD : Option Int → D
  | none => .none
  | some i => .int i
noncomputable abbrev bnLo (b : Int) (x : Str) (a : Int) (tl : Option (D × D)) : List (Str × D) := (so "base", .int b) :: (so "digits", .str x) :: (so "number", .int a) :: (match tl with | none => [] | some (s, d) => [(so "sign", s), (so "digit", d)])
theorem bn_loop {m : Nat} {os : List Ora} {b : Int} {x : Str} {K : KB} (hb : b.natAbs < 2 ^ 64) : ∀ (cs : List Nat) (a : Int) (tl : Option (D × D)),
    (match bn b cs a with | some r => ∀ tl, K .next (bnLo b x r tl) (shY os) | none => ∀ lo, K (.ret .none) lo (shY os)) →
    forE cfA (ev cfA (m + 30)) (forT (stmtOf "based_number" 2)) (forB (stmtOf "based_number" 2)) (scOf "based_number") (cs.map fun c => .str ⟨#[c]⟩) (bnLo b x a tl) (shY os) K := by
  intro cs
  induction cs with
  | nil => intro a tl k; exact k tl
  | cons c cs ih =>
    intro a tl k
    unfold bn at k
    have key : ∀ lo', lo' = bnLo b x a (some (.str ⟨#[c]⟩, .int (dig c))) → (ev cfA (m + 29)).B ((forB (stmtOf "based_number" 2)).drop 1) ⟨scOf "based_number", lo'⟩ (shY os) (fun fl lo sh => match fl with
        | .next => forE cfA (ev cfA (m + 30)) (forT (stmtOf "based_number" 2)) (forB (stmtOf "based_number" 2)) (scOf "based_number") (cs.map fun c => .str ⟨#[c]⟩) lo sh K
        | .cont => forE cfA (ev cfA (m + 30)) (forT (stmtOf "based_number" 2)) (forB (stmtOf "based_number" 2)) (scOf "based_number") (cs.map fun c => .str ⟨#[c]⟩) lo sh K
        | .brk => K .next lo sh
        | .ret d => K (.ret d) lo sh) noX := by
      rintro _ rfl
      by_cases c1 : dig c < 0
      · rw [if_pos c1] at k
        exact fun _ => ⟨true, congrArg some (decide_eq_true c1), fun _ => k _⟩
      · rw [if_neg c1] at k
        by_cases c2 : b ≤ dig c
        · rw [if_pos c2] at k
          exact fun _ => ⟨false, congrArg some (decide_eq_false c1), true, congrArg some (decide_eq_true c2), fun _ => k _⟩
        · rw [if_neg c2] at k
          exact fun _ => ⟨false, congrArg some (decide_eq_false c1), false, congrArg some (decide_eq_false c2), fun _ => ⟨hb, ih (a * b + dig c) (some (.str ⟨#[c]⟩, .int (dig c))) k⟩⟩
    have l1 : (⟨#[c]⟩ : Str).length ≤ 1000 := by show 1 ≤ 1000; omega
    rcases tl with _ | ⟨s, d⟩
    · exact fun _ => ⟨l1, key _ rfl⟩
    · exact fun _ => ⟨l1, key _ rfl⟩
theorem based_c {m : Nat} {b : Int} {x : Str} (hb : b.natAbs < 2 ^ 64) : Told (m + 60) "based_number" [.str x, .int b] (fun d => d = optD (bnR b x)) := fun sh => by
  unfold bnR
  by_cases e : x = Str.ofString ""
  · rw [if_pos e]
    exact ⟨true, fun _ => ⟨true, congrArg some (by rw [e]; exact beq_self_eq_true _), fun _ => rfl⟩⟩
  · rw [if_neg e]
    refine ⟨true, fun _ => ⟨false, congrArg some (beq_false_of_ne e), fun _ => ⟨true, ?_⟩⟩⟩
    refine bn_loop (m := m + 27) hb x.cps.toList 0 none ?_
    cases e1 : bn b x.cps.toList 0 with
    | none => intro lo; rfl
    | some r =>
      intro tl
      rcases tl with _ | ⟨s, d⟩
      · exact fun _ => rfl
      · exact fun _ => rfl
theorem word_c {m : Nat} {x : Str} (hx : x.length ≤ 1000) : Told (m + 80) "number_word" [.str x] (fun d => d = optD (nw x)) := fun sh => by
  unfold nw
  have l1 : x.length ≤ 1000000 := by omega
  by_cases e : Txt.slice x none (some 2) = Str.ofString "0x"
  · rw [if_pos e]
    refine ⟨true, fun _ => ⟨l1, true, congrArg some (by rw [e]; exact beq_self_eq_true _), fun _ => ⟨l1, rfl, _, based_c (by decide) _, ?_⟩⟩⟩
    rintro _ rfl
    cases bnR 16 (Txt.slice x (some 2) none) <;> rfl
  · rw [if_neg e]
    refine ⟨true, fun _ => ⟨l1, false, congrArg some (beq_false_of_ne e), fun _ => ⟨rfl, _, based_c (by decide) _, ?_⟩⟩⟩
    rintro _ rfl
    cases bnR 10 x <;> rfl
end Mine
section
set_option maxHeartbeats 4000000
namespace Mine
noncomputable def whT (st : List Stmt) : Expr := match st with | .While t _ _ _ :: _ => t | _ => .Name (so "") ⟨0, 0, 0, 0⟩
noncomputable def whB (st : List Stmt) : List Stmt := match st with | .While _ b _ _ :: _ => b | _ => []
noncomputable abbrev prLo (l : NL) (x : Str) (i : Int) : List (Str × D) := [(so "text", .str x), (so "names", .sd (nmKs l) (nmVs l)), (so "at", .int i)]
theorem nthS_at {x : Str} {i : Nat} {c : Nat} {cs : List Nat} (h : x.cps.toList.drop i = c :: cs) (hx : x.length ≤ 1000) : nthS x i = some (.str ⟨#[c]⟩) ∧ i < x.length := by
  have hi : i < x.cps.toList.length := by
    apply Nat.lt_of_not_le
    intro h'
    rw [List.drop_eq_nil_of_le h'] at h
    cases h
  have hi' : i < x.length := by rw [Array.length_toList] at hi; exact hi
  have e : x.cps.toList[i]? = some c := by
    have := List.getElem?_drop (xs := x.cps.toList) (i := i) (j := 0)
    rw [h] at this
    simpa using this.symm
  refine ⟨?_, hi'⟩
  unfold nthS
  rw [inR_in ⟨Int.natCast_nonneg i, Int.ofNat_lt.mpr (Nat.lt_of_lt_of_le hi' (Nat.le_trans hx (by decide)))⟩]
  show (x.cps[(i : Int).toNat]?).map _ = _
  rw [show (i : Int).toNat = i from rfl, ← Array.getElem?_toList, e]; rfl
theorem notin_pm {tr : List (Nat × T)} {c : Nat} {b : Bool} (h : pmc c = b) : cmpB tr .NotIn (.str ⟨#[c]⟩) (.str (Str.ofString "+-")) = some (!b) := by
  subst h
  rfl
theorem pr_scan {m : Nat} {os : List Ora} {l : NL} {x : Str} {K : KB} (hx : x.length ≤ 1000) : ∀ (n : Nat) (cs : List Nat) (i : Nat), n = cs.length → x.cps.toList.drop i = cs → K .next (prLo l x ((i + scan cs : Nat) : Int)) (shY os) →
    whileE (ev cfA (m + 30)) (whT (stmtOf "priority_of" 1)) (whB (stmtOf "priority_of" 1)) (scOf "priority_of") (n + 1) (prLo l x (i : Int)) (shY os) K := by
  intro n
  induction n with
  | zero =>
    intro cs i hn h k
    obtain rfl : cs = [] := List.eq_nil_of_length_eq_zero hn.symm
    have hi : ¬ (i : Int) < (x.length : Int) := by
      have : x.cps.toList.length ≤ i := by
        apply Nat.le_of_not_lt
        intro h'
        rw [List.drop_eq_nil_iff] at h
        omega
      rw [Array.length_toList] at this
      have : x.length ≤ i := this
      omega
    exact ⟨by omega, false, congrArg some (decide_eq_false hi), k⟩
  | succ n ih =>
    intro cs i hn h k
    obtain ⟨c, cs, rfl⟩ : ∃ c r, cs = c :: r := by cases cs with | nil => cases hn | cons c r => exact ⟨c, r, rfl⟩
    have hn : n = cs.length := by rw [List.length_cons] at hn; omega
    obtain ⟨e1, hi⟩ := nthS_at h hx
    unfold scan at k
    have ih' : pmc c = false → ∀ lo', lo' = prLo l x ((i + 1 : Nat) : Int) → whileE (ev cfA (m + 30)) (whT (stmtOf "priority_of" 1)) (whB (stmtOf "priority_of" 1)) (scOf "priority_of") (n + 1) lo' (shY os) K := by
      rintro hc _ rfl
      refine ih cs (i + 1) hn ?_ ?_
      · rw [← List.drop_drop, h]; rfl
      · rw [hc] at k
        rw [show i + 1 + scan cs = i + (scan cs + 1) by omega]; exact k
    clear ih
    generalize hN : n + 1 = N at ih' ⊢
    refine ⟨by omega, true, congrArg some (decide_eq_true (by omega)), .str ⟨#[c]⟩, e1, ?_⟩
    cases hc : pmc c with
    | true =>
      rw [hc] at k
      exact ⟨false, notin_pm hc, k⟩
    | false =>
      refine ⟨true, ?_, ?_⟩
      · exact notin_pm hc
      show (ev cfA (m + 30)).B (whB (stmtOf "priority_of" 1)) _ _ _ _
      refine fun _ => ?_
      exact ih' hc _ rfl
theorem look_lkI {k : Str} {l : NL} : look (nmKs l) (nmVs l) k = (lkI l k).map .int := by
  induction l with
  | nil => rfl
  | cons p l ih =>
    by_cases h : so p.1 = k
    · exact (if_pos h).trans (congrArg (Option.map D.int) (if_pos h : lkI (p :: l) k = some p.2).symm)
    · exact (if_neg h).trans (ih.trans (congrArg (Option.map D.int) (if_neg h : lkI (p :: l) k = lkI l k).symm))
theorem fst_at {t : Str} (h : (t == Str.ofString "") = false) : nthS t 0 = some (.str (fstS t)) := by
  unfold nthS fstS
  rw [show inR 0 = true from rfl]
  have : 0 < t.cps.size := by
    apply Nat.pos_of_ne_zero
    intro h'
    have e : t = Str.ofString "" := by
      obtain ⟨c⟩ := t
      have : c = #[] := Array.eq_empty_of_size_eq_zero h'
      subst this; rfl
    rw [e, beq_self_eq_true] at h
    cases h
  show (t.cps[0]?).map _ = _
  rw [Array.getElem?_eq_getElem this]; rfl
theorem slice_le2 {x : Str} {a b : Option Int} (h : x.length ≤ 1000) : (Txt.slice x a b).length ≤ 1000 := Nat.le_trans (PySem.Txt.slice_le x a b) h
theorem look_some_b {l : NL} {k : Str} : (look (nmKs l) (nmVs l) k).isSome = (lkI l k).isSome := by rw [look_lkI]; cases lkI l k <;> rfl
theorem look_getD {l : NL} {k : Str} : (look (nmKs l) (nmVs l) k).getD (.int 0) = .int ((lkI l k).getD 0) := by rw [look_lkI]; cases lkI l k <;> rfl
theorem notin_sd {tr : List (Nat × T)} {l : NL} {h : Str} {b : Bool} (e : (lkI l h).isSome = b) : cmpB tr .NotIn (.str h) (.sd (nmKs l) (nmVs l)) = some (!b) := by
  subst e
  show some (!(look (nmKs l) (nmVs l) h).isSome) = _
  rw [look_some_b]
theorem eq_str' {tr : List (Nat × T)} {x y : Str} {b : Bool} (e : (x == y) = b) : cmpB tr .Eq (.str x) (.str y) = some b := by subst e; rfl
theorem ne_str' {tr : List (Nat × T)} {x y : Str} {b : Bool} (e : (x == y) = b) : cmpB tr .NotEq (.str x) (.str y) = some (!b) := by subst e; rfl
theorem B_nil {cf : Cf} {m : Nat} {ρ : Loc} {sh : Sh} {K : KB} {X : KX} (k : K .next ρ.lo sh) : (ev cf (m + 1)).B [] ρ sh K X := k
theorem prio_tail {m : Nat} {os : List Ora} {l : NL} {x h t : Str} {i : Int} {K : KB} (ht : t.length ≤ 1000)
    (k : ∀ lo, K (.ret (optD (bif t == Str.ofString "" then some ((lkI l h).getD 0) else prX ((lkI l h).getD 0) t (nw (Txt.slice t (some 1) none))))) lo (shY os)) :
    (ev cfA (m + 113)).B ((bodyOf "priority_of").drop 7) ⟨scOf "priority_of", [(so "text", .str x), (so "names", .sd (nmKs l) (nmVs l)), (so "at", .int i), (so "head", .str h), (so "tail", .str t)]⟩ (shY os) K noX := by
  refine fun _ => ⟨.int ((lkI l h).getD 0), congrArg some look_getD, fun _ => ?_⟩
  cases e1 : t == Str.ofString "" with
  | true =>
    rw [e1] at k
    refine ⟨true, eq_str' e1, fun _ => ?_⟩
    apply k
  | false =>
    rw [e1] at k
    refine ⟨false, eq_str' e1, fun _ => ⟨by omega, rfl, _, word_c (slice_le2 ht) _, ?_⟩⟩
    rintro _ rfl
    cases e2 : nw (Txt.slice t (some 1) none) with
    | none =>
      rw [e2] at k
      refine fun _ => ⟨true, rfl, fun _ => ?_⟩
      apply k
    | some q =>
      rw [e2] at k
      refine fun _ => ⟨false, rfl, fun _ => ⟨_, fst_at e1, ?_⟩⟩
      cases e3 : fstS t == Str.ofString "+" with
      | true =>
        unfold prX at k
        rw [e3] at k
        refine ⟨true, eq_str' e3, fun _ => ?_⟩
        apply k
      | false =>
        unfold prX at k
        rw [e3] at k
        refine ⟨false, eq_str' e3, fun _ => ?_⟩
        apply k
theorem prio_mid {m : Nat} {os : List Ora} {l : NL} {x h t : Str} {i : Int} {K : KB} (ht : t.length ≤ 1000) (e2 : (lkI l h).isSome = true) (e3 : (h == Str.ofString "") = false)
    (k : ∀ lo, K (.ret (optD (bif t == Str.ofString "" then some ((lkI l h).getD 0) else prX ((lkI l h).getD 0) t (nw (Txt.slice t (some 1) none))))) lo (shY os)) :
    (ev cfA (m + 115)).B ((bodyOf "priority_of").drop 5) ⟨scOf "priority_of", [(so "text", .str x), (so "names", .sd (nmKs l) (nmVs l)), (so "at", .int i), (so "head", .str h), (so "tail", .str t)]⟩ (shY os) K noX := by
  refine fun _ => ⟨true, ne_str' e3, false, notin_sd e2, ?_⟩
  refine B_nil ?_
  refine fun _ => ⟨false, eq_str' e3, ?_⟩
  refine B_nil ?_
  exact prio_tail ht k
theorem prio_of_c {m : Nat} {l : NL} {x : Str} (hx : x.length ≤ 1000) (he : lkI l (Str.ofString "") = none) : Told (m + 120) "priority_of" [.sd (nmKs l) (nmVs l), .str x] (fun d => d = optD (prT l x)) := fun sh => by
  refine ⟨true, fun _ _ => ⟨x.cps.toList.length + 1, ?_⟩⟩
  refine pr_scan (m := m + 88) (l := l) hx _ x.cps.toList 0 rfl rfl ?_
  rw [Nat.zero_add]
  have l1 : x.length ≤ 1000000 := by omega
  refine fun _ => ⟨l1, fun _ => ⟨l1, ?_⟩⟩
  generalize hp : prT l x = o
  unfold prT at hp
  have ht := slice_le2 (a := some ((scan x.cps.toList : Nat) : Int)) (b := none) hx
  have hh := slice_le2 (a := none) (b := some ((scan x.cps.toList : Nat) : Int)) hx
  dsimp only at hp
  generalize Txt.slice x (some ((scan x.cps.toList : Nat) : Int)) none = t at ht hp ⊢
  generalize Txt.slice x none (some ((scan x.cps.toList : Nat) : Int)) = h at hh hp ⊢
  have fin : ∀ o' : Option Int, o' = o → fz true [] 9 (optD o') (fun d => d = optD o) := by
    rintro o' rfl
    cases o' <;> rfl
  cases e2 : (lkI l h).isSome with
  | true =>
    have e3 : (h == Str.ofString "") = false := beq_false_of_ne fun z => by rw [z, he] at e2; cases e2
    rw [e2, e3] at hp
    simp only [Bool.not_true, Bool.and_false, Bool.false_and, cond_false] at hp
    cases e1 : t == Str.ofString "" with
    | true =>
      refine fun _ => ⟨true, eq_str' e1, false, notin_sd e2, ?_⟩
      refine B_nil ?_
      apply prio_mid ht e2 e3
      intro lo
      apply fin
      exact hp
    | false =>
      refine fun _ => ⟨false, eq_str' e1, ?_⟩
      refine B_nil ?_
      apply prio_mid ht e2 e3
      intro lo
      apply fin
      exact hp
  | false =>
    rw [e2] at hp
    cases e1 : t == Str.ofString "" with
    | true =>
      rw [e1] at hp
      simp only [Bool.not_false, Bool.and_true, cond_true] at hp
      refine fun _ => ⟨true, eq_str' e1, true, notin_sd e2, fun _ => ⟨rfl, _, word_c hh _, ?_⟩⟩
      rintro _ rfl
      apply fin
      exact hp
    | false =>
      rw [e1] at hp
      cases e3 : h == Str.ofString "" with
      | false =>
        rw [e3] at hp
        simp only [Bool.not_false, Bool.and_true, Bool.false_and, cond_true, cond_false] at hp
        refine fun _ => ⟨false, eq_str' e1, fun _ => ⟨true, ne_str' e3, true, notin_sd e2, fun _ => ?_⟩⟩
        show D.none = optD o
        rw [← hp]; rfl
      | true =>
        rw [e3] at hp
        refine fun _ => ⟨false, eq_str' e1, fun _ => ⟨false, ne_str' e3, fun _ => ⟨true, eq_str' e3, _, fst_at e1, ?_⟩⟩⟩
        cases e4 : fstS t == Str.ofString "+" with
        | true =>
          rw [e4] at hp
          simp only [Bool.not_true, Bool.false_and, Bool.and_true, cond_true, cond_false] at hp
          refine ⟨true, eq_str' e4, fun _ => ?_⟩
          show D.none = optD o
          rw [← hp]; rfl
        | false =>
          rw [e4] at hp
          simp only [Bool.not_true, Bool.false_and, Bool.and_false, cond_false] at hp
          refine ⟨false, eq_str' e4, ?_⟩
          refine B_nil ?_
          refine prio_tail ht fun lo => fin _ ?_
          rw [e1]; exact hp
end Mine
end
namespace Mine
noncomputable def lz (x : Str) : List Nat := x.cps.toList
noncomputable abbrev ms (l : List Nat) : Str := ⟨l.toArray⟩
theorem lz_ms {l : List Nat} : lz (ms l) = l := rfl
theorem ms_lz {x : Str} : ms (lz x) = x := by obtain ⟨⟨l⟩⟩ := x; rfl
theorem lz_inj {x y : Str} (h : lz x = lz y) : x = y := by rw [← ms_lz (x := x), h, ms_lz]
theorem lz_append {x y : Str} : lz (x ++ y) = lz x ++ lz y := by
  show (x.cps ++ y.cps).toList = _
  rw [Array.toList_append]; rfl
theorem lz_len {x : Str} : (lz x).length = x.length := Array.length_toList
theorem str_assoc {x y z : Str} : x ++ y ++ z = x ++ (y ++ z) := lz_inj (by rw [lz_append, lz_append, lz_append, lz_append, List.append_assoc])
theorem slice_to_le {x : Str} {n : Nat} (h : n ≤ x.length) : Txt.slice x none (some (n : Int)) = ms ((lz x).take n) :=
  (eq_of_beq (slice_closes_toL (Int.natCast_nonneg n) (Int.ofNat_le.mpr h))).trans (congrArg (fun k : Int => ms ((lz x).take k.toNat)) (Int.sub_zero (n : Int)))
theorem slice_to {x : Str} {n : Nat} : Txt.slice x none (some (n : Int)) = ms ((lz x).take n) := by
  rcases Nat.le_total n x.length with h | h
  · exact slice_to_le h
  · have e : Txt.slice x none (some (n : Int)) = Txt.slice x none (some (x.length : Int)) := by
      show StrLaws.sliceText x none (some (n : Int)) = StrLaws.sliceText x none (some (x.length : Int))
      unfold StrLaws.sliceText
      rw [sliceIdx_hi_beyond x.length (Int.ofNat_le.mpr h)]
    rw [e, slice_to_le (Nat.le_refl _), List.take_of_length_le (Nat.le_of_eq lz_len), List.take_of_length_le (Nat.le_trans (Nat.le_of_eq lz_len) h)]
theorem slice_from {x : Str} {n : Nat} : Txt.slice x (some (n : Int)) none = ms ((lz x).drop n) := by
  rcases Nat.le_total n x.length with h | h
  · refine (slice_from_eq (Int.natCast_nonneg n) (Int.ofNat_le.mpr h) rfl).trans (congrArg ms ?_)
    exact List.take_of_length_le (by rw [List.length_drop]; exact Nat.le_of_eq ((congrArg (· - n) lz_len).trans (Int.toNat_sub _ _).symm))
  · rw [slice_beyond (Int.ofNat_le.mpr h), List.drop_of_length_le (Nat.le_trans (Nat.le_of_eq lz_len) h)]; rfl
theorem ms_inj {a b : List Nat} : ms a = ms b ↔ a = b := ⟨fun h => by have := congrArg lz h; exact this, fun h => by rw [h]⟩
theorem so_empty : Str.ofString "" = ms [] := by decide +kernel
theorem so_0x : Str.ofString "0x" = ms [48, 120] := by decide +kernel
theorem so_plus : Str.ofString "+" = ms [43] := by decide +kernel
theorem ms_beq {a b : List Nat} : (ms a == ms b) = decide (a = b) := by
  by_cases h : a = b
  · subst h; rw [beq_self_eq_true, decide_eq_true rfl]
  · rw [decide_eq_false h, beq_false_of_ne fun e => h (ms_inj.mp e)]
theorem bnR_ms {b : Int} {l : List Nat} : bnR b (ms l) = if l = [] then none else bn b l 0 := by
  unfold bnR
  rw [so_empty]
  by_cases h : l = []
  · rw [if_pos h, if_pos (ms_inj.mpr h)]
  · rw [if_neg h, if_neg fun e => h (ms_inj.mp e)]
theorem nw_ms {l : List Nat} : nw (ms l) = if l.take 2 = [48, 120] then bnR 16 (ms (l.drop 2)) else bnR 10 (ms l) := by
  unfold nw
  have s1 : Txt.slice (ms l) none (some 2) = ms (l.take 2) := slice_to (n := 2)
  have s2 : Txt.slice (ms l) (some 2) none = ms (l.drop 2) := slice_from (n := 2)
  rw [s1, s2, so_0x]
  by_cases h : l.take 2 = [48, 120]
  · rw [if_pos h, if_pos (ms_inj.mpr h)]
  · rw [if_neg h, if_neg fun e => h (ms_inj.mp e)]
theorem scan_app {h t : List Nat} (hh : ∀ c ∈ h, pmc c = false) (ht : t = [] ∨ ∃ c r, t = c :: r ∧ pmc c = true) : scan (h ++ t) = h.length := by
  induction h with
  | nil =>
    rcases ht with rfl | ⟨c, r, rfl, hc⟩
    · rfl
    · show scan (c :: r) = 0
      unfold scan; rw [hc]; rfl
  | cons c h ih =>
    show scan (c :: (h ++ t)) = _
    unfold scan
    rw [hh c (List.mem_cons_self ..), ih fun d hd => hh d (List.mem_cons_of_mem _ hd)]
    rfl
noncomputable def prZ (l : NL) (h t : Str) : Option Int :=
  bif t == Str.ofString "" && !(lkI l h).isSome then nw h
  else bif !(h == Str.ofString "") && !(lkI l h).isSome then none
  else bif h == Str.ofString "" && fstS t == Str.ofString "+" then none
  else bif t == Str.ofString "" then some ((lkI l h).getD 0)
  else prX ((lkI l h).getD 0) t (nw (Txt.slice t (some 1) none))
noncomputable def prM (n : Int) (pl : Bool) (o : Option Int) : Option Int := o.map fun q => bif pl then n + q else n - q
noncomputable def prB (te he pl : Bool) (o nh nr : Option Int) : Option Int :=
  bif te && !o.isSome then nh else bif !he && !o.isSome then none else bif he && pl then none else bif te then some (o.getD 0) else prM (o.getD 0) pl nr
theorem ms_beq1 {a b : Nat} : (ms [a] == ms [b]) = decide (a = b) := by
  by_cases h : a = b
  · subst h; rw [beq_self_eq_true, decide_eq_true rfl]
  · rw [decide_eq_false h, beq_false_of_ne fun e => h (List.cons.inj (ms_inj.mp e)).1]
theorem prX_eq {n : Int} {t : Str} {o : Option Int} : prX n t o = prM n (fstS t == Str.ofString "+") o := by
  cases o with
  | none => rfl
  | some q =>
    show (bif fstS t == Str.ofString "+" then some (n + q) else some (n - q)) = some (bif fstS t == Str.ofString "+" then n + q else n - q)
    cases fstS t == Str.ofString "+" <;> rfl
theorem fst_ms {t : List Nat} : fstS (ms t) = ms [t.headD 0] := by cases t <;> rfl
theorem prZ_eq {l : NL} {h t : List Nat} : prZ l (ms h) (ms t) = prB (decide (t = [])) (decide (h = [])) (decide (t.headD 0 = 43)) (lkI l (ms h)) (nw (ms h)) (nw (ms (t.drop 1))) := by
  have s : Txt.slice (ms t) (some 1) none = ms (t.drop 1) := slice_from (n := 1)
  unfold prZ prB
  rw [prX_eq, fst_ms, s, so_plus, so_empty, ms_beq, ms_beq, ms_beq1]
theorem pr_form {l : NL} {x : Str} {h t : List Nat} (e : lz x = h ++ t) (hh : ∀ c ∈ h, pmc c = false) (ht : t = [] ∨ ∃ c r, t = c :: r ∧ pmc c = true) : prT l x = prB (decide (t = [])) (decide (h = [])) (decide (t.headD 0 = 43)) (lkI l (ms h)) (nw (ms h)) (nw (ms (t.drop 1))) := by
  have s0 : scan x.cps.toList = h.length := (congrArg scan e).trans (scan_app hh ht)
  have s1 : Txt.slice x none (some ((scan x.cps.toList : Nat) : Int)) = ms h := by rw [s0, slice_to, e, List.take_left' rfl]
  have s2 : Txt.slice x (some ((scan x.cps.toList : Nat) : Int)) none = ms t := by rw [s0, slice_from, e, List.drop_left' rfl]
  show prZ l (Txt.slice x none (some ((scan x.cps.toList : Nat) : Int))) (Txt.slice x (some ((scan x.cps.toList : Nat) : Int)) none) = _
  rw [s1, s2, prZ_eq]
theorem bn_one {b : Int} {c : Nat} {r : List Nat} {a d : Int} (hd : dig c = d) (h0 : 0 ≤ d) (h1 : d < b) : bn b (c :: r) a = bn b r (a * b + d) := by
  subst hd
  exact (if_neg (Int.not_lt.mpr h0)).trans (if_neg (Int.not_le.mpr h1))
theorem bn_dg1 {b d c a : Nat} {r : List Nat} (hd : dig c = (d : Int)) (h : d < b) : bn (b : Int) (c :: r) (a : Int) = bn (b : Int) r ((a * b + d : Nat) : Int) := bn_one hd (Int.natCast_nonneg d) (Int.ofNat_lt.mpr h)
noncomputable def hxc (d : Nat) : Nat := if d < 10 then 48 + d else 87 + d
noncomputable def hxu (d : Nat) : Nat := if d < 10 then 48 + d else 55 + d
theorem dig_hx : ∀ d < 16, dig (hxc d) = d ∧ dig (hxu d) = d := by decide +kernel
theorem dig_dec : ∀ d < 10, dig (48 + d) = d := by decide +kernel
theorem nat_ofNat16 : ∀ d < 10, (Nat.digitChar d).toNat = 48 + d := by decide +kernel
noncomputable def dgL (b : Nat) (f : Nat → Nat) (n : Nat) : List Nat := if h : n < b + 2 then [f n] else dgL b f (n / (b + 2)) ++ [f (n % (b + 2))]
termination_by n
decreasing_by exact Nat.div_lt_self (Nat.lt_of_lt_of_le (Nat.succ_pos _) (Nat.le_of_not_lt h)) (Nat.le_add_left 2 b)
section
variable {b : Nat} {f : Nat → Nat}
theorem dg_small {n : Nat} (h : n < b + 2) : dgL b f n = [f n] := by unfold dgL; exact dif_pos h
theorem dg_step {n : Nat} (h : ¬ n < b + 2) : dgL b f n = dgL b f (n / (b + 2)) ++ [f (n % (b + 2))] := by
  conv => lhs; unfold dgL
  exact dif_neg h
theorem dg_ind {P : Nat → Prop} (small : ∀ n, n < b + 2 → P n) (step : ∀ n, ¬ n < b + 2 → P (n / (b + 2)) → P n) (n : Nat) : P n := by
  induction n using Nat.strongRecOn with
  | _ n ih =>
    by_cases h : n < b + 2
    · exact small n h
    · exact step n h (ih _ (Nat.div_lt_self (Nat.lt_of_lt_of_le (Nat.succ_pos _) (Nat.le_of_not_lt h)) (Nat.le_add_left 2 b)))
theorem bn_dg (hf : ∀ d < b + 2, dig (f d) = d) (m : Nat) : ∀ r, bn ((b + 2 : Nat) : Int) (dgL b f m ++ r) ((0 : Nat) : Int) = bn ((b + 2 : Nat) : Int) r (m : Int) := by
  induction m using dg_ind (b := b) with
  | small n h =>
    intro r
    rw [dg_small h]
    exact (bn_dg1 (hf n h) h).trans (congrArg (fun k : Nat => bn ((b + 2 : Nat) : Int) r (k : Int)) (by rw [Nat.zero_mul, Nat.zero_add]))
  | step n h ih =>
    intro r
    have h' := Nat.mod_lt n (Nat.succ_pos (b + 1))
    rw [dg_step h, List.append_assoc, ih]
    exact (bn_dg1 (hf _ h') h').trans (congrArg (fun k : Nat => bn ((b + 2 : Nat) : Int) r (k : Int)) (Nat.div_add_mod' n (b + 2)))
theorem dg_all {P : Nat → Prop} (hp : ∀ d < b + 2, P (f d)) (m : Nat) : ∀ c ∈ dgL b f m, P c := by
  induction m using dg_ind (b := b) with
  | small n h =>
    intro c hc
    rw [dg_small h] at hc
    obtain rfl := List.mem_singleton.mp hc
    exact hp n h
  | step n h ih =>
    intro c hc
    rw [dg_step h] at hc
    rcases List.mem_append.mp hc with hc | hc
    · exact ih c hc
    · obtain rfl := List.mem_singleton.mp hc
      exact hp _ (Nat.mod_lt n (Nat.succ_pos (b + 1)))
theorem dg_ne (m : Nat) : dgL b f m ≠ [] := by
  by_cases h : m < b + 2
  · rw [dg_small h]; exact List.cons_ne_nil _ _
  · rw [dg_step h]; exact List.append_ne_nil_of_right_ne_nil _ (List.cons_ne_nil _ _)
end
noncomputable abbrev decL (m : Nat) : List Nat := dgL 8 (48 + ·) m
theorem dec_toD (m : Nat) : (Nat.toDigits 10 m).map Char.toNat = decL m := by
  induction m using dg_ind (b := 8) with
  | small n h =>
    rw [Nat.toDigits_of_lt_base h, decL, dg_small h]
    exact congrArg (fun x => [x]) (nat_ofNat16 n h)
  | step n h ih =>
    rw [Nat.toDigits_of_base_le (by decide) (Nat.le_of_not_lt h), List.map_append, ih]
    refine Eq.trans ?_ (dg_step h).symm
    exact congrArg (fun x => decL (n / 10) ++ [x]) (nat_ofNat16 _ (Nat.mod_lt n (by decide)))
theorem lz_dec {m : Nat} : lz (Str.ofString (toString (m : Int))) = decL m := by
  have e : toString (m : Int) = String.ofList (Nat.toDigits 10 m) := (Int.toString_eq_repr ..).trans Nat.repr_eq_ofList_toDigits
  rw [PySem.Str.ofString_eq_toList, e, String.toList_ofList]
  exact dec_toD m
theorem bn_dec (m : Nat) (r : List Nat) : bn 10 (decL m ++ r) 0 = bn 10 r m := bn_dg (b := 8) dig_dec m r
noncomputable abbrev hexL (f : Nat → Nat) (n : Nat) : List Nat := dgL 14 f n
theorem hexL_small {f : Nat → Nat} {n : Nat} (h : n < 16) : hexL f n = [f n] := dg_small h
theorem hexL_step {f : Nat → Nat} {n : Nat} (h : ¬ n < 16) : hexL f n = hexL f (n / 16) ++ [f (n % 16)] := dg_step h
theorem bn_hex {f : Nat → Nat} (hf : ∀ d < 16, dig (f d) = d) (m : Nat) (r : List Nat) : bn 16 (hexL f m ++ r) 0 = bn 16 r m := bn_dg (b := 14) hf m r
theorem dec_all {P : Nat → Prop} (h : ∀ d < 10, P (48 + d)) (m : Nat) : ∀ c ∈ decL m, P c := dg_all (b := 8) h m
theorem hex_all {f : Nat → Nat} {P : Nat → Prop} (h : ∀ d < 16, P (f d)) (m : Nat) : ∀ c ∈ hexL f m, P c := dg_all (b := 14) h m
theorem dec_ne (m : Nat) : decL m ≠ [] := dg_ne m
theorem hex_ne {f : Nat → Nat} (m : Nat) : hexL f m ≠ [] := dg_ne m
end Mine
namespace Mine
theorem placed_flat {x : Str} {f : Nat → List Nat} : (placed x fun _ c => f c).toList = ((lz x).map f).flatten := by
  unfold placed lz
  rw [Array.toList_flatten, Array.toList_mapIdx]
  refine congrArg List.flatten ?_
  generalize x.cps.toList = l
  apply List.ext_getElem?
  intro i
  rw [List.getElem?_map, List.getElem?_mapIdx, List.getElem?_map]
  cases l[i]? <;> rfl
theorem upper_lz {x : Str} : lz (Txt.upper x) = ((lz x).map Unicode.upperOf).flatten := placed_flat
theorem up_hx : ∀ d < 16, Unicode.upperOf (hxc d) = [hxu d] := by decide +kernel
theorem upper_hexL (m : Nat) : ((hexL hxc m).map Unicode.upperOf).flatten = hexL hxu m := by
  induction m using dg_ind (b := 14) with
  | small m h => rw [hexL_small h, hexL_small h, ← up_hx m h]; exact List.append_nil _
  | step m h ih =>
    rw [hexL_step h, hexL_step h, List.map_append, List.flatten_append, ← up_hx (m % 16) (Nat.mod_lt m (by decide))]
    exact congr (congrArg List.append ih) (List.append_nil _)
theorem upper_hex (m : Nat) : lz (Txt.upper (ms (hexL hxc m))) = hexL hxu m := upper_lz.trans (upper_hexL m)
noncomputable def chkP (l : NL) (p : String × Int) : Bool :=
  (lz (so p.1)).all (fun c => !pmc c) && decide (lkI l (so p.1) = some p.2) && decide (97 ≤ (lz (so p.1)).headD 0) && (lz (Txt.upper (so p.1))).all (fun c => !pmc c) && decide (lkI l (Txt.upper (so p.1)) = none) && decide (nw (Txt.upper (so p.1)) = none) && decide ((so p.1).length ≤ 8)
noncomputable def strg (l : NL) : String := bif l.any (fun p => decide (p.1 = "out")) then "raw" else "out"
noncomputable def chkL (l : NL) : Bool := l.all (chkP l) && decide (lkI l (so (strg l)) = none)
theorem chk_all : ∀ i < 7, ∀ j < 7, chkL (nmB i j) = true := by decide +kernel
theorem strg_np {l : NL} : (∀ c ∈ lz (so (strg l)), pmc c = false) ∧ lz (so (strg l)) ≠ [] := by
  unfold strg
  cases l.any (fun p => decide (p.1 = "out")) <;> exact ⟨by decide +kernel, by decide +kernel⟩
structure Lok (l : NL) : Prop where
  all : ∀ p ∈ l, chkP l p = true
  st : lkI l (so (strg l)) = none
theorem lok {i j : Nat} (hi : i < 7) (hj : j < 7) : Lok (nmB i j) := by
  obtain ⟨a, b⟩ := Bool.and_eq_true_iff.mp (chk_all i hi j hj)
  exact ⟨List.all_eq_true.mp a, of_decide_eq_true b⟩
structure Pok (l : NL) (p : String × Int) : Prop where
  np : ∀ c ∈ lz (so p.1), pmc c = false
  lk : lkI l (so p.1) = some p.2
  hd : 97 ≤ (lz (so p.1)).headD 0
  unp : ∀ c ∈ lz (Txt.upper (so p.1)), pmc c = false
  ulk : lkI l (Txt.upper (so p.1)) = none
  unw : nw (Txt.upper (so p.1)) = none
  len : (so p.1).length ≤ 8
theorem Lok.p {l : NL} (x : Lok l) {p : String × Int} (h : p ∈ l) : Pok l p := by
  obtain ⟨q, g⟩ := Bool.and_eq_true_iff.mp (x.all p h)
  obtain ⟨q, f⟩ := Bool.and_eq_true_iff.mp q
  obtain ⟨q, e⟩ := Bool.and_eq_true_iff.mp q
  obtain ⟨q, d⟩ := Bool.and_eq_true_iff.mp q
  obtain ⟨q, c⟩ := Bool.and_eq_true_iff.mp q
  obtain ⟨a, b⟩ := Bool.and_eq_true_iff.mp q
  exact ⟨fun c hc => notT (List.all_eq_true.mp a c hc), of_decide_eq_true b, of_decide_eq_true c, fun c hc => notT (List.all_eq_true.mp d c hc), of_decide_eq_true e, of_decide_eq_true f, of_decide_eq_true g⟩
theorem lkI_none {k : Str} {l : NL} (h : ∀ p ∈ l, so p.1 ≠ k) : lkI l k = none := by
  induction l with
  | nil => rfl
  | cons p l ih => exact (if_neg (h p (List.mem_cons_self ..))).trans (ih fun q hq => h q (List.mem_cons_of_mem _ hq))
theorem Lok.low {l : NL} (x : Lok l) {k : List Nat} (h : k.headD 0 < 97) : lkI l (ms k) = none := lkI_none fun p hp e => by
  have := (x.p hp).hd
  rw [e, lz_ms] at this
  exact Nat.not_lt.mpr this h
theorem Lok.nil {l : NL} (x : Lok l) : lkI l (ms []) = none := x.low (by decide)
theorem dec_lt {d : Nat} (h : d < 10) : 48 + d < 58 := Nat.add_lt_add_left h 48
theorem dec_cons (m : Nat) : ∃ c t, decL m = c :: t ∧ c < 58 ∧ ∀ d ∈ t, d < 58 := by
  have := dec_all (P := fun c => c < 58) (fun d => dec_lt) m
  cases e : decL m with
  | nil => exact absurd e (dec_ne m)
  | cons c t => rw [e] at this; exact ⟨c, t, rfl, List.forall_mem_cons.mp this⟩
theorem dec_head {m : Nat} {r : List Nat} : (decL m ++ r).headD 0 < 97 := by
  obtain ⟨c, t, e, h, _⟩ := dec_cons m
  rw [e]
  exact Nat.lt_trans h (by decide)
theorem dec_np (m : Nat) : ∀ c ∈ decL m, pmc c = false := dec_all (by decide +kernel) m
theorem hex_np (m : Nat) : ∀ c ∈ hexL hxc m, pmc c = false := hex_all (by decide +kernel) m
theorem snd_out {a b : Nat} {r : List Nat} (h : (a :: b :: r).take 2 = [48, 120]) : b = 120 := (List.cons.inj (List.cons.inj h).2).1
theorem fst_out {a : Nat} {r : List Nat} (h : (a :: r).take 2 = [48, 120]) : a = 48 := (List.cons.inj h).1
theorem dec_2 {m : Nat} {r : List Nat} (hr : r.headD 0 ≠ 120) : (decL m ++ r).take 2 ≠ [48, 120] := by
  obtain ⟨c, t, e, _, h⟩ := dec_cons m
  rw [e]
  cases t with
  | cons d t => exact fun q => absurd (h d (List.mem_cons_self ..)) (snd_out q ▸ (by decide))
  | nil => cases r with
    | nil => exact fun q => nomatch q
    | cons d r => exact fun q => hr (snd_out q)
theorem bnR_ne {b : Int} {l : List Nat} (h : l ≠ []) : bnR b (ms l) = bn b l 0 := bnR_ms.trans (if_neg h)
theorem nw_n {r : List Nat} (h : r.take 2 ≠ [48, 120]) : nw (ms r) = bnR 10 (ms r) := nw_ms.trans (if_neg h)
theorem nw_dec' {m : Nat} {r : List Nat} (hr : r.headD 0 ≠ 120) : nw (ms (decL m ++ r)) = bn 10 r m := (nw_n (dec_2 hr)).trans ((bnR_ne (List.append_ne_nil_of_left_ne_nil (dec_ne m) r)).trans (bn_dec m r))
theorem nw_dec (m : Nat) : nw (ms (decL m)) = some (m : Int) := (congrArg (fun l => nw (ms l)) (List.append_nil (decL m)).symm).trans (nw_dec' (m := m) (r := []) (by decide))
theorem bnR_cons {b : Int} {c : Nat} {r : List Nat} : bnR b (ms (c :: r)) = bn b (c :: r) 0 := bnR_ne (List.cons_ne_nil _ _)
theorem nw_x {r : List Nat} : nw (ms (48 :: 120 :: r)) = bnR 16 (ms r) := nw_ms.trans (if_pos rfl)
theorem nw_hex {f : Nat → Nat} (hf : ∀ d < 16, dig (f d) = d) (m : Nat) : nw (ms (48 :: 120 :: hexL f m)) = some (m : Int) :=
  (nw_x.trans (bnR_ne (hex_ne m))).trans ((congrArg (fun l => bn 16 l 0) (List.append_nil (hexL f m)).symm).trans (bn_hex hf m []))
theorem nw_nil : nw (ms []) = none := by decide +kernel
theorem nw_0x : nw (ms [48, 120]) = none := by decide +kernel
theorem dig_pm : dig 43 < 0 ∧ dig 45 < 0 ∧ dig 88 < 0 := by decide +kernel
theorem bn_bad {b : Int} {c : Nat} {r : List Nat} {a : Int} (h : dig c < 0) : bn b (c :: r) a = none := if_pos h
theorem pm43 : pmc 43 = true := by decide +kernel
theorem pm45 : pmc 45 = true := by decide +kernel
noncomputable abbrev tm (m : Nat) : Str := Str.ofString (toString (m : Int))
noncomputable abbrev lowS (m : Nat) : Str := ms (hexL hxc m)
noncomputable abbrev highS (m : Nat) : Str := so "0x" ++ Txt.upper (lowS m)
theorem lz_lit : lz (so "+") = [43] ∧ lz (so "-") = [45] ∧ lz (so "00") = [48, 48] ∧ lz (so "--") = [45, 45] ∧ lz (so "0x") = [48, 120] ∧ lz (so "") = [] ∧ lz (so "+0x") = [43, 48, 120] ∧ lz (so "-0X") = [45, 48, 88] := by decide +kernel
noncomputable def spT (nm : Str) (st : Str) (m : Nat) : Nat → Str
  | 0 => nm
  | 1 => nm ++ so "+" ++ tm m
  | 2 => nm ++ so "-" ++ highS m
  | 3 => so "00" ++ tm m
  | 4 => so "-" ++ tm m
  | 5 => so "+" ++ tm m
  | 6 => nm ++ so "+"
  | 7 => st ++ so "-" ++ tm m
  | 8 => tm m ++ so "+" ++ tm m
  | 9 => nm ++ so "--" ++ tm m
  | 10 => so "0x" ++ lowS m
  | 11 => so "0x"
  | 12 => so ""
  | 13 => nm ++ so "+0x"
  | 14 => Txt.upper nm
  | 15 => nm ++ so "+" ++ tm m ++ so "+" ++ tm m
  | 16 => nm ++ so "-0X" ++ lowS m
  | _ => so "-" ++ highS m
noncomputable def spD (v : Int) (m : Nat) : Nat → Option Int
  | 0 => some v
  | 1 => some (v + m)
  | 2 => some (v - m)
  | 3 => some m
  | 4 => some (-m)
  | 10 => some m
  | 17 => some (-m)
  | _ => none
theorem Pok.ne {l : NL} {p} (x : Pok l p) : lz (so p.1) ≠ [] := fun e => by have := x.hd; rw [e] at this; exact absurd this (by decide)
section
variable {l : NL} {p : String × Int}
theorem sp_nm (x : Lok l) (P : Pok l p) {c : Nat} {r : List Nat} {y : Str} (hc : pmc c = true) (e : lz y = lz (so p.1) ++ c :: r) : prT l y = prM p.2 (decide (c = 43)) (nw (ms r)) := by
  have hlk : lkI l (ms (lz (so p.1))) = some p.2 := ms_lz.symm ▸ P.lk
  rw [pr_form e P.np (.inr ⟨c, r, rfl, hc⟩), decide_eq_false P.ne, hlk]; rfl
theorem sp_no (x : Lok l) {h : List Nat} {y : Str} (e : lz y = h) (h0 : h.headD 0 < 97) (hc : ∀ c ∈ h, pmc c = false) : prT l y = nw (ms h) := by
  rw [pr_form (h := h) (t := []) (e.trans (List.append_nil h).symm) hc (.inl rfl), x.low h0]; rfl
theorem sp_pm (x : Lok l) {c : Nat} {r : List Nat} {y : Str} (hc : pmc c = true) (e : lz y = c :: r) : prT l y = prB false true (decide (c = 43)) none (nw (ms [])) (nw (ms r)) := by
  rw [pr_form (h := []) (t := c :: r) e (fun c hc => absurd hc List.not_mem_nil) (.inr ⟨c, r, rfl, hc⟩), x.nil]; rfl
theorem sp_un {h : List Nat} {c : Nat} {r : List Nat} {y : Str} (hl : lkI l (ms h) = none) (hn : h ≠ []) (hp : ∀ c ∈ h, pmc c = false) (hc : pmc c = true) (e : lz y = h ++ c :: r) : prT l y = none := by
  rw [pr_form e hp (.inr ⟨c, r, rfl, hc⟩), hl, decide_eq_false hn]; rfl
theorem lz2 {a b : Str} {B C : List Nat} (ha : lz a = B) (hb : lz b = C) : lz (a ++ b) = B ++ C := by subst ha hb; exact lz_append
theorem lz3 {a b c : Str} {B C : List Nat} (hb : lz b = B) (hc : lz c = C) : lz (a ++ b ++ c) = lz a ++ (B ++ C) := by subst hb hc; rw [lz_append, lz_append, List.append_assoc]
theorem lz_high {m : Nat} : lz (highS m) = 48 :: 120 :: hexL hxu m := lz2 (B := [48, 120]) (by decide +kernel) (upper_hex m)
theorem all2 {P : Nat → Prop} {a b : Nat} {r : List Nat} (ha : P a) (hb : P b) (h : ∀ c ∈ r, P c) : ∀ c ∈ a :: b :: r, P c := List.forall_mem_cons.mpr ⟨ha, List.forall_mem_cons.mpr ⟨hb, h⟩⟩
theorem bn_00 (m : Nat) : nw (ms (48 :: 48 :: decL m)) = some (m : Int) := by
  have d0 : dig 48 = ((0 : Nat) : Int) := by decide +kernel
  have h := bn_dec m []
  rw [List.append_nil] at h
  exact (nw_n (fun h => absurd (snd_out h) (by decide))).trans (bnR_cons.trans ((bn_dg1 (b := 10) (a := 0) d0 (by decide)).trans ((bn_dg1 (b := 10) (a := 0) d0 (by decide)).trans h)))
theorem pm48 : pmc 48 = false ∧ pmc 120 = false := by decide +kernel
theorem up_none (P : Pok l p) : prT l (Txt.upper (so p.1)) = none := by
  rw [pr_form (h := lz (Txt.upper (so p.1))) (t := []) (List.append_nil _).symm P.unp (.inl rfl), ms_lz, P.ulk, P.unw]; rfl
theorem nm_some (P : Pok l p) : prT l (so p.1) = some p.2 := by
  rw [pr_form (h := lz (so p.1)) (t := []) (List.append_nil _).symm P.np (.inl rfl), ms_lz, P.lk, decide_eq_false P.ne]; rfl
theorem sp_ok (x : Lok l) (hp : p ∈ l) (m : Nat) : ∀ k < 18, prT l (spT (so p.1) (so (strg l)) m k) = spD p.2 m k := by
  have P := x.p hp
  obtain ⟨z1, z2, z3, z4, z5, z6, z7, z8⟩ := lz_lit
  intro k hk
  match k, hk with
  | 0, _ => exact nm_some P
  | 1, _ => exact (sp_nm x P pm43 (r := decL m) (lz3 z1 lz_dec)).trans (congrArg (prM p.2 true) (nw_dec m))
  | 2, _ => exact (sp_nm x P pm45 (r := 48 :: 120 :: hexL hxu m) (lz3 z2 lz_high)).trans (congrArg (prM p.2 false) (nw_hex (fun d hd => (dig_hx d hd).2) m))
  | 3, _ => exact (sp_no x (h := 48 :: 48 :: decL m) (lz2 z3 lz_dec) (by show 48 < 97; decide) (all2 pm48.1 pm48.1 (dec_np m))).trans (bn_00 m)
  | 4, _ => exact (sp_pm x pm45 (r := decL m) (lz2 z2 lz_dec)).trans ((congrArg (prM 0 false) (nw_dec m)).trans (congrArg some (Int.zero_sub _)))
  | 5, _ => exact sp_pm x pm43 (r := decL m) (lz2 z1 lz_dec)
  | 6, _ => exact (sp_nm x P pm43 (r := []) (lz2 rfl z1)).trans (congrArg (prM p.2 true) nw_nil)
  | 7, _ => exact sp_un (ms_lz.symm ▸ x.st) strg_np.2 strg_np.1 pm45 (r := decL m) (lz3 z2 lz_dec)
  | 8, _ => exact sp_un (x.low (List.append_nil (decL m) ▸ dec_head (m := m) (r := []))) (dec_ne m) (dec_np m) pm43 (r := decL m) ((lz3 z1 lz_dec).trans (congrArg (· ++ 43 :: decL m) lz_dec))
  | 9, _ => exact (sp_nm x P pm45 (r := 45 :: decL m) (lz3 z4 lz_dec)).trans (congrArg (prM p.2 false) ((nw_n (fun h => absurd (fst_out h) (by decide))).trans (bnR_cons.trans (bn_bad dig_pm.2.1))))
  | 10, _ => exact (sp_no x (y := so "0x" ++ lowS m) (h := [48, 120] ++ hexL hxc m) (lz2 z5 lz_ms) (by show 48 < 97; decide) (all2 pm48.1 pm48.2 (hex_np m))).trans (nw_hex (fun d hd => (dig_hx d hd).1) m)
  | 11, _ => exact (sp_no x z5 (by decide) (by decide +kernel)).trans nw_0x
  | 12, _ => exact (sp_no x z6 (by decide) (fun c hc => absurd hc List.not_mem_nil)).trans nw_nil
  | 13, _ => exact (sp_nm x P pm43 (r := [48, 120]) (lz2 rfl z7)).trans (congrArg (prM p.2 true) nw_0x)
  | 14, _ => exact up_none P
  | 15, _ => exact (sp_nm x P pm43 (r := decL m ++ 43 :: decL m) ((lz3 (a := so p.1 ++ so "+" ++ tm m) z1 lz_dec).trans ((congrArg (· ++ 43 :: decL m) (lz3 z1 lz_dec)).trans (List.append_assoc ..)))).trans (congrArg (prM p.2 true) ((nw_dec' (m := m) (r := 43 :: decL m) (show 43 ≠ 120 by decide)).trans (bn_bad dig_pm.1)))
  | 16, _ => exact (sp_nm x P pm45 (r := 48 :: 88 :: hexL hxc m) (lz3 z8 lz_ms)).trans (congrArg (prM p.2 false) ((nw_n (fun h => absurd (snd_out h) (by decide))).trans (bnR_cons.trans ((bn_dg1 (b := 10) (d := 0) (a := 0) (by decide +kernel) (by decide)).trans (bn_bad dig_pm.2.2)))))
  | 17, _ => exact (sp_pm x pm45 (r := 48 :: 120 :: hexL hxu m) (lz2 z2 lz_high)).trans ((congrArg (prM 0 false) (nw_hex (fun d hd => (dig_hx d hd).2) m)).trans (congrArg some (Int.zero_sub _)))
  | k + 18, hk => exact absurd hk (Nat.not_lt.mpr (Nat.le_add_left 18 k))
end
end Mine
namespace Mine
noncomputable def absI (x : Int) : Int := if x < 0 then -x else x
noncomputable def ltB (b : Int) (y : Str) (v : Int) (x : Str) : Bool := bif decide (v = b) then decide (x.cps.toList < y.cps.toList) else decide (v < b)
noncomputable def mn (n : Int) : String × Int → NL → String × Int
  | b, [] => b
  | b, p :: l => bif ltB (absI (n - b.2)) (so b.1) (absI (n - p.2)) (so p.1) then mn n p l else mn n b l
noncomputable def mnOk (n : Int) : String × Int → NL → Bool
  | b, [] => true
  | b, p :: l => (decide (absI (n - p.2) ≠ absI (n - b.2)) || decide (so p.1 ≠ so b.1)) && mnOk n (bif ltB (absI (n - b.2)) (so b.1) (absI (n - p.2)) (so p.1) then p else b) l
noncomputable def oT (l : NL) (n : Int) : Str := match l with
  | [] => so ""
  | p :: l => bif decide (absI (n - (mn n p l).2) = 0) then so (mn n p l).1 else bif decide (10 < absI (n - (mn n p l).2)) then Str.ofString (toString n) else
    so (mn n p l).1 ++ (bif decide ((mn n p l).2 < n) then so " + " else so " - ") ++ Str.ofString (toString (absI (n - (mn n p l).2)))
noncomputable def numB (l : NL) (d : Nat) : Int := match l[d % l.length]? with
  | some p => p.2 + ((d / l.length : Nat) : Int) - 13
  | none => 0
noncomputable def bNat (n : Nat) (K : Nat → Bool) : Bool := match n with
  | 0 => K 0
  | m + 1 => K (m + 1)
noncomputable def bInt (i : Int) (K : Int → Bool) : Bool := match i with
  | .ofNat n => bNat n fun n => K (.ofNat n)
  | .negSucc n => bNat n fun n => K (.negSucc n)
noncomputable def bList : List Nat → (List Nat → Bool) → Bool
  | [], K => K []
  | x :: r, K => bNat x fun x => bList r fun r => K (x :: r)
noncomputable def bStr (x : Str) (K : Str → Bool) : Bool := bList x.cps.toList fun l => K ⟨⟨l⟩⟩
theorem bNat_eq {n : Nat} {K} : bNat n K = K n := by cases n <;> rfl
theorem bInt_eq {n : Int} {K} : bInt n K = K n := by cases n with
  | ofNat n => exact (bNat_eq (n := n) (K := fun n => K (.ofNat n)))
  | negSucc n => exact (bNat_eq (n := n) (K := fun n => K (.negSucc n)))
theorem bList_eq {l : List Nat} : ∀ {K}, bList l K = K l := by
  induction l with
  | nil => exact rfl
  | cons x r ih => exact fun {K} => bNat_eq.trans (ih (K := fun r => K (x :: r)))
theorem bStr_eq {x : Str} {K} : bStr x K = K x := bList_eq (K := fun l => K ⟨⟨l⟩⟩)
noncomputable def mnOk0 (l : NL) (n : Int) : Bool := match l with
  | [] => false
  | p :: r => mnOk n p r
noncomputable def chkD (l : NL) (d : Nat) : Bool := bInt (numB l d) fun n => bStr (oT l n) fun t => bStr (Txt.replace t (so " ") (so "")) fun u =>
  mnOk0 l n && decide (ppT l n = t) && decide (prT l u = some n) && decide (t.length ≤ 40) && decide (n.natAbs ≤ 1000) && decide (u.length ≤ 100)
noncomputable def nmCls : List NL := [nmB 3 0, nmB 4 0, nmB 4 1, nmB 4 3, nmB 4 4, nmB 0 0, nmB 0 1, nmB 0 2]
theorem nm_cls : ∀ i < 7, ∀ j < 7, nmB i j ∈ nmCls := by decide +kernel
theorem chk_0 : ∀ d < 27, chkD (nmB 3 0) d = true := by decide +kernel
theorem chk_1 : ∀ d < 54, chkD (nmB 4 0) d = true := by decide +kernel
theorem chk_2 : ∀ d < 27, chkD (nmB 4 1) d = true := by decide +kernel
theorem chk_3 : ∀ d < 54, chkD (nmB 4 3) d = true := by decide +kernel
theorem chk_4 : ∀ d < 54, chkD (nmB 4 4) d = true := by decide +kernel
theorem cut2 {P : Nat → Prop} {m k : Nat} (a : ∀ d < m, P d) (b : ∀ d < k, P (m + d)) : ∀ d < m + k, P d := fun d h =>
  if q : d < m then a d q else
    have e : m + (d - m) = d := Nat.add_sub_cancel' (Nat.not_lt.mp q)
    e ▸ b (d - m) (Nat.lt_of_add_lt_add_left (e.symm ▸ h))
theorem chk_5a : ∀ d < 45, chkD (nmB 0 0) d = true := by decide +kernel
theorem chk_5b : ∀ d < 45, chkD (nmB 0 0) (45 + d) = true := by decide +kernel
theorem chk_5c : ∀ d < 45, chkD (nmB 0 0) (45 + (45 + d)) = true := by decide +kernel
theorem chk_5 : ∀ d < 135, chkD (nmB 0 0) d = true := cut2 (m := 45) (k := 90) chk_5a (cut2 (P := fun d => chkD (nmB 0 0) (45 + d) = true) (m := 45) (k := 45) chk_5b chk_5c)
theorem chk_6a : ∀ d < 45, chkD (nmB 0 1) d = true := by decide +kernel
theorem chk_6b : ∀ d < 45, chkD (nmB 0 1) (45 + d) = true := by decide +kernel
theorem chk_6c : ∀ d < 45, chkD (nmB 0 1) (45 + (45 + d)) = true := by decide +kernel
theorem chk_6 : ∀ d < 135, chkD (nmB 0 1) d = true := cut2 (m := 45) (k := 90) chk_6a (cut2 (P := fun d => chkD (nmB 0 1) (45 + d) = true) (m := 45) (k := 45) chk_6b chk_6c)
theorem chk_7a : ∀ d < 36, chkD (nmB 0 2) d = true := by decide +kernel
theorem chk_7b : ∀ d < 36, chkD (nmB 0 2) (36 + d) = true := by decide +kernel
theorem chk_7c : ∀ d < 36, chkD (nmB 0 2) (36 + (36 + d)) = true := by decide +kernel
theorem chk_7 : ∀ d < 108, chkD (nmB 0 2) d = true := cut2 (m := 36) (k := 72) chk_7a (cut2 (P := fun d => chkD (nmB 0 2) (36 + d) = true) (m := 36) (k := 36) chk_7b chk_7c)
theorem chk_d : ∀ l ∈ nmCls, ∀ d < 27 * l.length, chkD l d = true :=
  List.forall_mem_cons.mpr ⟨chk_0, List.forall_mem_cons.mpr ⟨chk_1, List.forall_mem_cons.mpr ⟨chk_2, List.forall_mem_cons.mpr ⟨chk_3, List.forall_mem_cons.mpr ⟨chk_4, List.forall_mem_cons.mpr ⟨chk_5, List.forall_mem_cons.mpr ⟨chk_6, List.forall_mem_cons.mpr ⟨chk_7, fun l h => absurd h List.not_mem_nil⟩⟩⟩⟩⟩⟩⟩⟩
structure Dok (l : NL) (d : Nat) (n : Int) : Prop where
  mn : mnOk0 l n = true
  pp : ppT l n = oT l n
  pr : prT l (Txt.replace (oT l n) (so " ") (so "")) = some n
  len : (oT l n).length ≤ 40
  abs : n.natAbs ≤ 1000
  rl : (Txt.replace (oT l n) (so " ") (so "")).length ≤ 100
theorem dok {i j : Nat} (hi : i < 7) (hj : j < 7) {d : Nat} (hd : d < 27 * (nmB i j).length) : Dok (nmB i j) d (numB (nmB i j) d) := by
  have q := (bInt_eq (n := numB (nmB i j) d)).symm.trans (chk_d _ (nm_cls i hi j hj) d hd)
  have q := (bStr_eq (x := oT (nmB i j) (numB (nmB i j) d))).symm.trans q
  have q := bStr_eq.symm.trans q
  obtain ⟨q, g⟩ := Bool.and_eq_true_iff.mp q
  obtain ⟨q, f⟩ := Bool.and_eq_true_iff.mp q
  obtain ⟨q, e⟩ := Bool.and_eq_true_iff.mp q
  obtain ⟨q, c⟩ := Bool.and_eq_true_iff.mp q
  obtain ⟨a, b⟩ := Bool.and_eq_true_iff.mp q
  exact ⟨a, of_decide_eq_true b, of_decide_eq_true c, of_decide_eq_true e, of_decide_eq_true f, of_decide_eq_true g⟩
end Mine
section
set_option maxHeartbeats 4000000
namespace Mine
theorem hook_len {j : Nat} (h : j < 7) : (hookN j).length ≤ 20 := (by decide +kernel : ∀ j < 7, (hookN j).length ≤ 20) j h
noncomputable def btT (a h dv p : Str) : Str := bif dv == Str.ofString "" then so "type " ++ a ++ so " hook " ++ h ++ so " priority " ++ p else so "type " ++ a ++ so " hook " ++ h ++ (so " device \"" ++ dv ++ so "\"") ++ so " priority " ++ p
theorem lits : (so "type ").length ≤ 10 ∧ (so " hook ").length ≤ 10 ∧ (so " device \"").length ≤ 10 ∧ (so "\"").length ≤ 10 ∧ (so " priority ").length ≤ 10 := by decide +kernel
theorem app_len {a b : Str} : (a ++ b).length = a.length + b.length := PySem.Str.length_append ..
theorem cl {a b : Str} {n m : Nat} (ha : a.length ≤ n) (hb : b.length ≤ m) : (a ++ b).length ≤ n + m := app_len ▸ Nat.add_le_add ha hb
theorem cm {a b : Str} {n m : Nat} (ha : a.length ≤ n) (hb : b.length ≤ m) (h : Nat.ble (n + m) 1000000 = true) : a.length + b.length ≤ 1000000 := Nat.le_trans (Nat.add_le_add ha hb) (Nat.le_of_ble_eq_true h)
theorem base_text_c {m i j : Nat} {n : Int} {a dv : Str} (hi : i < 7) (hj : j < 7) (hn : n.natAbs < 10 ^ 9) (ha : a.length ≤ 100) (hd : dv.length ≤ 100) (hp : (ppT (nmB i j) n).length ≤ 100) :
    Told (m + 100) "base_text" [.str (famN i), .tup [.str a, .str (hookN j), .int n, .str dv]] (fun d => d = .str (btT a (hookN j) dv (ppT (nmB i j) n))) := fun sh => by
  have hl := hook_len hj
  obtain ⟨l1, l2, l3, l4, l5⟩ := lits
  have c1 := cl l1 ha
  have c2 := cl c1 l2
  have c3 := cl c2 hl
  refine ⟨true, fun _ _ => ⟨cm l1 ha rfl, cm c1 l2 rfl, cm c2 hl rfl, fun _ => ?_⟩⟩
  unfold btT
  cases e : dv == Str.ofString "" with
  | true =>
    refine ⟨false, ne_str' e, ?_⟩
    refine B_nil ?_
    refine fun _ => ⟨cm c3 l5 rfl, rfl, _, print_c hi hj hn _, ?_⟩
    rintro _ rfl
    exact ⟨cm (cl c3 l5) hp rfl, rfl⟩
  | false =>
    have d1 := cl l3 hd
    have d2 := cl d1 l4
    have d3 := cl c3 d2
    refine ⟨true, ne_str' e, fun _ => ⟨cm l3 hd rfl, cm d1 l4 rfl, cm c3 d2 rfl, ?_⟩⟩
    refine B_nil ?_
    refine fun _ => ⟨cm d3 l5 rfl, rfl, _, print_c hi hj hn _, ?_⟩
    rintro _ rfl
    exact ⟨cm (cl d3 l5) hp rfl, rfl⟩
end Mine
end
section
set_option maxHeartbeats 4000000
namespace Mine
noncomputable def argE (e : Expr) : Option Expr := match e with
  | .Call _ as _ _ => as.head?
  | _ => none
noncomputable def valS (s : Stmt) : Option Expr := match s with
  | .Assign _ v _ => some v
  | _ => none
noncomputable def noE : Expr := .Name (so "") ⟨0, 0, 0, 0⟩
noncomputable def lcOf (st : List Stmt) : Expr := ((st.head?.bind valS).bind argE).getD noE
noncomputable def lcV (e : Expr) : Option (Expr × List (Str × NameKind)) := match e with
  | .ListComp e _ s _ => some (e, s.names)
  | _ => none
noncomputable def lcElt (e : Expr) : Expr := ((lcV e).map (·.1)).getD e
noncomputable def lcSc (e : Expr) : List (Str × NameKind) := ((lcV e).map (·.2)).getD []
theorem withO_mk {α : Type} {o : Option α} {x : α} {f : α → Prop} (e : o = some x) (h : f x) : withO o f := by subst e; exact h
theorem compE_s {r : Ev} {elt : Expr} {x : Str} {sc : List (Str × NameKind)} {d0 : D} {k m i : Nat} {lo : List (Str × D)} {sh : Sh} {K : KE} {ds : List D} {d : D} (h : lstT sh.tr d0 = some ds) (e : ds[i]? = some d)
    (q : nrmD d sh fun d => r.E elt ⟨sc, put lo x d⟩ sh fun v sh => nrmD v sh fun v => callB (.bi "list.append") [.ref k, v] sh fun _ sh => compE r elt x sc d0 k m (i + 1) (put lo x d) sh K) : compE r elt x sc d0 k (m + 1) i lo sh K := withO_mk h (withO_mk e q)
theorem compE_z {r : Ev} {elt : Expr} {x : Str} {sc : List (Str × NameKind)} {d0 : D} {k i : Nat} {lo : List (Str × D)} {sh : Sh} {K : KE} {ds : List D} (h : lstT sh.tr d0 = some ds) (e : ds[i]? = none)
    (q : K (.ref k) sh) : compE r elt x sc d0 k 0 i lo sh K := withO_mk h (by rw [e]; exact q)
noncomputable def tupM (n : Int) (p : String × Int) : D := .tup [.int (absI (n - p.2)), .str (so p.1), .int p.2]
noncomputable def nmD (p : String × Int) : D := .tup [.str (so p.1), .int p.2]
noncomputable abbrev mcLo (n : Int) : Option D → List (Str × D)
  | none => [(so "number", .int n)]
  | some d => [(so "number", .int n), (so "one", d)]
noncomputable abbrev mcS : Expr := lcOf (stmtOf "_law_base_holds" 2)
theorem mid_at {α β : Type} {f : α → β} {a : List α} {p : α} {r : List α} : ((a ++ p :: r).map f)[a.length]? = some (f p) := by
  rw [List.getElem?_map, List.getElem?_append_right (Nat.le_refl _), Nat.sub_self]; rfl
theorem min_comp {m : Nat} {os : List Ora} {l : NL} {n : Int} {K : KE} (hl : l.length ≤ 1000) (k : K (.ref 0) ⟨[(0, .lst (l.map (tupM n)))], 1, true, os⟩) (rest : NL) : ∀ (done : NL) (o : Option D), l = done ++ rest →
    compE (ev cfA (m + 30)) (lcElt mcS) (so "one") (relab (lcSc mcS) (scOf "_law_base_holds")) (nlD l) 0 rest.length done.length (mcLo n o) ⟨[(0, .lst (done.map (tupM n)))], 1, true, os⟩ K := by
  induction rest with
  | nil =>
    intro done o e
    rw [List.append_nil] at e
    subst e
    exact compE_z rfl (List.getElem?_eq_none (Nat.le_of_eq (List.length_map ..))) k
  | cons p rest ih =>
    intro done o e
    have ih' : ∀ lo' i' xs, lo' = mcLo n (some (nmD p)) → i' = done.length + 1 → xs = done.map (tupM n) ++ [tupM n p] →
        compE (ev cfA (m + 30)) (lcElt mcS) (so "one") (relab (lcSc mcS) (scOf "_law_base_holds")) (nlD l) 0 rest.length i' lo' ⟨[(0, .lst xs)], 1, true, os⟩ K := by
      rintro _ _ _ rfl rfl rfl
      have := ih (done ++ [p]) (some (nmD p)) (e.trans (List.append_assoc done [p] rest).symm)
      rw [List.length_append, List.map_append] at this
      exact this
    clear ih
    have hd : (done.map (tupM n)).length ≤ 100000 := by
      rw [List.length_map]
      rw [e, List.length_append] at hl
      exact Nat.le_trans (Nat.le_trans (Nat.le_add_right _ _) hl) (by decide)
    have eg : (l.map nmD)[done.length]? = some (nmD p) := e ▸ mid_at
    refine compE_s rfl eg ?_
    cases o <;> exact ⟨_, rfl, _, rfl, _, rfl, hd, ih' _ _ _ rfl rfl rfl⟩
section
variable {tr : List (Nat × T)} {nn : Nat} {os : List Ora}
theorem lt_k {b v : Int} {x y : Str} {r q : List D} {K : Bool → Sh → Prop} (ne : v = b → y ≠ x) (k : K (ltB b x v y) ⟨tr, nn, true, os⟩) : ltK b (.str x :: r) v (.str y :: q) ⟨tr, nn, true, os⟩ K := by
  unfold ltB at k
  cases c : decide (v = b) with
  | true => rw [c] at k; exact ⟨true, c, ne (of_decide_eq_true c), _, rfl, k⟩
  | false => rw [c] at k; exact ⟨false, c, _, rfl, k⟩
theorem min_k {n : Int} {K : KE} (l : NL) : ∀ b : String × Int, mnOk n b l = true → K (tupM n (mn n b l)) ⟨tr, nn, true, os⟩ → minK (absI (n - b.2)) [.str (so b.1), .int b.2] (l.map (tupM n)) ⟨tr, nn, true, os⟩ K := by
  induction l with
  | nil => exact fun b _ k => k
  | cons p l ih =>
    intro b ok k
    obtain ⟨o1, o2⟩ := Bool.and_eq_true_iff.mp ok
    refine lt_k (K := fun c sh => match c with
      | true => minK (absI (n - p.2)) [.str (so p.1), .int p.2] (l.map (tupM n)) sh K
      | false => minK (absI (n - b.2)) [.str (so b.1), .int b.2] (l.map (tupM n)) sh K) (fun h => ?_) ?_
    · rcases Bool.or_eq_true_iff.mp o1 with o1 | o1
      · exact absurd h (of_decide_eq_true o1)
      · exact of_decide_eq_true o1
    · unfold mn at k
      cases c : ltB (absI (n - b.2)) (so b.1) (absI (n - p.2)) (so p.1) with
      | true => rw [c] at o2 k; exact ih p o2 k
      | false => rw [c] at o2 k; exact ih b o2 k
end
end Mine
end
section
set_option maxHeartbeats 400000
namespace Mine
theorem hex_ats : (List.range 16).map (fun d : Nat => nthS (so "0123456789abcdef") (d : Int)) = (List.range 16).map (fun d => some (.str (ms [hxc d]))) := by kernel_rfl
theorem hex_nth {n : Nat} : nthS (so "0123456789abcdef") (Int.fmod (n : Int) 16) = some (.str (ms [hxc (n % 16)])) :=
  (congrArg (nthS (so "0123456789abcdef")) (fmod_nat n 16)).trans (List.map_inj_left.mp hex_ats _ (List.mem_range.mpr (Nat.mod_lt n (by decide))))
noncomputable def hexR (n : Nat) (t : Str) : Str := bif decide (n = 0) then t else ms (hexL hxc n) ++ t
theorem hexR_step {n : Nat} (h : n ≠ 0) {t : Str} : hexR (n / 16) (ms [hxc (n % 16)] ++ t) = hexR n t := by
  unfold hexR
  rw [decide_eq_false h]
  by_cases h2 : n < 16
  · rw [decide_eq_true (Nat.div_eq_of_lt h2), hexL_small h2, Nat.mod_eq_of_lt h2]; rfl
  · rw [decide_eq_false (Nat.ne_of_gt (Nat.div_pos (Nat.le_of_not_lt h2) (by decide))), hexL_step h2]
    show ms (hexL hxc (n / 16)) ++ (ms [hxc (n % 16)] ++ t) = ms (hexL hxc (n / 16) ++ [hxc (n % 16)]) ++ t
    rw [← str_assoc]
    exact congrArg (· ++ t) (lz_inj lz_append)
theorem hex_len {f : Nat → Nat} (N : Nat) : ∀ n, n < 16 ^ (N + 1) → (hexL f n).length ≤ N + 1 := by
  induction N with
  | zero => exact fun n h => Nat.le_of_eq (congrArg List.length (hexL_small h))
  | succ N ih =>
    intro n h
    by_cases h2 : n < 16
    · rw [hexL_small h2]; exact Nat.succ_le_succ (Nat.zero_le _)
    · rw [hexL_step h2, List.length_append]
      exact Nat.succ_le_succ (ih (n / 16) (Nat.div_lt_of_lt_mul ((Nat.pow_succ' (m := 16)) ▸ h)))
noncomputable abbrev hxLo (n : Nat) (t : Str) : List (Str × D) := [(so "n", .int n), (so "text", .str t)]
theorem gt0 {n : Nat} {b : Bool} (h : decide (0 < n) = b) {tr : List (Nat × T)} : cmpB tr .Gt (.int (n : Int)) (.int 0) = some b := by
  subst h
  exact congrArg some (decide_eq_decide.mpr Int.ofNat_lt)
theorem hx_ne {a : Nat} {t : Str} : (ms [a] ++ t == Str.ofString "") = false := beq_false_of_ne fun z => by
  have := congrArg lz z
  rw [lz_append, so_empty] at this
  cases this
theorem hx_len {a : Nat} {t : Str} : (ms [a] ++ t).length = 1 + t.length := app_len
noncomputable abbrev hexW (m N : Nat) (lo : List (Str × D)) (os : List Ora) (K : KB) : Prop := whileE (ev cfA (m + 30)) (whT (stmtOf "_law_hex" 1)) (whB (stmtOf "_law_hex" 1)) (scOf "_law_hex") N lo (shY os) K
theorem hex_body {m : Nat} {os : List Ora} {n : Nat} {t : Str} {K : KB} (ht : t.length ≤ 1000)
    (k : ∀ lo, lo = hxLo (n / 16) (ms [hxc (n % 16)] ++ t) → K .next lo (shY os)) :
    (ev cfA (m + 30)).B (whB (stmtOf "_law_hex" 1)) ⟨scOf "_law_hex", hxLo n t⟩ (shY os) K noX := by
  have e : Int.fdiv (n : Int) 16 = ((n / 16 : Nat) : Int) := fdiv_nat n 16
  refine fun _ => ⟨by decide, _, hex_nth, Nat.le_trans (Nat.add_le_add_left ht 1) (by decide), fun _ => ⟨by decide, ?_⟩⟩
  exact k _ (congrArg (fun i => [(so "n", D.int i), (so "text", .str (ms [hxc (n % 16)] ++ t))]) e)
theorem hex_loop {m : Nat} {os : List Ora} {K : KB} (N : Nat) : ∀ (n : Nat) (t : Str), n < 16 ^ N → (t == Str.ofString "") = false → t.length + N ≤ 1000 → (∀ lo, lo = hxLo 0 (hexR n t) → K .next lo (shY os)) → hexW m (N + 1) (hxLo n t) os K := by
  induction N with
  | zero =>
    intro n t hn ht hl k
    obtain rfl : n = 0 := Nat.lt_one_iff.mp hn
    exact ⟨false, gt0 rfl, false, eq_str' ht, k _ rfl⟩
  | succ N ih =>
    intro n t hn ht hl k
    by_cases h : n = 0
    · subst h
      generalize N + 1 = N'
      exact ⟨false, gt0 rfl, false, eq_str' ht, k _ rfl⟩
    · have ih' : ∀ lo', lo' = hxLo (n / 16) (ms [hxc (n % 16)] ++ t) → hexW m (N + 1) lo' os K := by
        rintro _ rfl
        refine ih (n / 16) _ (Nat.div_lt_of_lt_mul ((Nat.pow_succ' (m := 16)) ▸ hn)) hx_ne ?_ ?_
        · rw [hx_len, Nat.add_assoc, Nat.add_left_comm, Nat.add_comm 1 N]; exact hl
        · rw [hexR_step h]; exact k
      clear ih
      generalize hN : N + 1 = N' at ih' ⊢
      refine ⟨true, gt0 (decide_eq_true (Nat.pos_of_ne_zero h)), ?_⟩
      show (ev cfA (m + 30)).B (whB (stmtOf "_law_hex" 1)) _ _ _ _
      exact hex_body (Nat.le_trans (Nat.le_add_right _ _) hl) ih'
theorem low_ne {n : Nat} : hexR (n / 16) (ms [hxc (n % 16)] ++ Str.ofString "") = lowS n := by
  by_cases h : n = 0
  · subst h; decide +kernel
  · rw [hexR_step h]
    unfold hexR
    rw [decide_eq_false h, so_empty]
    exact lz_inj (lz_append.trans (List.append_nil _))
theorem hex_c {m n : Nat} (hn : n < 65536) : Told (m + 60) "_law_hex" [.int n] (fun d => d = .str (lowS n)) := fun sh => by
  refine ⟨true, fun _ _ => ⟨6, ?_⟩⟩
  have e0 : (Str.ofString "").length = 0 := by decide +kernel
  have go : ∀ K : KB, (∀ lo, lo = hxLo 0 (lowS n) → K .next lo (shY sh.os)) → ∀ lo', lo' = hxLo (n / 16) (ms [hxc (n % 16)] ++ Str.ofString "") → hexW (m + 28) 5 lo' sh.os K := by
    rintro K k _ rfl
    refine hex_loop (m := m + 28) 4 (n / 16) _ (Nat.lt_of_le_of_lt (Nat.div_le_self n 16) hn) hx_ne ?_ ?_
    · rw [hx_len, e0]; decide
    · rw [low_ne]; exact k
  generalize hN : (5 : Nat) = N5 at go
  rw [show (6 : Nat) = N5 + 1 from congrArg Nat.succ hN]
  have e0 := Nat.le_trans (Nat.le_of_eq e0) (Nat.zero_le 1000)
  cases e : decide (0 < n) with
  | true =>
    refine ⟨true, gt0 e, ?_⟩
    show (ev cfA (m + 58)).B (whB (stmtOf "_law_hex" 1)) ⟨scOf "_law_hex", hxLo n (Str.ofString "")⟩ (shY sh.os) _ _
    refine hex_body (m := m + 28) (n := n) e0 (go _ ?_)
    rintro _ rfl
    exact fun _ => rfl
  | false =>
    refine ⟨false, gt0 e, true, eq_str' (beq_self_eq_true _), ?_⟩
    show (ev cfA (m + 58)).B (whB (stmtOf "_law_hex" 1)) ⟨scOf "_law_hex", hxLo n (Str.ofString "")⟩ (shY sh.os) _ _
    refine hex_body (m := m + 28) (n := n) e0 (go _ ?_)
    rintro _ rfl
    exact fun _ => rfl
end Mine
end
section
set_option maxHeartbeats 400000
namespace Mine
noncomputable def r18 : List Nat := [0, 1, 2, 3, 4, 5, 6, 7, 8, 9, 10, 11, 12, 13, 14, 15, 16, 17]
noncomputable abbrev spP (nm st : Str) (v : Int) (m k : Nat) : D := .tup [.str (spT nm st m k), optD (spD v m k)]
noncomputable def spL (nm st : Str) (v : Int) (m : Nat) : List D := r18.map (spP nm st v m)
structure Lits3 : Prop where
  z1 : (so "00").length ≤ 3
  z2 : (so "+").length ≤ 3
  z3 : (so "-").length ≤ 3
  z4 : (so "--").length ≤ 3
  z5 : (so "0x").length ≤ 3
  z6 : (so "+0x").length ≤ 3
  z7 : (so "-0X").length ≤ 3
  z8 : (so "").length ≤ 3
theorem lits3 : Lits3 := ⟨by decide +kernel, by decide +kernel, by decide +kernel, by decide +kernel, by decide +kernel, by decide +kernel, by decide +kernel, by decide +kernel⟩
noncomputable def retV (s : Stmt) : Option Expr := match s with
  | .Return e _ => e
  | _ => none
noncomputable def retE (st : List Stmt) : Expr := ((st.head?.bind retV)).getD noE
noncomputable def eltsV (e : Expr) : Option (List Expr × Pos) := match e with
  | .List es p => some (es, p)
  | _ => none
noncomputable def spX : List Expr × Pos := (eltsV (retE (stmtOf "_law_spellings" 3))).getD ([], ⟨0, 0, 0, 0⟩)
noncomputable def spE (k : Nat) : Expr := (spX.1[k]?).getD noE
noncomputable abbrev spLo (nm st : Str) (v : Int) (n : Nat) : List (Str × D) := [(so "strange", .str st), (so "m", .int n), (so "number", .int v), (so "name", .str nm), (so "told", .str (tm n)), (so "low", .str (lowS n)), (so "high", .str (highS n))]
structure SpL (nm st : Str) (n : Nat) : Prop where
  nm : nm.length ≤ 8
  st : st.length ≤ 8
  T : (tm n).length ≤ 21
  L : (lowS n).length ≤ 4
  H : (highS n).length ≤ 7
theorem spL_ok {nm st : Str} {n : Nat} (hq : n < 65536) (h1 : nm.length ≤ 8) (h2 : st.length ≤ 8) : SpL nm st n :=
  ⟨h1, h2, len_int (g := (n : Int)) (Nat.lt_trans hq (by decide)), hex_len 3 n hq, cl lits3.z5 (by rw [← lz_len, upper_hex]; exact hex_len 3 n hq)⟩
noncomputable abbrev SpE (m : Nat) (os : List Ora) (nm st : Str) (v : Int) (n k : Nat) : Prop := ∀ K : KE, K (spP nm st v n k) (shY os) → (ev cfA (m + 30)).E (spE k) ⟨scOf "_law_spellings", spLo nm st v n⟩ (shY os) K
section
variable {m : Nat} {os : List Ora} {nm st : Str} {v : Int} {n : Nat} (h : SpL nm st n)
include h
theorem spE_0 : SpE m os nm st v n 0 := fun K k => k
theorem spE_1 : SpE m os nm st v n 1 := fun K k => ⟨cm h.nm lits3.z2 rfl, cm (cl h.nm lits3.z2) h.T rfl, k⟩
theorem spE_2 : SpE m os nm st v n 2 := fun K k => ⟨cm h.nm lits3.z3 rfl, cm (cl h.nm lits3.z3) h.H rfl, k⟩
theorem spE_3 : SpE m os nm st v n 3 := fun K k => ⟨cm lits3.z1 h.T rfl, k⟩
theorem spE_4 : SpE m os nm st v n 4 := fun K k => ⟨cm lits3.z3 h.T rfl, k⟩
theorem spE_5 : SpE m os nm st v n 5 := fun K k => ⟨cm lits3.z2 h.T rfl, k⟩
theorem spE_6 : SpE m os nm st v n 6 := fun K k => ⟨cm h.nm lits3.z2 rfl, k⟩
theorem spE_7 : SpE m os nm st v n 7 := fun K k => ⟨cm h.st lits3.z3 rfl, cm (cl h.st lits3.z3) h.T rfl, k⟩
theorem spE_8 : SpE m os nm st v n 8 := fun K k => ⟨cm h.T lits3.z2 rfl, cm (cl h.T lits3.z2) h.T rfl, k⟩
theorem spE_9 : SpE m os nm st v n 9 := fun K k => ⟨cm h.nm lits3.z4 rfl, cm (cl h.nm lits3.z4) h.T rfl, k⟩
theorem spE_10 : SpE m os nm st v n 10 := fun K k => ⟨cm lits3.z5 h.L rfl, k⟩
theorem spE_11 : SpE m os nm st v n 11 := fun K k => k
theorem spE_12 : SpE m os nm st v n 12 := fun K k => k
theorem spE_13 : SpE m os nm st v n 13 := fun K k => ⟨cm h.nm lits3.z6 rfl, k⟩
theorem spE_14 : SpE m os nm st v n 14 := fun K k => ⟨Nat.le_trans h.nm (by decide), k⟩
theorem spE_15 : SpE m os nm st v n 15 := fun K k => ⟨cm h.nm lits3.z2 rfl, cm (cl h.nm lits3.z2) h.T rfl, cm (cl (cl h.nm lits3.z2) h.T) lits3.z2 rfl, cm (cl (cl (cl h.nm lits3.z2) h.T) lits3.z2) h.T rfl, k⟩
theorem spE_16 : SpE m os nm st v n 16 := fun K k => ⟨cm h.nm lits3.z7 rfl, cm (cl h.nm lits3.z7) h.L rfl, k⟩
theorem spE_17 : SpE m os nm st v n 17 := fun K k => ⟨cm lits3.z3 h.H rfl, k⟩
theorem spE_all : ∀ k < 18, SpE m os nm st v n k := fun k hk => by
  rcases or18 hk with rfl | rfl | rfl | rfl | rfl | rfl | rfl | rfl | rfl | rfl | rfl | rfl | rfl | rfl | rfl | rfl | rfl | rfl
  · exact spE_0 h
  · exact spE_1 h
  · exact spE_2 h
  · exact spE_3 h
  · exact spE_4 h
  · exact spE_5 h
  · exact spE_6 h
  · exact spE_7 h
  · exact spE_8 h
  · exact spE_9 h
  · exact spE_10 h
  · exact spE_11 h
  · exact spE_12 h
  · exact spE_13 h
  · exact spE_14 h
  · exact spE_15 h
  · exact spE_16 h
  · exact spE_17 h
theorem sp_len {k : Nat} (hu : (Txt.upper nm).length ≤ 1000) (hk : k < 18) : (spT nm st n k).length ≤ 1000 := by
  rcases or18 hk with rfl | rfl | rfl | rfl | rfl | rfl | rfl | rfl | rfl | rfl | rfl | rfl | rfl | rfl | rfl | rfl | rfl | rfl
  · exact Nat.le_trans h.nm (by decide)
  · exact Nat.le_trans (cl (cl h.nm lits3.z2) h.T) (by decide)
  · exact Nat.le_trans (cl (cl h.nm lits3.z3) h.H) (by decide)
  · exact Nat.le_trans (cl lits3.z1 h.T) (by decide)
  · exact Nat.le_trans (cl lits3.z3 h.T) (by decide)
  · exact Nat.le_trans (cl lits3.z2 h.T) (by decide)
  · exact Nat.le_trans (cl h.nm lits3.z2) (by decide)
  · exact Nat.le_trans (cl (cl h.st lits3.z3) h.T) (by decide)
  · exact Nat.le_trans (cl (cl h.T lits3.z2) h.T) (by decide)
  · exact Nat.le_trans (cl (cl h.nm lits3.z4) h.T) (by decide)
  · exact Nat.le_trans (cl lits3.z5 h.L) (by decide)
  · exact Nat.le_trans lits3.z5 (by decide)
  · exact Nat.le_trans lits3.z8 (by decide)
  · exact Nat.le_trans (cl h.nm lits3.z6) (by decide)
  · exact hu
  · exact Nat.le_trans (cl (cl (cl (cl h.nm lits3.z2) h.T) lits3.z2) h.T) (by decide)
  · exact Nat.le_trans (cl (cl h.nm lits3.z7) h.L) (by decide)
  · exact Nat.le_trans (cl lits3.z3 h.H) (by decide)
end
end Mine
end
section
set_option maxHeartbeats 400000
namespace Mine
theorem spell_go {m : Nat} {os : List Ora} {nm st : Str} {v : Int} {n : Nat} (h : SpL nm st n) (ks : List Nat) : ∀ K : List D → Sh → Prop, (∀ k ∈ ks, k < 18) → K (ks.map (spP nm st v n)) (shY os) → evL (ev cfA (m + 30)) (ks.map spE) ⟨scOf "_law_spellings", spLo nm st v n⟩ (shY os) K := by
  induction ks with
  | nil => exact fun K _ k => k
  | cons i ks ih =>
    intro K hk k
    obtain ⟨h1, h2⟩ := List.forall_mem_cons.mp hk
    exact spE_all h i h1 _ (ih (fun ds sh => K (spP nm st v n i :: ds) sh) h2 k)
theorem spE_list : retE (stmtOf "_law_spellings" 3) = .List (r18.map spE) spX.2 := by kernel_rfl
theorem spE_star : noStar (r18.map spE) = true := by decide +kernel
theorem E_list {cf : Cf} {m : Nat} {es : List Expr} {p} {ρ : Loc} {sh : Sh} {K : KE} (h : noStar es = true) (k : evL (ev cf m) es ρ sh fun ds sh => (match decide (ds.length ≤ 1000) with | true => K (.ref sh.n) { sh with tr := (sh.n, .lst ds) :: sh.tr, n := sh.n + 1 } | false => False)) : (ev cf (m + 1)).E (.List es p) ρ sh K := by
  show (match noStar es with | true => _ | false => _)
  rw [h]; exact k
theorem ret_step {cf : Cf} {P : Ev → Stmt → Loc → Sh → KB → KX → Prop} {r : Ev} {e : Expr} {p : Pos} {ρ : Loc} {sh : Sh} {K : KB} {X : KX} (h : r.E e ρ sh fun d sh => K (.ret d) ρ.lo sh) : stepS cf P r (.Return (some e) p) ρ sh K X := h
theorem spell_c {m n : Nat} {nm st : Str} {v : Int} (hn : n < 65536) (hnm : nm.length ≤ 8) (hst : st.length ≤ 8) : Told (m + 80) "_law_spellings" [.str nm, .int v, .int n, .str st] (fun d => d = .lst (spL nm st v n)) := fun sh => by
  have S : SpL nm st n := spL_ok hn hnm hst
  refine ⟨true, fun _ => ⟨Nat.lt_trans hn (by decide), fun _ => ⟨rfl, _, hex_c hn _, ?_⟩⟩⟩
  rintro _ rfl
  have u : (Txt.upper (lowS n)).length ≤ 4 := by rw [← lz_len, upper_hex]; exact hex_len 3 n hn
  refine fun _ => ⟨Nat.le_trans S.L (by decide), cm lits3.z5 u rfl, ?_⟩
  have key : ∀ K : KE, K (.ref 0) ⟨[(0, .lst (spL nm st v n))], 1, true, sh.os⟩ → (ev cfA (m + 76)).E (retE (stmtOf "_law_spellings" 3)) ⟨scOf "_law_spellings", spLo nm st v n⟩ (shY sh.os) K := by
    intro K k
    rw [spE_list]
    refine E_list spE_star ?_
    exact spell_go (m := m + 45) S r18 _ (by decide) k
  refine fun _ => ?_
  refine ret_step ?_
  refine key _ ?_
  rfl
end Mine
end
section
set_option maxHeartbeats 400000
namespace Mine
theorem sp_nth {tr : List (Nat × T)} {nm st : Str} {v : Int} {n k : Nat} (h : k < 18) : itemOf tr (.lst (spL nm st v n)) (.int (k : Int)) = some (spP nm st v n k) := by
  rcases or18 h with rfl | rfl | rfl | rfl | rfl | rfl | rfl | rfl | rfl | rfl | rfl | rfl | rfl | rfl | rfl | rfl | rfl | rfl <;> rfl
theorem up_nm : ∀ i < 7, ∀ j < 7, (nmB i j).all (fun p => decide ((Txt.upper (so p.1)).length ≤ 1000)) = true := by decide +kernel
theorem named_at {tr : List (Nat × T)} {i j : Nat} (hi : i < 7) (hj : j < 7) : itemOf tr namedD (.tup [.str (famN i), .str (hookN j)]) = some (nlD (nmB i j)) :=
  for49 (f := fun i j => itemOf tr namedD (.tup [.str (famN i), .str (hookN j)])) (g := fun i j => some (nlD (nmB i j))) (by kernel_rfl) hi hj
theorem notin_out {tr : List (Nat × T)} {i j : Nat} {b : Bool} (hi : i < 7) (hj : j < 7) (e : (nmB i j).any (fun p => decide (p.1 = "out")) = b) : cmpB tr .NotIn (.tup [.str (so "out"), .int 100]) (nlD (nmB i j)) = some (!b) := by
  subst e
  exact for49 (f := fun i j => cmpB tr .NotIn (.tup [.str (so "out"), .int 100]) (nlD (nmB i j))) (g := fun i j => some (!(nmB i j).any (fun p => decide (p.1 = "out")))) (by kernel_rfl) hi hj
theorem strg_len {l : NL} : (so (strg l)).length ≤ 8 := by
  unfold strg
  cases l.any (fun p => decide (p.1 = "out")) <;> decide +kernel
theorem ne_opt {tr : List (Nat × T)} (o : Option Int) : cmpB tr .NotEq (optD o) (optD o) = some false := by
  cases o with
  | none => rfl
  | some v => exact congrArg (fun b => some (!b)) (beq_self_eq_true v)
theorem below_named : belowL 0 [namedD] = true := by kernel_rfl
end Mine
end
section
set_option maxHeartbeats 4000000
namespace Mine
noncomputable def sortN (d : Nat) : Str := so (["filter", "nat", "route"].getD (d % 3) "")
theorem sort_nth' : ∀ d < 3, nth [.str (so "filter"), .str (so "nat"), .str (so "route")] ((d : Nat) : Int) = some (.str (so (["filter", "nat", "route"].getD d ""))) := fun d h => by
  rcases or3 h with rfl | rfl | rfl <;> rfl
theorem sort_nth {d : Nat} : nth [.str (so "filter"), .str (so "nat"), .str (so "route")] (Int.fmod (d : Int) 3) = some (.str (sortN d)) := by
  rw [show Int.fmod (d : Int) 3 = ((d % 3 : Nat) : Int) from fmod_nat d 3]
  exact sort_nth' _ (Nat.mod_lt d (by decide))
theorem sort_len {d : Nat} : (sortN d).length ≤ 20 := (by decide +kernel : ∀ d < 3, (so (["filter", "nat", "route"].getD d "")).length ≤ 20) _ (Nat.mod_lt d (by decide))
noncomputable abbrev bhLo (ns : List Int) (k : Nat) (l : NL) (f h : Str) (u : Int) (dr : Nat) (num : Int) (tl : List (Str × D)) : List (Str × D) :=
  (so "usual", .int u) :: (so "hook", .str h) :: (so "family", .str f) :: (so "names", nlD l) :: (so "k", .int k) :: (so "script", .scr ns) :: (so "drawn", .int dr) :: (so "number", .int num) :: tl
theorem cast_eq1 {d : Nat} {b : Bool} (h : decide (d % 2 = 1) = b) {tr : List (Nat × T)} : cmpB tr .Eq (.int (Int.fmod (d : Int) 2)) (.int 1) = some b := by
  subst h
  rw [show Int.fmod (d : Int) 2 = ((d % 2 : Nat) : Int) from fmod_nat d 2]
  exact (by decide : ∀ e < 2, some (((e : Nat) : Int) == 1) = some (decide (e = 1))) _ (Nat.mod_lt d (by decide))
theorem lits2 : (so " device \"eth").length ≤ 20 ∧ (so "eth").length ≤ 10 ∧ lz (so " device \"eth") = lz (so " device \"") ++ lz (so "eth") ∧ (so "").length ≤ 100 := by decide +kernel
theorem eth_ne {y : Str} : (so "eth" ++ y == Str.ofString "") = false := beq_false_of_ne fun z => by
  have := congrArg Str.length z
  rw [app_len] at this
  exact absurd (Nat.add_eq_zero_iff.mp (this.trans (by decide +kernel : (Str.ofString "").length = 0))).1 (by decide +kernel)
theorem bt_dev {a h y p : Str} : (btT a h (so "eth" ++ y) p == so "type " ++ a ++ so " hook " ++ h ++ (so " device \"eth" ++ y ++ so "\"") ++ so " priority " ++ p) = true := by
  unfold btT
  rw [eth_ne]
  have e : so " device \"" ++ (so "eth" ++ y) = so " device \"eth" ++ y := lz_inj (by rw [lz_append, lz_append, lz_append, lits2.2.2.1, List.append_assoc])
  exact beq_iff_eq.mpr (congrArg (fun z => so "type " ++ a ++ so " hook " ++ h ++ (z ++ so "\"") ++ so " priority " ++ p) e)
theorem bt_no {a h p : Str} : (btT a h (so "") p == so "type " ++ a ++ so " hook " ++ h ++ so " priority " ++ p) = true := by
  unfold btT
  rw [show (so "" == Str.ofString "") = true from beq_self_eq_true _]
  exact beq_self_eq_true _
theorem small_len {i : Int} (h : i.natAbs ≤ 10000) : (Str.ofString (toString i)).length ≤ 21 ∧ i.natAbs < 2 ^ 64 := ⟨len_int (Nat.lt_of_le_of_lt h (by decide)), Nat.lt_of_le_of_lt h (by decide)⟩
theorem bh_tail {m : Nat} {os : List Ora} {tr : List (Nat × T)} {nn : Nat} {ns : List Int} {k i j dr : Nat} {u num : Int} {g ls : D} {nr : D} {K : KB} (hi : i < 7) (hj : j < 7) (hk : k < 10) (hn : num.natAbs < 10 ^ 9) (hp : (ppT (nmB i j) num).length ≤ 100)
    (kk : ∀ lo, K (.ret (.bool true)) lo ⟨tr, nn, true, os⟩) :
    (ev cfA (m + 150)).B ((bodyOf "_law_base_holds").drop 6) ⟨scOf "_law_base_holds", bhLo ns k (nmB i j) (famN i) (hookN j) u dr num [(so "gap", g), (so "near", nr), (so "least", ls), (so "text", .str (ppT (nmB i j) num))]⟩ ⟨tr, nn, true, os⟩ K noX := by
  have hl := hook_len hj
  have sl := sort_len (d := dr)
  obtain ⟨kl, k64⟩ := small_len (i := (k : Int)) (Nat.le_trans (Nat.le_of_lt hk) (by decide))
  obtain ⟨l1, l2, l3, l4, l5⟩ := lits
  obtain ⟨l6, l7, l8, q0⟩ := lits2
  refine fun _ => ⟨by decide, _, sort_nth, ?_⟩
  have c1 := cl l1 sl
  have c2 := cl c1 l2
  have c3 := cl c2 hl
  have n1 := cm l1 sl rfl
  have n2 := cm c1 l2 rfl
  have n3 := cm c2 hl rfl
  have s1 : (sortN dr).length ≤ 100 := Nat.le_trans sl (by decide)
  cases e : decide (dr % 2 = 1) with
  | true =>
    refine fun _ => ⟨by decide, true, cast_eq1 e, k64, cm l7 kl rfl, fun _ => ⟨n1, n2, n3, ?_⟩⟩
    have d1 := cl l6 kl
    have d2 := cl d1 l4
    have d3 := cl c3 d2
    refine fun _ => ⟨by decide, true, cast_eq1 e, fun _ => ⟨k64, cm l6 kl rfl, cm d1 l4 rfl, cm c3 d2 rfl, ?_⟩⟩
    refine B_nil ?_
    refine fun _ => ⟨rfl, _, base_text_c hi hj hn s1 (Nat.le_trans (cl l7 kl) (by decide)) hp _, ?_⟩
    rintro _ rfl
    exact ⟨cm d3 l5 rfl, cm (cl d3 l5) hp rfl, true, eq_str' bt_dev, kk _⟩
  | false =>
    refine fun _ => ⟨by decide, false, cast_eq1 e, fun _ => ⟨n1, n2, n3, fun _ => ⟨by decide, false, cast_eq1 e, ?_⟩⟩⟩
    refine B_nil ?_
    refine fun _ => ⟨rfl, _, base_text_c hi hj hn s1 q0 hp _, ?_⟩
    rintro _ rfl
    exact ⟨cm c3 l5 rfl, cm (cl c3 l5) hp rfl, true, eq_str' bt_no, kk _⟩
end Mine
end
section
set_option maxHeartbeats 4000000
namespace Mine
theorem pairs_nl (l : NL) : pairsOf (l.map nmD) = some (nmKs l, nmVs l) := by
  induction l with
  | nil => rfl
  | cons p l ih => exact congrArg (Option.map fun kv : List Str × List D => (so p.1 :: kv.1, D.int p.2 :: kv.2)) ih
theorem nodupS_of {l : List Str} (h : l.Nodup) : nodupS l = true := by
  induction l with
  | nil => rfl
  | cons x l ih =>
    obtain ⟨h1, h2⟩ := List.nodup_cons.mp h
    refine Bool.and_eq_true_iff.mpr ⟨?_, ih h2⟩
    cases c : l.contains x with
    | false => rfl
    | true => exact absurd (List.contains_iff_mem.mp c) h1
theorem below_nm {k : Nat} (l : NL) : belowL k (nmVs l) = true := by
  induction l with
  | nil => rfl
  | cons p l ih => exact ih
theorem nm_len {i j : Nat} (hi : i < 7) (hj : j < 7) : 0 < (nmB i j).length ∧ (nmB i j).length ≤ 5 := (by decide +kernel : ∀ i < 7, ∀ j < 7, 0 < (nmB i j).length ∧ (nmB i j).length ≤ 5) i hi j hj
theorem key_nat {l : NL} {r : Nat} (h : 0 < l.length) (h2 : l.length ≤ 5) : ∃ p, l[r % l.length]? = some p ∧ p ∈ l ∧ nth (l.map nmD) (Int.fmod (r : Int) (l.length : Int)) = some (nmD p) := by
  have hlt : r % l.length < l.length := Nat.mod_lt _ h
  have e := List.getElem?_eq_getElem hlt
  refine ⟨l[r % l.length], e, List.getElem_mem hlt, ?_⟩
  rw [fmod_nat]
  unfold nth
  rw [inR_in ⟨Int.natCast_nonneg _, Int.ofNat_lt.mpr (Nat.lt_of_lt_of_le hlt (Nat.le_trans h2 (by decide)))⟩]
  exact (List.getElem?_map ..).trans (congrArg (Option.map nmD) e)
theorem num_small {num : Int} (h : num.natAbs ≤ 1000) : num.natAbs < 10 ^ 9 := Nat.lt_of_le_of_lt h (by decide)
theorem bh_mid {m : Nat} {os : List Ora} {tr : List (Nat × T)} {nn : Nat} {ns : List Int} {k i j dr : Nat} {u : Int} {g ls nr : D} {K : KB} (hi : i < 7) (hj : j < 7) (hk : k < 10) (hd : dr < 27 * (nmB i j).length) (kk : ∀ lo, K (.ret (.bool true)) lo ⟨tr, nn, true, os⟩) :
    (ev cfA (m + 152)).B ((bodyOf "_law_base_holds").drop 4) ⟨scOf "_law_base_holds", bhLo ns k (nmB i j) (famN i) (hookN j) u dr (numB (nmB i j) dr) [(so "gap", g), (so "near", nr), (so "least", ls), (so "text", .str (oT (nmB i j) (numB (nmB i j) dr)))]⟩ ⟨tr, nn, true, os⟩ K noX := by
  obtain ⟨_, pp, pl, hl, ha, rl⟩ := dok hi hj hd
  generalize numB (nmB i j) dr = num at pp pl hl ha rl ⊢
  have hn := num_small ha
  have ok := nm_ok hi hj
  have ks : (nmKs (nmB i j)).length ≤ 1000 := Nat.le_trans (Nat.le_of_eq (List.length_map ..)) (Nat.le_trans (nm_len hi hj).2 (by decide))
  refine fun _ => ⟨rfl, _, print_c hi hj hn _, ?_⟩
  rintro _ rfl
  refine ⟨false, ne_str' (b := true) (by rw [pp]; exact beq_self_eq_true _), ?_⟩
  refine B_nil ?_
  have lw := (lok hi hj).nil
  refine fun _ => ⟨_, pairs_nl _, ⟨nodupS_of ok.nd, ks⟩, ⟨Nat.le_trans hl (by decide), by decide +kernel⟩, ?_, ?_⟩
  · exact Bool.and_eq_true_iff.mpr ⟨below_nm _, rfl⟩
  refine ⟨_, prio_of_c (Nat.le_trans rl (by decide)) (by rw [so_empty]; exact lw) _, ?_⟩
  rintro _ rfl
  refine ⟨false, (congrArg (fun o : Option Int => (eqOf tr (optD o) (.int num)).map (!·)) pl).trans ?_, ?_⟩
  · exact congrArg (fun b => some (!b)) (beq_self_eq_true num)
  refine B_nil ?_
  rw [← pp] at hl ⊢
  exact bh_tail hi hj hk hn (Nat.le_trans hl (by decide)) kk
end Mine
end
section
set_option maxHeartbeats 400000
namespace Mine
noncomputable def oQ (n : Int) (q : String × Int) : Str := bif decide (absI (n - q.2) = 0) then so q.1 else bif decide (10 < absI (n - q.2)) then Str.ofString (toString n) else so q.1 ++ (bif decide (q.2 < n) then so " + " else so " - ") ++ Str.ofString (toString (absI (n - q.2)))
theorem eq_int {a b : Int} {c : Bool} (h : decide (a = b) = c) {tr : List (Nat × T)} : cmpB tr .Eq (.int a) (.int b) = some c := by
  subst h
  rfl
theorem gt_int {a b : Int} {c : Bool} (h : decide (b < a) = c) {tr : List (Nat × T)} : cmpB tr .Gt (.int a) (.int b) = some c := by
  subst h
  rfl
theorem absI_le {a b : Int} (h1 : a.natAbs ≤ 1000) (h2 : b.natAbs ≤ 1000) : (absI (a - b)).natAbs ≤ 10000 := by
  have e : (absI (a - b)).natAbs = (a - b).natAbs := by
    unfold absI
    split
    · exact Int.natAbs_neg _
    · rfl
  rw [e]
  exact Nat.le_trans (Int.natAbs_sub_le a b) (Nat.le_trans (Nat.add_le_add h1 h2) (by decide))
theorem mn_mem {n : Int} {l : NL} : ∀ {b : String × Int}, mn n b l ∈ b :: l := by
  induction l with
  | nil => exact fun {b} => List.mem_cons_self ..
  | cons p l ih =>
    intro b
    unfold mn
    cases ltB (absI (n - b.2)) (so b.1) (absI (n - p.2)) (so p.1) with
    | true => exact List.mem_cons_of_mem _ (ih (b := p))
    | false =>
      rcases List.mem_cons.mp (ih (b := b)) with h | h
      · exact List.mem_cons.mpr (.inl h)
      · exact List.mem_cons_of_mem _ (List.mem_cons_of_mem _ h)
theorem nm_abs : ∀ i < 7, ∀ j < 7, (nmB i j).all (fun p => decide (p.2.natAbs ≤ 1000)) = true := by decide +kernel
theorem mid3 : (so " + ").length ≤ 10 ∧ (so " - ").length ≤ 10 := by decide +kernel
theorem bh_text {m : Nat} {os : List Ora} {tr : List (Nat × T)} {nn : Nat} {ns : List Int} {k dr : Nat} {u num : Int} {l : NL} {f h : Str} {q : String × Int} {K : KB} (hn : num.natAbs ≤ 1000) (hq : q.2.natAbs ≤ 1000) (hl : (so q.1).length ≤ 8)
    (kk : ∀ lo, lo = bhLo ns k l f h u dr num [(so "gap", .int (absI (num - q.2))), (so "near", .str (so q.1)), (so "least", .int q.2), (so "text", .str (oQ num q))] → (ev cfA (m + 152)).B ((bodyOf "_law_base_holds").drop 4) ⟨scOf "_law_base_holds", lo⟩ ⟨tr, nn, true, os⟩ K noX) :
    (ev cfA (m + 153)).B ((bodyOf "_law_base_holds").drop 3) ⟨scOf "_law_base_holds", bhLo ns k l f h u dr num [(so "gap", .int (absI (num - q.2))), (so "near", .str (so q.1)), (so "least", .int q.2)]⟩ ⟨tr, nn, true, os⟩ K noX := by
  obtain ⟨g1, g2⟩ := small_len (absI_le hn hq)
  generalize eo : oQ num q = o at kk
  unfold oQ at eo
  cases e1 : decide (absI (num - q.2) = 0) with
  | true =>
    rw [e1] at eo
    subst eo
    exact fun _ => ⟨true, eq_int e1, fun _ => kk _ rfl⟩
  | false =>
    rw [e1] at eo
    refine fun _ => ⟨false, eq_int e1, ?_⟩
    cases e2 : decide (10 < absI (num - q.2)) with
    | true =>
      rw [e2] at eo
      subst eo
      refine fun _ => ⟨true, gt_int e2, fun _ => ⟨(small_len (Nat.le_trans hn (by decide))).2, ?_⟩⟩
      exact B_nil (B_nil (kk _ rfl))
    | false =>
      rw [e2] at eo
      refine fun _ => ⟨false, gt_int e2, ?_⟩
      cases e3 : decide (q.2 < num) with
      | true =>
        rw [e3] at eo
        subst eo
        refine fun _ => ⟨true, gt_int e3, cm hl mid3.1 rfl, g2, cm (cl hl mid3.1) g1 rfl, ?_⟩
        exact B_nil (B_nil (kk _ rfl))
      | false =>
        rw [e3] at eo
        subst eo
        refine fun _ => ⟨false, gt_int e3, cm hl mid3.2 rfl, g2, cm (cl hl mid3.2) g1 rfl, ?_⟩
        exact B_nil (B_nil (kk _ rfl))
theorem bh_min {m : Nat} {os : List Ora} {ns : List Int} {k dr : Nat} {u num : Int} {l : NL} {p : String × Int} {rest : NL} {f h : Str} {K : KB} (hl : l = p :: rest) (h1000 : l.length ≤ 1000) (ok : mnOk num p rest = true)
    (kk : ∀ tr nn lo, lo = bhLo ns k l f h u dr num [(so "gap", .int (absI (num - (mn num p rest).2))), (so "near", .str (so (mn num p rest).1)), (so "least", .int (mn num p rest).2)] → (ev cfA (m + 153)).B ((bodyOf "_law_base_holds").drop 3) ⟨scOf "_law_base_holds", lo⟩ ⟨tr, nn, true, os⟩ K noX) :
    (ev cfA (m + 154)).B ((bodyOf "_law_base_holds").drop 2) ⟨scOf "_law_base_holds", bhLo ns k l f h u dr num []⟩ (shY os) K noX := by
  refine fun _ => ?_
  have hlen : (l.map nmD).length = l.length := List.length_map ..
  show compE (ev cfA (m + 151)) (lcElt mcS) (so "one") (relab (lcSc mcS) (scOf "_law_base_holds")) (nlD l) 0 (l.map nmD).length 0 (mcLo num none) ⟨[(0, .lst [])], 1, true, os⟩ _
  rw [hlen]
  refine min_comp (m := m + 121) (l := l) (n := num) h1000 ?_ l [] none rfl
  subst hl
  refine min_k (n := num) rest p ok ?_
  exact kk _ _ _ rfl
theorem bh_fin {m : Nat} {os : List Ora} {i j k u r : Nat} {ns : List Int} {K : KB} (hi : i < 7) (hj : j < 7) (hk : k < 6) (hr : r < 27 * (nmB i j).length) (kk : ∀ lo tr nn, K (.ret (.bool true)) lo ⟨tr, nn, true, os⟩) :
    (ev cfA (m + 158)).B ((bodyOf "_law_base_holds").drop 2) ⟨scOf "_law_base_holds", bhLo ns k (nmB i j) (famN i) (hookN j) u r (numB (nmB i j) r) []⟩ (shY os) K noX := by
  obtain ⟨q1, _, _, _, q2, _⟩ := dok hi hj hr
  have nab := List.all_eq_true.mp (nm_abs i hi j hj)
  have nlen := (nm_ok hi hj).len
  have mid := fun (tr : List (Nat × T)) (nn : Nat) (g nr ls : D) => bh_mid (m := m + 4) (os := os) (tr := tr) (nn := nn) (ns := ns) (k := k) (u := (u : Int)) (g := g) (ls := ls) (nr := nr) (K := K) hi hj (Nat.lt_trans hk (by decide)) hr fun lo => kk lo tr nn
  have h1000 : (nmB i j).length ≤ 1000 := Nat.le_trans (nm_len hi hj).2 (by decide)
  generalize nmB i j = l at q1 q2 nab nlen mid h1000 ⊢
  generalize numB l r = num at q1 q2 mid ⊢
  cases l with
  | nil => cases q1
  | cons b rest =>
    refine bh_min (m := m + 4) rfl h1000 q1 ?_
    rintro tr nn _ rfl
    have mm := mn_mem (n := num) (l := rest) (b := b)
    refine bh_text (m := m + 4) q2 (of_decide_eq_true (nab _ mm)) (nlen _ mm) ?_
    rintro _ rfl
    exact mid tr nn _ _ _
theorem base_holds_c {m i j k u : Nat} {ns : List Int} (hi : i < 7) (hj : j < 7) (hk : k < 6) (hns : ns.length < 1000000) : Told (m + 160) "_law_base_holds" [.scr ns, .int k, nlD (nmB i j), .str (famN i), .str (hookN j), .int u] (fun d => d = .bool true) := fun sh => by
  obtain ⟨n0, n5⟩ := nm_len hi hj
  have hle : ((nmB i j).map nmD).length = (nmB i j).length := List.length_map ..
  have hlt : ((nmB i j).map nmD).length < 1000000 := by rw [hle]; exact Nat.lt_of_le_of_lt n5 (by decide)
  have hl0 : 0 < (((nmB i j).map nmD).length : Int) := Int.ofNat_lt.mpr (by rw [hle]; exact n0)
  have hM : 0 < (27 * (((nmB i j).map nmD).length : Int)) := Int.mul_pos (by decide) hl0
  have hl1 : (((nmB i j).map nmD).length : Int).natAbs < 2 ^ 60 := Nat.lt_trans hlt (by decide)
  refine ⟨true, fun _ => ⟨hlt, Nat.lt_trans hlt (by decide), rfl, _, drawn_c (p := 6 + (k : Int)) (Int.natCast_nonneg (6 + k)) (Int.ofNat_lt.mpr (Nat.lt_of_lt_of_le (Nat.add_lt_add_left hk 6) (by decide))) hM hns _, ?_⟩⟩
  rintro _ ⟨r, rfl, hr⟩
  rw [hle] at hr
  obtain ⟨p, e1, e2, e3⟩ := key_nat (r := r) n0 n5
  rw [← hle] at e3
  have en : p.2 + Int.fdiv (r : Int) (((nmB i j).map nmD).length : Int) - 13 = numB (nmB i j) r := by
    unfold numB
    rw [hle, e1, fdiv_nat]
  have key : ∀ num, num = numB (nmB i j) r → ∀ K : KB, (∀ lo tr nn, K (.ret (.bool true)) lo ⟨tr, nn, true, sh.os⟩) →
      (ev cfA (m + 158)).B ((bodyOf "_law_base_holds").drop 2) ⟨scOf "_law_base_holds", bhLo ns k (nmB i j) (famN i) (hookN j) u r num []⟩ (shY sh.os) K noX := by
    rintro _ rfl K kk
    exact bh_fin hi hj hk (Int.ofNat_lt.mp hr) kk
  refine fun _ => ⟨hlt, hl0, _, e3, _, rfl, hlt, ⟨hl0, hl1⟩, ?_⟩
  exact key _ en _ fun lo tr nn => rfl
end Mine
end
section
set_option maxHeartbeats 400000
namespace Mine
theorem lk_app {lo tl : List (Str × D)} : ∀ x d, lk lo x = some d → lk (lo ++ tl) x = some d := fun x d => by
  induction lo with
  | nil => exact fun h => nos h
  | cons p lo ih =>
    intro h
    have e : ∀ l : List (Str × D), lk (p :: l) x = match decide (p.1 = x) with | true => some p.2 | false => lk l x := fun _ => rfl
    rw [e] at h
    rw [List.cons_append, e]
    cases c : decide (p.1 = x) with
    | true => rw [c] at h; exact h
    | false => rw [c] at h; exact ih h
theorem Wk.app {lo tl : List (Str × D)} {sh : Sh} : Wk 0 (lo ++ tl) sh lo sh := .drop (Nat.zero_le _) lk_app
noncomputable abbrev txLo (ns : List Int) (i j : Nat) (tl : List (Str × D)) : List (Str × D) := [(so "named", namedD), (so "script", .scr ns), (so "place", .tup [.str (famN i), .str (hookN j)]), (so "names", nlD (nmB i j))] ++ tl
noncomputable abbrev txB (m k : Nat) (ns : List Int) (i j : Nat) (tl : List (Str × D)) (os : List Ora) (K : KB) : Prop := (ev cfA m).B ((forB (stmtOf "_law_texts_hold" 2)).drop k) ⟨scOf "_law_texts_hold", txLo ns i j tl⟩ (shY os) K noX
section
variable {m : Nat} {os : List Ora} {ns : List Int} {i j k : Nat} {K : KB} (hi : i < 7) (hj : j < 7) (hk : k < 18) (kk : ∀ tl, K .next (txLo ns i j tl) (shY os))
include hi hj hk kk
theorem tx_end {a b c d : D} {p : String × Int} {n : Nat} (hp : p ∈ nmB i j) (S : SpL (so p.1) (so (strg (nmB i j))) n) :
    txB (m + 146) 4 ns i j [(so "k", .int k), (so "drawn", a), (so "name", b), (so "number", c), (so "strange", d), (so "text", .str (spT (so p.1) (so (strg (nmB i j))) n k)), (so "due", optD (spD p.2 n k))] os K := by
  have ks : (nmKs (nmB i j)).length ≤ 1000 := Nat.le_trans (Nat.le_of_eq (List.length_map ..)) (Nat.le_trans (nm_len hi hj).2 (by decide))
  have nd := nodupS_of (nm_ok hi hj).nd
  have lw := (lok hi hj).nil
  have up := of_decide_eq_true (List.all_eq_true.mp (up_nm i hi j hj) p hp)
  have rl := sp_len S up hk
  have pr := sp_ok (lok hi hj) hp n k hk
  generalize hx : spT (so p.1) (so (strg (nmB i j))) n k = x at rl pr ⊢
  refine fun _ => ⟨_, pairs_nl _, ⟨nd, ks⟩, Bool.and_eq_true_iff.mpr ⟨below_nm _, rfl⟩, ?_⟩
  refine ⟨_, prio_of_c rl (by rw [so_empty]; exact lw) _, ?_⟩
  rintro _ rfl
  rw [pr]
  refine ⟨false, ne_opt _, ?_⟩
  refine B_nil ?_
  exact kk _
theorem tx_mid {r : Nat} {p : String × Int} (e1 : p ∈ nmB i j) (hr : r < 65536 * (nmB i j).length) {sg : Str} (es : sg = so (strg (nmB i j))) :
    txB (m + 147) 3 ns i j [(so "k", .int k), (so "drawn", .int r), (so "name", .str (so p.1)), (so "number", .int p.2), (so "strange", .str sg)] os K := by
  obtain ⟨n0, n5⟩ := nm_len hi hj
  have hle : ((nmB i j).map nmD).length = (nmB i j).length := List.length_map ..
  have hlt : ((nmB i j).map nmD).length < 1000000 := by rw [hle]; exact Nat.lt_of_le_of_lt n5 (by decide)
  have hl0 : 0 < (((nmB i j).map nmD).length : Int) := Int.ofNat_lt.mpr (by rw [hle]; exact n0)
  have hl1 : (((nmB i j).map nmD).length : Int).natAbs < 2 ^ 60 := Nat.lt_trans hlt (by decide)
  have hq : r / (nmB i j).length < 65536 := Nat.div_lt_of_lt_mul (by rw [Nat.mul_comm]; exact hr)
  have en : Int.fdiv (r : Int) (((nmB i j).map nmD).length : Int) = ((r / (nmB i j).length : Nat) : Int) := by rw [hle, fdiv_nat]
  have ok := (nm_ok hi hj).len p e1
  have SP := spell_c (m := m + 63) (v := p.2) hq ok (strg_len (l := nmB i j))
  have fin := fun (a b c d : D) => tx_end (m := m) (a := a) (b := b) (c := c) (d := d) hi hj hk kk e1 (spL_ok hq ok strg_len)
  generalize r / (nmB i j).length = q at *
  rw [← en, ← es] at SP
  rw [← es] at fin
  refine fun _ => ⟨hlt, ⟨hl0, hl1⟩, rfl, _, SP _, ?_⟩
  rintro _ rfl
  exact ⟨_, sp_nth hk, fin _ _ _ _⟩
theorem tx_body (hns : ns.length < 1000000) : txB (m + 150) 0 ns i j [(so "k", .int k)] os K := by
  obtain ⟨n0, n5⟩ := nm_len hi hj
  have hle : ((nmB i j).map nmD).length = (nmB i j).length := List.length_map ..
  have hlt : ((nmB i j).map nmD).length < 1000000 := by rw [hle]; exact Nat.lt_of_le_of_lt n5 (by decide)
  have hl0 : 0 < (((nmB i j).map nmD).length : Int) := Int.ofNat_lt.mpr (by rw [hle]; exact n0)
  have hl2 : (((nmB i j).map nmD).length : Int).natAbs < 2 ^ 64 := Nat.lt_trans hlt (by decide)
  have k64 : ((k : Int)).natAbs < 2 ^ 64 := Nat.lt_trans hk (by decide)
  refine fun _ => ⟨k64, hlt, hl2, rfl, _, drawn_c (p := 13 + (k : Int)) (Int.natCast_nonneg (13 + k)) (Int.ofNat_lt.mpr (Nat.lt_of_lt_of_le (Nat.add_lt_add_left hk 13) (by decide))) (Int.mul_pos (by decide) hl0) hns _, ?_⟩
  rintro _ ⟨r, rfl, hr⟩
  rw [hle] at hr
  obtain ⟨p, _, e2, e3⟩ := key_nat (r := r) n0 n5
  rw [← hle] at e3
  have mid := fun sg => tx_mid (m := m) (r := r) hi hj hk kk e2 (Int.ofNat_lt.mp hr) (sg := sg)
  refine fun _ => ⟨hlt, hl0, _, e3, ?_⟩
  have st : ∀ b, (nmB i j).any (fun p => decide (p.1 = "out")) = b → (bif b then so "raw" else so "out") = so (strg (nmB i j)) := by
    rintro _ rfl
    unfold strg
    cases (nmB i j).any (fun p => decide (p.1 = "out")) <;> rfl
  cases e : (nmB i j).any (fun p => decide (p.1 = "out")) with
  | true => exact fun _ => ⟨false, notin_out hi hj e, mid _ (st _ e)⟩
  | false => exact fun _ => ⟨true, notin_out hi hj e, mid _ (st _ e)⟩
end
theorem tx_loop {m : Nat} {os : List Ora} {ns : List Int} {i j : Nat} {K : KB} (hi : i < 7) (hj : j < 7) (hns : ns.length < 1000000) (kk : ∀ lo, K .next lo (shY os)) (ks : List Nat) : (∀ k ∈ ks, k < 18) →
    forG cfA (ev cfA (m + 150)) (forT (stmtOf "_law_texts_hold" 2)) (forB (stmtOf "_law_texts_hold" 2)) (scOf "_law_texts_hold") (some 0) (ks.map fun k : Nat => D.int (k : Int)) (txLo ns i j []) (shY os) K := by
  induction ks with
  | nil => exact fun _ => kk _
  | cons k ks ih =>
    intro hk
    obtain ⟨h1, h2⟩ := List.forall_mem_cons.mp hk
    exact tx_body (m := m) hi hj h1 (fun tl => ⟨_, _, Wk.app, ih h2⟩) hns
theorem texts_c {m : Nat} {ns : List Int} (hns : ns.length < 1000000) : Told (m + 160) "_law_texts_hold" [.scr ns, namedD] (fun d => d = .bool true) := fun sh => by
  refine ⟨true, fun _ => ⟨rfl, _, drawn_c (p := 12) (by decide) (by decide) (M := 49) (by decide) hns _, ?_⟩⟩
  rintro _ ⟨r, rfl, hr⟩
  have hr' : r < 49 := Int.ofNat_lt.mp hr
  have hi : r / 7 < 7 := Nat.div_lt_of_lt_mul hr'
  have hj : r % 7 < 7 := Nat.mod_lt r (by decide)
  refine ⟨rfl, _, place_c hr' _, ?_⟩
  rintro _ rfl
  refine fun _ => ⟨_, named_at hi hj, ?_⟩
  have lp := fun K kk => tx_loop (m := m + 7) (os := sh.os) (ns := ns) (K := K) hi hj hns kk r18 (by decide)
  refine ⟨true, by decide, rfl, ?_⟩
  refine lp _ ?_
  intro lo
  exact fun _ => rfl
end Mine
end
section
set_option maxHeartbeats 400000
namespace Mine
noncomputable def sort4 (s : Nat) : String := ["filter", "nat", "route"].getD s ""
theorem for21 {α : Type} {f g : Nat → Nat → α} (h : (List.range 7).map (fun i => (List.range 3).map (f i)) = (List.range 7).map (fun i => (List.range 3).map (g i))) {i j : Nat} (hi : i < 7) (hj : j < 3) : f i j = g i j :=
  List.map_inj_left.mp (List.map_inj_left.mp h i (List.mem_range.mpr hi)) j (List.mem_range.mpr hj)
theorem hooks_of_eq (m : Nat) (K : KE) (sh : Sh) {i s : Nat} (hi : i < 7) (hs : s < 3) : pureC (ev cfA (m + 40)) (fnOf "hooks_of") sh K false [.str (famN i), .str (so (sort4 s))] = K (strsD (hooksB i (sort4 s))) sh :=
  for21 (f := fun i s => pureC (ev cfA (m + 40)) (fnOf "hooks_of") sh K false [.str (famN i), .str (so (sort4 s))]) (g := fun i s => K (strsD (hooksB i (sort4 s))) sh) (by kernel_rfl) hi hs
theorem hooks_of_c {m i s : Nat} (hi : i < 7) (hs : s < 3) : Told (m + 40) "hooks_of" [.str (famN i), .str (so (sort4 s))] (fun d => d = strsD (hooksB i (sort4 s))) := fun sh => ⟨false, by rw [hooks_of_eq _ _ _ hi hs]⟩
noncomputable def notSup : Str := so "Operation not supported"
theorem words_eq (m : Nat) (K : KE) (sh : Sh) : pureC (ev cfA (m + 40)) (fnOf "words_of") sh K false [.str (so "EOPNOTSUPP")] = K (.str notSup) sh := by kernel_rfl
theorem words_c {m : Nat} : Told (m + 40) "words_of" [.str (so "EOPNOTSUPP")] (fun d => d = .str notSup) := fun sh => ⟨false, by rw [words_eq]⟩
theorem stands_get {i s : Nat} (hi : i < 7) (hs : s < 3) : (lookP (standsL.map fun p => [famN p.1, so p.2]) (standsL.map fun p => strsD (hooksB p.1 p.2)) [famN i, so (sort4 s)]).getD (.tup []) = strsD (hooksB i (sort4 s)) :=
  for21 (f := fun i s => (lookP (standsL.map fun p => [famN p.1, so p.2]) (standsL.map fun p => strsD (hooksB p.1 p.2)) [famN i, so (sort4 s)]).getD (.tup [])) (g := fun i s => strsD (hooksB i (sort4 s))) (by kernel_rfl) hi hs
theorem strsOf_map (l : List String) : strsOf (l.map fun x => D.str (so x)) = some (l.map so) := by
  induction l with
  | nil => rfl
  | cons x l ih => exact congrArg (Option.map (so x :: ·)) ih
noncomputable def inH (i s : Nat) (h : Str) : Bool := ((hooksB i (sort4 s)).map so).any (· == h)
theorem in_strs {tr : List (Nat × T)} {i s : Nat} {h : Str} {b : Bool} (e : inH i s h = b) : cmpB tr .In (.str h) (strsD (hooksB i (sort4 s))) = some b := by
  subst e
  exact congrArg (Option.map fun zs : List Str => zs.any (· == h)) (strsOf_map _)
theorem notin_strs {tr : List (Nat × T)} {i s : Nat} {h : Str} {b : Bool} (e : inH i s h = b) : cmpB tr .NotIn (.str h) (strsD (hooksB i (sort4 s))) = some (!b) := congrArg (Option.map (!·)) (in_strs (tr := tr) e)
end Mine
end
section
set_option maxHeartbeats 400000
namespace Mine
structure Ent where
  nm : Str
  bs : Option (Str × Str × Int × Str)
  pol : Str
  h : Int
noncomputable def bsD (b : Option (Str × Str × Int × Str)) : D := match b with
  | none => .none
  | some b => .tup [.str b.1, .str b.2.1, .int b.2.2.1, .str b.2.2.2]
noncomputable abbrev cF : List Str := [so "name", so "base", so "policy", so "handle", so "rules"]
noncomputable abbrev tF : List Str := [so "family", so "name", so "handle", so "flags", so "chains", so "sets", so "objects", so "flows", so "uses", so "last"]
noncomputable def chD (e : Ent) : D := .obj (so "Chain") cF [.str e.nm, bsD e.bs, .str e.pol, .int e.h, .lst []]
noncomputable def dueD (e : Ent) : D := .tup [.str e.nm, .int e.h, bsD e.bs, .str e.pol, .lst []]
noncomputable abbrev JR := List Str × List D
noncomputable def jrF (p : JR) : D := .tup [.str (so "dict"), .ref 1, .sd p.1 p.2]
noncomputable def jrG (p : JR) : D := .lst (p.1.map .str)
structure Tn where
  f : Str
  ks : List Str
  vs : List D
  ah : List D
  du : List D
  jr : List D
noncomputable abbrev tab (f : Str) (last : Int) : T := .obj (so "Table") tF [.str f, .str (so "t"), .int 0, .tup [], .ref 1, .ref 2, .ref 3, .ref 4, .ref 5, .int last]
noncomputable abbrev tJ (t : Tn) (last : Int) : List (Nat × T) := [(8, .lst t.ah), (7, .lst t.du), (6, .lst t.jr), (5, .sd [] []), (4, .sd [] []), (3, .sd [] []), (2, .sd [] []), (1, .sd t.ks t.vs), (0, tab t.f last)]
noncomputable abbrev mg (t : Tn) (nm : Str) (bs pol : D) (hd last : Int) : List (Nat × T) := (10, .lst []) :: (9, .obj (so "Chain") cF [.str nm, bs, pol, .int hd, .ref 10]) :: tJ t last
noncomputable def tnE (f : Str) (es : List Ent) (ps : List JR) : Tn := ⟨f, es.map (·.nm), es.map chD, ps.map jrG, es.map dueD, ps.map jrF⟩
noncomputable abbrev trE (f : Str) (es : List Ent) (ps : List JR) : List (Nat × T) := tJ (tnE f es ps) (es.length : Int)
noncomputable abbrev endT (t : Tn) (nm : Str) (bs : D) (pol : Str) (names : List D) (last : Int) : List (Nat × T) :=
  (12, .lst []) :: (11, .lst names) :: mg ⟨t.f, t.ks ++ [nm], t.vs ++ [.ref 9], t.ah ++ [.ref 11], t.du ++ [.tup [.str nm, .int (last + 1), bs, .str pol, .ref 12]], t.jr ++ [jrF (t.ks, t.vs)]⟩ nm bs (.str pol) (last + 1) (last + 1)
noncomputable def lowO (n : Nat) (w : Own) : Option Own := match w with
  | .t k => bif decide (k < n) then some (.t k) else none
  | .d k => bif decide (k < n) then some (.d k) else none
  | w => some w
noncomputable def Wd.cut (W : Wd) (n : Nat) : Wd := ⟨fun a => (W.own a).bind (lowO n), W.ρ, n⟩
section
variable {G : Glo} {W : Wd} {h : Heap} {n k : Nat} {a : Addr}
theorem cut_own {w : Option Own} (e : W.own a = w) : (W.cut n).own a = w.bind (lowO n) := congrArg (Option.bind · (lowO n)) e
theorem low_lt (hk : k < n) : lowO n (.t k) = some (.t k) ∧ lowO n (.d k) = some (.d k) := by
  show (bif decide (k < n) then some (Own.t k) else none) = _ ∧ (bif decide (k < n) then some (Own.d k) else none) = _
  rw [decide_eq_true hk]
  exact ⟨rfl, rfl⟩
theorem low_ge (hk : ¬ k < n) : lowO n (.t k) = none ∧ lowO n (.d k) = none := by
  show (bif decide (k < n) then some (Own.t k) else none) = _ ∧ (bif decide (k < n) then some (Own.d k) else none) = _
  rw [decide_eq_false hk]
  exact ⟨rfl, rfl⟩
theorem Lx.cut : Lx W h (W.cut n) h False n := ⟨fun _ _ p q => ⟨cut_own p, q⟩, fun _ _ b => b.elim False.elim fun e => ⟨of_decide_eq_true e, rfl⟩⟩
theorem VL.snocR {d d' : D} (l : ∀ v, V G W h d v → V G (W.cut n) h d' v) {ds : List D} : ∀ {vs : List Value}, belowL n ds = true → VL G W h (ds ++ [d]) vs → VL G (W.cut n) h (ds ++ [d']) vs := by
  induction ds with
  | nil =>
    intro vs _ x
    cases vs with
    | nil => exact False.elim x
    | cons v vs => cases vs with
      | nil => exact ⟨l v x.1, x.2⟩
      | cons _ _ => exact False.elim x.2
  | cons e ds ih =>
    intro vs b x
    cases vs with
    | nil => exact False.elim x
    | cons v vs => exact ⟨V.both Lx.cut e v (.inr (Bool.and_eq_true_iff.mp b).1) x.1, ih (Bool.and_eq_true_iff.mp b).2 x.2⟩
noncomputable abbrev RepL (G : Glo) (W : Wd) (tr : List (Nat × T)) (h : Heap) : Prop := ∀ k t, tr.lookup k = some t → k < W.n ∧ OwnT W k t ∧ TR G W h k t
theorem RepL.cons {tr : List (Nat × T)} {t : T} (hk : k < W.n) (ow : OwnT W k t) (x : TR G W h k t) (r : RepL G W tr h) : RepL G W ((k, t) :: tr) h := by
  intro j u e
  by_cases hj : j = k
  · subst hj
    rw [List.lookup_cons_self] at e
    cases e
    exact ⟨hk, ow, x⟩
  · rw [List.lookup_cons, beq_false_of_ne hj] at e
    exact r j u e
variable {tr : List (Nat × T)} (R : Rep G W tr h)
include R
theorem Rep.cut {tr' : List (Nat × T)} (r : RepL G (W.cut n) tr' h) : Rep G (W.cut n) tr' h := ⟨fun a o e => ⟨cut_own (R.base a o e).1, (R.base a o e).2⟩, fun a w e => by
  obtain ⟨w', e1, _⟩ := Option.bind_eq_some_iff.mp e
  exact R.ownd a w' e1, r⟩
theorem RepL.keep {tr' : List (Nat × T)} {t : T} (e : tr.lookup k = some t) (hk : k < n) (b : belowT n t = true) (nf : ∀ d, t ≠ .frz d) (r : RepL G (W.cut n) tr' h) : RepL G (W.cut n) ((k, t) :: tr') h := by
  obtain ⟨_, ow, x⟩ := R.trk k t e
  have x' : TR G (W.cut n) h k t := TRa.both Lx.cut (fun a e => (cut_own e).trans (low_lt hk).2) (fun a o _ e => e) (.inr b) ow x
  cases t with
  | frz d => exact absurd rfl (nf d)
  | _ => exact .cons hk ((cut_own ow).trans (low_lt hk).1) x' r
theorem Rep.lstF {ds : List D} (e : tr.lookup k = some (.lst ds)) (hk : ¬ k < n) (b : belowL n ds = true) (v : Value) (x : V G W h (.ref k) v) : V G (W.cut n) h (.lst ds) v := by
  obtain ⟨_, ow, vs, m, q, r⟩ := R.trk k _ e
  exact ⟨W.ρ k, vs, m, x.2, (cut_own ow).trans (low_ge hk).1, q, VL.both Lx.cut ds _ (.inr b) r⟩
theorem RepL.lst {tr' : List (Nat × T)} {ds : List D} {d d' : D} (e : tr.lookup k = some (.lst (ds ++ [d]))) (hk : k < n) (b : belowL n ds = true) (l : ∀ v, V G W h d v → V G (W.cut n) h d' v) (r : RepL G (W.cut n) tr' h) : RepL G (W.cut n) ((k, .lst (ds ++ [d'])) :: tr') h := by
  obtain ⟨_, ow, vs, m, q, x⟩ := R.trk k _ e
  exact .cons hk ((cut_own ow).trans (low_lt hk).1) ⟨vs, m, q, x.snocR l b⟩ r
theorem RepL.sd {tr' : List (Nat × T)} {ks : List Str} {ds : List D} {d d' : D} (e : tr.lookup k = some (.sd ks (ds ++ [d]))) (hk : k < n) (b : belowL n ds = true) (l : ∀ v, V G W h d v → V G (W.cut n) h d' v) (r : RepL G (W.cut n) tr' h) : RepL G (W.cut n) ((k, .sd ks (ds ++ [d'])) :: tr') h := by
  obtain ⟨_, ow, kvs, sm, q, kk, x⟩ := R.trk k _ e
  exact .cons hk ((cut_own ow).trans (low_lt hk).1) ⟨kvs, sm, q, kk, x.snocR l b⟩ r
theorem Rep.objF {C : Str} {fs : List Str} {ds : List D} {d d' : D} (e : tr.lookup k = some (.obj C fs (ds ++ [d]))) (hk : ¬ k < n) (b : belowL n ds = true) (l : ∀ v, V G W h d v → V G (W.cut n) h d' v) (v : Value) (x : V G W h (.ref k) v) : V G (W.cut n) h (.obj C fs (ds ++ [d'])) v := by
  obtain ⟨_, ow, o⟩ := R.trk k _ e
  exact ⟨W.ρ k, x.2, (cut_own ow).trans (low_ge hk).1, ObjIs.mono o (fun _ e => e) (fun dx _ q e => ⟨(cut_own q).trans (low_ge hk).2, e⟩) fun vs r => VL.snocR l b r⟩
end
theorem tupF {G : Glo} {W : Wd} {h : Heap} {n : Nat} {ds : List D} {d d' : D} (b : belowL n ds = true) (l : ∀ v, V G W h d v → V G (W.cut n) h d' v) (v : Value) (x : V G W h (.tup (ds ++ [d])) v) : V G (W.cut n) h (.tup (ds ++ [d'])) v := by
  obtain ⟨a, vs, m, e, o, q, r⟩ := x
  exact ⟨a, vs, m, e, cut_own o, q, r.snocR l b⟩
theorem lk_below {n : Nat} {lo : List (Str × D)} (h : lo.all (fun p => belowD n p.2) = true) : ∀ x d, lk lo x = some d → belowD n d = true := fun x d => by
  induction lo with
  | nil => exact fun h => nos h
  | cons p lo ih =>
    intro e
    have e : (match decide (p.1 = x) with | true => some p.2 | false => lk lo x) = some d := e
    obtain ⟨h1, h2⟩ := Bool.and_eq_true_iff.mp h
    cases c : decide (p.1 = x) with
    | true => rw [c] at e; cases e; exact h1
    | false => rw [c] at e; exact ih h2 e
theorem below_bs {n : Nat} (b : Option (Str × Str × Int × Str)) : belowD n (bsD b) = true := by
  cases b <;> rfl
theorem below_strs {n : Nat} (l : List Str) : belowL n (l.map .str) = true := by
  induction l with
  | nil => rfl
  | cons x l ih => exact ih
structure TnOk (t : Tn) : Prop where
  vs : belowL 9 t.vs = true
  ah : belowL 9 t.ah = true
  du : belowL 9 t.du = true
  jr : belowL 9 t.jr = true
theorem below_snoc {n : Nat} {l : List D} {d : D} (h : belowL n l = true) (hd : belowD n d = true) : belowL n (l ++ [d]) = true := by
  induction l with
  | nil => exact Bool.and_eq_true_iff.mpr ⟨hd, rfl⟩
  | cons x l ih =>
    obtain ⟨h1, h2⟩ := Bool.and_eq_true_iff.mp h
    exact Bool.and_eq_true_iff.mpr ⟨h1, ih h2⟩
theorem wk_end {t : Tn} (ok : TnOk t) {nm : Str} {bs : Option (Str × Str × Int × Str)} {pol : Str} {names : List Str} {last : Int} {lo tl : List (Str × D)} (hlo : lo.all (fun p => belowD 9 p.2) = true) {os : List Ora} :
    Wk 9 (lo ++ tl) ⟨endT t nm (bsD bs) pol (names.map .str) last, 13, true, os⟩ lo ⟨tJ ⟨t.f, t.ks ++ [nm], t.vs ++ [chD ⟨nm, bs, pol, last + 1⟩], t.ah ++ [.lst (names.map .str)], t.du ++ [dueD ⟨nm, bs, pol, last + 1⟩], t.jr ++ [jrF (t.ks, t.vs)]⟩ (last + 1), 9, true, os⟩ := by
  intro G W h R e
  have b4 : belowL 9 [.str nm, bsD bs, .str pol, .int (last + 1)] = true := Bool.and_eq_true_iff.mpr ⟨rfl, Bool.and_eq_true_iff.mpr ⟨below_bs bs, rfl⟩⟩
  have b4' : belowL 9 [.str nm, .int (last + 1), bsD bs, .str pol] = true := Bool.and_eq_true_iff.mpr ⟨rfl, Bool.and_eq_true_iff.mpr ⟨rfl, Bool.and_eq_true_iff.mpr ⟨below_bs bs, rfl⟩⟩⟩
  have f10 := Rep.lstF (n := 9) R (k := 10) (ds := []) rfl (by decide) rfl
  have f12 := Rep.lstF (n := 9) R (k := 12) (ds := []) rfl (by decide) rfl
  have f11 := Rep.lstF (n := 9) R (k := 11) (ds := names.map .str) rfl (by decide) (below_strs names)
  have f9 := Rep.objF (n := 9) R (k := 9) (ds := [.str nm, bsD bs, .str pol, .int (last + 1)]) rfl (by decide) b4 f10
  have fd := tupF (ds := [.str nm, .int (last + 1), bsD bs, .str pol]) b4' f12
  have bj : belowL 9 (t.jr ++ [jrF (t.ks, t.vs)]) = true := below_snoc ok.jr (Bool.and_eq_true_iff.mpr ⟨rfl, Bool.and_eq_true_iff.mpr ⟨rfl, Bool.and_eq_true_iff.mpr ⟨ok.vs, rfl⟩⟩⟩ : belowL 9 [.str (so "dict"), .ref 1, .sd t.ks t.vs] = true)
  refine ⟨W.cut 9, Rep.cut R ?_, rfl, Nat.le_refl 9, fun _ _ => rfl, fun a e => cut_own e, fun a e => cut_own e, fun a e => cut_own e, fun x d q => ⟨d, lk_app x d q, fun v => V.both Lx.cut d v (.inr (lk_below hlo x d q))⟩⟩
  refine RepL.lst R (k := 8) rfl (by decide) ok.ah f11 ?_
  refine RepL.lst R (k := 7) rfl (by decide) ok.du fd ?_
  refine RepL.keep R (k := 6) rfl (by decide) bj nofun ?_
  refine RepL.keep R (k := 5) rfl (by decide) rfl nofun ?_
  refine RepL.keep R (k := 4) rfl (by decide) rfl nofun ?_
  refine RepL.keep R (k := 3) rfl (by decide) rfl nofun ?_
  refine RepL.keep R (k := 2) rfl (by decide) rfl nofun ?_
  refine RepL.sd R (k := 1) rfl (by decide) ok.vs f9 ?_
  exact RepL.keep R (k := 0) rfl (by decide) rfl nofun (fun k t e => nos e)
end Mine
end
section
set_option maxHeartbeats 400000
namespace Mine
noncomputable def ifV (s : Stmt) : Option (List Stmt) := match s with
  | .If _ b _ _ => some b
  | _ => none
noncomputable def thB (st : List Stmt) : List Stmt := (st.head?.bind ifV).getD []
noncomputable abbrev mkLo (ab : D) (nm : Str) (tl : List (Str × D)) : List (Str × D) := (so "about", ab) :: (so "name", .str nm) :: (so "table", .ref 0) :: (so "journal", .ref 6) :: (so "chain", .ref 9) :: tl
noncomputable abbrev mkTl (s : Nat) (h d p : Str) (num : Int) : List (Str × D) := [(so "kind", .str (so (sort4 s))), (so "hook", .str h), (so "priority", .int num), (so "device", .str d), (so "policy", .str p)]
inductive TlOk : List (Str × D) → Prop
  | n : TlOk []
  | s (a b c d e : D) : TlOk [(so "kind", a), (so "hook", b), (so "priority", c), (so "device", d), (so "policy", e)]
noncomputable abbrev abT (s : Nat) (h d p : Str) (num : Int) : D := .tup [.str (so (sort4 s)), .str h, .int num, .str d, .str p]
noncomputable abbrev bsT (s : Nat) (h d : Str) (num : Int) : D := .tup [.str (so (sort4 s)), .str h, .int num, .str d]
noncomputable abbrev mS (t : Tn) (nm : Str) (bs pol : D) (hd last : Int) (os : List Ora) : Sh := ⟨mg t nm bs pol hd last, 11, true, os⟩
noncomputable abbrev acc : D := .str (so "accept")
noncomputable abbrev mB (m k : Nat) (lo : List (Str × D)) (sh : Sh) (K : KB) (X : KX) : Prop := (ev cfA m).B ((bodyOf "make_chain").drop k) ⟨scOf "make_chain", lo⟩ sh K X
noncomputable abbrev mI (m k : Nat) (lo : List (Str × D)) (sh : Sh) (K : KB) (X : KX) : Prop := (ev cfA m).B ((thB (stmtOf "make_chain" 1)).drop k) ⟨scOf "make_chain", lo⟩ sh K X
noncomputable def natB (s : Nat) (num : Int) : Bool := so (sort4 s) == Str.ofString "nat" && decide (num ≤ -200)
section
variable {m : Nat} {os : List Ora} {t : Tn} {last : Int} {nm : Str} {X : KX}
theorem mkA {ab : D} {K : KE} (k : mB (m + 78) 1 (mkLo ab nm []) (mS t nm .none acc 0 last os) (retK K) X) : (ev cfA (m + 80)).C (.glob (so "make_chain")) [.ref 6, .ref 0, .str nm, ab] ⟨tJ t last, 9, true, os⟩ K X := by
  refine fun _ _ _ _ _ _ => ?_
  exact k
variable {K : KB}
theorem mkC {ab bs pol : D} {tl : List (Str × D)} (ht : TlOk tl) (k : mB (m + 76) 3 (mkLo ab nm tl) (mS t nm bs pol (last + 1) (last + 1) os) K X) : mB (m + 77) 2 (mkLo ab nm tl) (mS t nm bs pol 0 last os) K X := by
  cases ht <;> exact fun _ _ _ => k
theorem mkD {ab bs pol : D} {tl : List (Str × D)} (ht : TlOk tl) (c : t.ks.length ≤ 10000) (c1 : t.jr.length ≤ 100000) (k : ∀ lo, K .next lo (mS ⟨t.f, stK t.ks nm, stD t.ks t.vs nm (.ref 9), t.ah, t.du, t.jr ++ [jrF (t.ks, t.vs)]⟩ nm bs pol last last os)) : mB (m + 76) 3 (mkLo ab nm tl) (mS t nm bs pol last last os) K X := by
  cases ht
  all_goals
    refine fun _ _ _ => ⟨Nat.le_trans c (by decide), c1, fun _ => ⟨c, ?_⟩⟩
    exact k _
theorem mkN (k : mB (m + 77) 2 (mkLo .none nm []) (mS t nm .none acc 0 last os) K X) : mB (m + 78) 1 (mkLo .none nm []) (mS t nm .none acc 0 last os) K X := by
  refine fun _ => ⟨false, rfl, ?_⟩
  exact k
variable {i s : Nat} {h d p : Str} {num : Int}
theorem mkSc (k : K .next (mkLo (abT s h d p num) nm (mkTl s h d p num)) (mS t nm (bsT s h d num) (.str (bif p == Str.ofString "" then so "accept" else p)) 0 last os)) : mI (m + 74) 3 (mkLo (abT s h d p num) nm (mkTl s h d p num)) (mS t nm (bsT s h d num) acc 0 last os) K X := by
  cases e4 : p == Str.ofString "" with
  | true =>
    rw [e4] at k
    refine fun _ => ⟨false, ne_str' e4, ?_⟩
    exact k
  | false =>
    rw [e4] at k
    refine fun _ => ⟨true, ne_str' e4, fun _ => ?_⟩
    exact k
theorem mkSb (k : mI (m + 74) 3 (mkLo (abT s h d p num) nm (mkTl s h d p num)) (mS t nm (bsT s h d num) acc 0 last os) K X) : mI (m + 75) 2 (mkLo (abT s h d p num) nm (mkTl s h d p num)) (mS t nm .none acc 0 last os) K X := by
  refine fun _ => ?_
  exact k
end
section
variable {m : Nat} {os : List Ora} {t : Tn} {last : Int} {nm : Str} {X : KX} {K : KB} {i s : Nat} {h d p : Str} {num : Int} (hf : t.f = famN i) (hi : i < 7) (hs : s < 3)
include hf hi hs
theorem mkSa (q1 : inH i s h = true) (q2 : natB s num = false) (k : mI (m + 75) 2 (mkLo (abT s h d p num) nm (mkTl s h d p num)) (mS t nm .none acc 0 last os) K X) : mI (m + 77) 0 (mkLo (abT s h d p num) nm []) (mS t nm .none acc 0 last os) K X := by
  obtain ⟨f, ks, vs, ah, du, jr⟩ := t
  obtain rfl : f = famN i := hf
  refine fun _ _ => ⟨rfl, _, hooks_of_c hi hs _, ?_⟩
  rintro _ rfl
  refine ⟨false, notin_strs q1, ?_⟩
  unfold natB at q2
  cases e3 : so (sort4 s) == Str.ofString "nat" with
  | true =>
    rw [e3] at q2
    refine ⟨true, eq_str' e3, false, congrArg some q2, ?_⟩
    exact k
  | false =>
    refine ⟨false, eq_str' e3, ?_⟩
    exact k
theorem mkS (q1 : inH i s h = true) (q2 : natB s num = false) (k : mB (m + 77) 2 (mkLo (abT s h d p num) nm (mkTl s h d p num)) (mS t nm (bsT s h d num) (.str (bif p == Str.ofString "" then so "accept" else p)) 0 last os) K X) : mB (m + 78) 1 (mkLo (abT s h d p num) nm []) (mS t nm .none acc 0 last os) K X := by
  refine fun _ => ⟨true, rfl, ?_⟩
  exact mkSa hf hi hs q1 q2 (mkSb (mkSc k))
theorem mkR (e : (!(inH i s h) || natB s num) = true) (k : X (so "EOPNOTSUPP") notSup (mS t nm .none acc 0 last os)) : mB (m + 78) 1 (mkLo (abT s h d p num) nm []) (mS t nm .none acc 0 last os) K X := by
  obtain ⟨f, ks, vs, ah, du, jr⟩ := t
  obtain rfl : f = famN i := hf
  refine fun _ => ⟨true, rfl, fun _ _ => ⟨rfl, _, hooks_of_c hi hs _, ?_⟩⟩
  rintro _ rfl
  cases e1 : inH i s h with
  | false =>
    refine ⟨true, notin_strs e1, fun _ => ExcT.raise _ _ _ _ _ _ _ rfl rfl ⟨rfl, _, words_c _, ?_⟩⟩
    rintro _ rfl
    exact k
  | true =>
    rw [e1] at e
    obtain ⟨e2, e3⟩ := Bool.and_eq_true_iff.mp e
    refine ⟨false, notin_strs e1, true, eq_str' e2, true, congrArg some e3, fun _ => ExcT.raise _ _ _ _ _ _ _ rfl rfl ⟨rfl, _, words_c _, ?_⟩⟩
    rintro _ rfl
    exact k
end
end Mine
end
section
set_option maxHeartbeats 400000
namespace Mine
noncomputable abbrev mdLo (i : Nat) (ns : List Int) (tl : List (Str × D)) : List (Str × D) := [(so "stands", standsD), (so "script", .scr ns), (so "family", .str (famN i)), (so "table", .ref 0), (so "journal", .ref 6), (so "due", .ref 7), (so "ahead", .ref 8)] ++ tl
noncomputable abbrev mdB : List Stmt := forB (stmtOf "_law_made_hold" 5)
noncomputable abbrev mdS : List (Str × NameKind) := scOf "_law_made_hold"
noncomputable def devN (r : Nat) : Str := so (["", "eth0", "lo"].getD r "")
noncomputable def polN (r : Nat) : Str := so (["", "drop", "accept"].getD r "")
noncomputable def numN (r : Nat) : Int := Int.fmod (Int.fdiv (r : Int) 28) 5 - 202
noncomputable abbrev tnTl (k r s : Nat) (h d p : Str) (num : Int) (tl : List (Str × D)) : List (Str × D) := (so "k", .int k) :: (so "drawn", .int r) :: (so "sort", .str (so (sort4 s))) :: (so "hook", .str h) :: (so "number", .int num) :: (so "device", .str d) :: (so "policy", .str p) :: tl
theorem cut_int {a b c : Nat} : Int.fmod (Int.fdiv (a : Int) (b : Int)) (c : Int) = ((a / b % c : Nat) : Int) := by rw [fdiv_nat, fmod_nat]
theorem sort_nth4 {r : Nat} : nth [.str (so "filter"), .str (so "nat"), .str (so "route"), .str (so "")] (Int.fmod (r : Int) 4) = some (.str (so (sort4 (r % 4)))) := by
  rw [show Int.fmod (r : Int) 4 = ((r % 4 : Nat) : Int) from fmod_nat r 4]
  rcases or4 (Nat.mod_lt r (by decide : 0 < 4)) with e | e | e | e <;> rw [e] <;> rfl
theorem hook_nth4 {r : Nat} : nth (hookL.map .str) (Int.fmod (Int.fdiv (r : Int) 4) 7) = some (.str (hookN (r / 4 % 7))) := by
  rw [show Int.fmod (Int.fdiv (r : Int) 4) 7 = ((r / 4 % 7 : Nat) : Int) from cut_int]
  exact hook_nth (Nat.mod_lt _ (by decide))
theorem dev_nth {r : Nat} : nth [.str (so ""), .str (so "eth0"), .str (so "lo")] (Int.fmod (Int.fdiv (r : Int) 140) 3) = some (.str (devN (r / 140 % 3))) := by
  rw [show Int.fmod (Int.fdiv (r : Int) 140) 3 = ((r / 140 % 3 : Nat) : Int) from cut_int]
  rcases or3 (Nat.mod_lt (r / 140) (by decide : 0 < 3)) with e | e | e <;> rw [e] <;> rfl
theorem pol_nth {r : Nat} (h : r / 420 < 3) : nth [.str (so ""), .str (so "drop"), .str (so "accept")] (Int.fdiv (r : Int) 420) = some (.str (polN (r / 420))) := by
  rw [show Int.fdiv (r : Int) 420 = ((r / 420 : Nat) : Int) from fdiv_nat r 420]
  rcases or3 h with e | e | e <;> rw [e] <;> rfl
noncomputable def usL : List D := [.int 0, .int 69, .int 1101, .int 657, .int 3, .int 1246, .int 580]
theorem us_nth {k : Nat} (h : k < 7) : ∃ u : Int, nth usL (k : Int) = some (.int u) := by
  rcases or7 h with rfl | rfl | rfl | rfl | rfl | rfl | rfl <;> exact ⟨_, rfl⟩
noncomputable abbrev tuB (m k i : Nat) (ns : List Int) (tl : List (Str × D)) (sh : Sh) (K : KB) : Prop := (ev cfA m).B (mdB.drop k) ⟨mdS, mdLo i ns tl⟩ sh K noX
noncomputable def nmK (k : Nat) : Str := so "a" ++ Str.ofString (toString (Int.fmod (3 * (k : Int) + 5) 7))
theorem sort_ne : ∀ s < 3, (so (sort4 s) == Str.ofString "") = false := by decide +kernel
theorem sort_3 : (so (sort4 3) == Str.ofString "") = true ∧ (so (sort4 3) == Str.ofString "nat") = false := by decide +kernel
theorem nm_fm (k : Nat) : (Int.fmod (3 * (k : Int) + 5) 7).natAbs ≤ 10000 := by
  have h1 := fmod_nn (3 * (k : Int) + 5) (M := 7) (by decide)
  have h2 := fmod_lt (3 * (k : Int) + 5) (M := 7) (by decide)
  exact Int.ofNat_le.mp ((Int.natAbs_of_nonneg h1).symm ▸ Int.le_trans (Int.le_of_lt h2) (by decide))
theorem a_len : (so "a").length ≤ 10 := by decide +kernel
theorem lt_int {a b : Int} {c : Bool} (h : decide (a < b) = c) {tr : List (Nat × T)} : cmpB tr .Lt (.int a) (.int b) = some c := by
  subst h; rfl
theorem num_lt {num : Int} : decide (num < -199) = decide (num ≤ -200) := decide_eq_decide.mpr (Int.le_sub_one_iff (m := num) (n := -199)).symm
section
variable {m i k : Nat} {ns : List Int} {tr : List (Nat × T)} {nn : Nat} {os : List Ora} {K : KB}
theorem tuA (hk : k < 7) (hns : ns.length < 1000000) (kk : ∀ r, r < 1260 → tuB (m + 86) 6 i ns (tnTl k r (r % 4) (hookN (r / 4 % 7)) (devN (r / 140 % 3)) (polN (r / 420)) (numN r) []) ⟨tr, nn, true, os⟩ K) :
    tuB (m + 92) 0 i ns [(so "k", .int k)] ⟨tr, nn, true, os⟩ K := by
  obtain ⟨u, hu⟩ := us_nth hk
  refine fun _ => ⟨_, hu, rfl, _, drawn_c (p := 32 + (k : Int)) (Int.natCast_nonneg (32 + k)) (Int.ofNat_lt.mpr (Nat.lt_of_lt_of_le (Nat.add_lt_add_left hk 32) (by decide))) (M := 1260) (by decide) hns _, ?_⟩
  rintro _ ⟨r, rfl, hr⟩
  have hr' : r < 1260 := Int.ofNat_lt.mp hr
  have k1 := kk r hr'
  clear kk
  refine fun _ => ⟨by decide, _, sort_nth4, ?_⟩
  refine fun _ => ⟨rfl, _, hooks_c _, ?_⟩
  rintro _ rfl
  refine ⟨by decide, by decide, _, hook_nth4, ?_⟩
  refine fun _ => ⟨by decide, by decide, ?_⟩
  refine fun _ => ⟨by decide, by decide, _, dev_nth, ?_⟩
  refine fun _ => ⟨by decide, _, pol_nth (Nat.div_lt_of_lt_mul hr'), ?_⟩
  exact k1
variable {r s : Nat} {h d p : Str} {num : Int}
theorem tuB4 {ab my : D} (hk : k < 7) (kk : tuB (m + 81) 11 i ns (tnTl k r s h d p num [(so "about", ab), (so "may", my), (so "name", .str (nmK k)), (so "told", .tup [.str (so ""), .str (so "")])]) ⟨tr, nn, true, os⟩ K) :
    tuB (m + 83) 9 i ns (tnTl k r s h d p num [(so "about", ab), (so "may", my)]) ⟨tr, nn, true, os⟩ K := by
  obtain ⟨f2, f3⟩ := small_len (nm_fm k)
  exact fun _ => ⟨Nat.lt_trans hk (by decide), by decide, f3, cm a_len f2 rfl, fun _ => kk⟩
theorem tuB3 (kk : tuB (m + 83) 9 i ns (tnTl k r 3 h d p num [(so "about", .none), (so "may", .bool true)]) ⟨tr, nn, true, os⟩ K) : tuB (m + 86) 6 i ns (tnTl k r 3 h d p num []) ⟨tr, nn, true, os⟩ K := by
  obtain ⟨z, w⟩ := sort_3
  exact fun _ => ⟨true, eq_str' z, fun _ => ⟨true, eq_str' z, fun _ => ⟨false, eq_str' w, kk⟩⟩⟩
theorem tuBS {my : Bool} (hi : i < 7) (hs : s < 3) (hm : my = bif natB s num then false else inH i s h)
    (kk : tuB (m + 83) 9 i ns (tnTl k r s h d p num [(so "about", abT s h d p num), (so "may", .bool my)]) ⟨tr, nn, true, os⟩ K) : tuB (m + 86) 6 i ns (tnTl k r s h d p num []) ⟨tr, nn, true, os⟩ K := by
  have z := sort_ne s hs
  refine fun _ => ⟨false, eq_str' z, fun _ => ⟨false, eq_str' z, _, congrArg some (stands_get hi hs), inH i s h, in_strs rfl, ?_⟩⟩
  unfold natB at hm
  cases w : so (sort4 s) == Str.ofString "nat" with
  | true =>
    rw [w] at hm
    cases v : decide (num ≤ -200) with
    | true =>
      rw [v] at hm
      obtain rfl : my = false := hm
      exact fun _ => ⟨true, eq_str' w, true, lt_int (num_lt.trans v), fun _ => kk⟩
    | false =>
      rw [v] at hm
      obtain rfl : my = inH i s h := hm
      exact fun _ => ⟨true, eq_str' w, false, lt_int (num_lt.trans v), kk⟩
  | false =>
    rw [w] at hm
    obtain rfl : my = inH i s h := hm
    exact fun _ => ⟨false, eq_str' w, kk⟩
end
end Mine
end
section
set_option maxHeartbeats 400000
namespace Mine
theorem append_ok {k : Nat} {xs : List D} {tr : List (Nat × T)} {nn : Nat} {os : List Ora} {v : D} {K : KE} (hs : ∀ t, setT tr k t = tr) (hl : xs.length ≤ 100000) (q : K .none ⟨(k, .lst (xs ++ [v])) :: tr, nn, true, os⟩) : callB (.bi "list.append") [.ref k, v] ⟨(k, .lst xs) :: tr, nn, true, os⟩ K := by
  have e : setT ((k, T.lst xs) :: tr) k (.lst (xs ++ [v])) = (k, .lst (xs ++ [v])) :: tr := congr (congrArg List.cons (if_pos rfl)) (hs _)
  have l : ((k, T.lst xs) :: tr).lookup k = some (.lst xs) := List.lookup_cons_self
  have q' : K .none ⟨setT ((k, T.lst xs) :: tr) k (.lst (xs ++ [v])), nn, true, os⟩ := by rw [e]; exact q
  show appK (((k, T.lst xs) :: tr).lookup k) v ⟨(k, .lst xs) :: tr, nn, true, os⟩ k K
  rw [l]
  exact ⟨hl, q'⟩
noncomputable abbrev cmLo (x : Str) (o : Option D) : List (Str × D) := match o with
  | none => []
  | some d => [(x, d)]
theorem put_cm {x : Str} {o : Option D} {d : D} : put (cmLo x o) x d = cmLo x (some d) := by
  cases o with
  | none => rfl
  | some e =>
    show (match decide (x = x) with | true => (x, d) :: [] | false => (x, e) :: put [] x d) = _
    rw [decide_eq_true rfl]
theorem comp_go {α : Type} {r : Ev} {elt : Expr} {x : Str} {sc : List (Str × NameKind)} {d0 : D} {k : Nat} {tr : List (Nat × T)} {nn : Nat} {os : List Ora} {K : KE} (f g : α → D) (js : List α) (hl : js.length ≤ 1000)
    (h6 : ∀ xs, lstT ((k, T.lst xs) :: tr) d0 = some (js.map f)) (hs : ∀ t, setT tr k t = tr)
    (hE : ∀ a ∈ js, ∀ xs (K' : KE), K' (g a) ⟨(k, .lst xs) :: tr, nn, true, os⟩ → r.E elt ⟨sc, cmLo x (some (f a))⟩ ⟨(k, .lst xs) :: tr, nn, true, os⟩ K')
    (kk : K (.ref k) ⟨(k, .lst (js.map g)) :: tr, nn, true, os⟩) (rest : List α) : ∀ (dn : List α) (o : Option D), js = dn ++ rest →
    compE r elt x sc d0 k rest.length dn.length (cmLo x o) ⟨(k, .lst (dn.map g)) :: tr, nn, true, os⟩ K := by
  induction rest with
  | nil =>
    intro dn o e
    rw [List.append_nil] at e
    subst e
    exact compE_z (h6 _) (List.getElem?_eq_none (Nat.le_of_eq (List.length_map ..))) kk
  | cons p rest ih =>
    intro dn o e
    have ih' := ih (dn ++ [p]) (some (f p)) (e.trans (List.append_assoc dn [p] rest).symm)
    rw [List.length_append, List.map_append] at ih'
    have eg : (js.map f)[dn.length]? = some (f p) := e ▸ mid_at
    have pm : p ∈ js := e ▸ List.mem_append_right _ (List.mem_cons_self ..)
    refine compE_s (h6 _) eg ?_
    rw [nrmD_eq, put_cm]
    refine hE p pm _ _ ?_
    rw [nrmD_eq]
    refine append_ok hs ?_ ih'
    rw [List.length_map]
    rw [e, List.length_append] at hl
    exact Nat.le_trans (Nat.le_trans (Nat.le_add_right _ _) hl) (by decide)
noncomputable abbrev ndT (s : Str) : D := .tup [.str s, .str s]
noncomputable abbrev nsT : D := .tup [.str (so "EOPNOTSUPP"), .str notSup]
noncomputable abbrev tuTl (k r s : Nat) (h d p : Str) (num : Int) (ab : D) (may : Bool) (told : D) (tl : List (Str × D)) : List (Str × D) := tnTl k r s h d p num ((so "about", ab) :: (so "may", .bool may) :: (so "name", .str (nmK k)) :: (so "told", told) :: tl)
theorem pol_eq : ∀ q < 3, (bif polN q == Str.ofString "" then so "accept" else polN q) = bif polN q == Str.ofString "drop" then so "drop" else so "accept" := by decide +kernel
noncomputable abbrev sOk (x : Str) : Bool := x.cps.all (· < 0x110000)
theorem hook_ok : ∀ j < 7, sOk (hookN j) = true := by decide +kernel
theorem dev_ok : ∀ j < 3, sOk (devN j) = true := by decide +kernel
section
variable {m i k : Nat} {ns : List Int} {tr : List (Nat × T)} {nn : Nat} {os : List Ora} {K : KB}
theorem tuAB (hi : i < 7) (hk : k < 7) (hns : ns.length < 1000000)
    (k3 : ∀ r h d p num, tuB (m + 81) 11 i ns (tuTl k r 3 h d p num .none true (ndT (so "")) []) ⟨tr, nn, true, os⟩ K)
    (kQ : ∀ r s q h d num, s < 3 → q < 3 → sOk h = true → sOk d = true → inH i s h = true → natB s num = false → tuB (m + 81) 11 i ns (tuTl k r s h d (polN q) num (abT s h d (polN q) num) true (ndT (so "")) []) ⟨tr, nn, true, os⟩ K)
    (kR : ∀ r s h d p num, s < 3 → (!(inH i s h) || natB s num) = true → tuB (m + 81) 11 i ns (tuTl k r s h d p num (abT s h d p num) false (ndT (so "")) []) ⟨tr, nn, true, os⟩ K) :
    tuB (m + 92) 0 i ns [(so "k", .int k)] ⟨tr, nn, true, os⟩ K := by
  refine tuA hk hns fun r hr => ?_
  have hs : r % 4 < 4 := Nat.mod_lt r (by decide)
  have hq : r / 420 < 3 := Nat.div_lt_of_lt_mul hr
  have ho := hook_ok (r / 4 % 7) (Nat.mod_lt _ (by decide))
  have hv := dev_ok (r / 140 % 3) (Nat.mod_lt _ (by decide))
  generalize r % 4 = s at hs ⊢
  generalize r / 420 = q at hq ⊢
  generalize hookN (r / 4 % 7) = h at ho ⊢
  generalize devN (r / 140 % 3) = d at hv ⊢
  generalize numN r = num
  rcases Nat.lt_succ_iff_lt_or_eq.mp hs with h3 | rfl
  · cases e1 : natB s num with
    | true => exact tuBS hi h3 (my := false) (by rw [e1]; rfl) (tuB4 hk (kR _ _ _ _ _ _ h3 (by rw [e1, Bool.or_true])))
    | false =>
      cases e2 : inH i s h with
      | true => exact tuBS hi h3 (my := true) (by rw [e1, e2]; rfl) (tuB4 hk (kQ _ _ _ _ _ _ h3 hq ho hv e2 e1))
      | false => exact tuBS hi h3 (my := false) (by rw [e1, e2]; rfl) (tuB4 hk (kR _ _ _ _ _ _ h3 (by rw [e2]; rfl)))
  · exact tuB3 (tuB4 hk (k3 _ _ _ _ _))
variable {r s : Nat} {h d p : Str} {num : Int} {ab : D}
theorem tuU (kk : tuB (m + 79) 13 i ns (tuTl k r s h d p num ab true (ndT (so "")) []) ⟨tr, nn, true, os⟩ K) : tuB (m + 80) 12 i ns (tuTl k r s h d p num ab true (ndT (so "")) []) ⟨tr, nn, true, os⟩ K := by
  refine fun _ => ⟨false, by kernel_rfl, ?_⟩
  exact kk
theorem tuUr (kk : ∀ tl, K .next (mdLo i ns tl) ⟨tr, nn, true, os⟩) : tuB (m + 80) 12 i ns (tuTl k r s h d p num ab false nsT []) ⟨tr, nn, true, os⟩ K := by
  refine fun _ => ⟨false, by kernel_rfl, ?_⟩
  refine B_nil (fun _ => ?_)
  exact kk _
end
end Mine
end
section
set_option maxHeartbeats 400000
namespace Mine
noncomputable abbrev mdI : List Stmt := thB ((mdB.drop 13).take 1)
noncomputable def exV (s : Stmt) : Option Expr := match s with
  | .Expr e _ => some e
  | _ => none
noncomputable abbrev rcS : Expr := ((mdI.head?.bind exV).bind argE).getD noE
noncomputable abbrev tuI (m k i : Nat) (ns : List Int) (tl : List (Str × D)) (sh : Sh) (K : KB) : Prop := (ev cfA m).B (mdI.drop k) ⟨mdS, mdLo i ns tl⟩ sh K noX
theorem cutK_ok {n : Nat} {sh : Sh} {K : Sh → Prop} {tr : List (Nat × T)} (h1 : cutT n sh.tr = tr) (h2 : belowTr n tr = true) (k : K { sh with tr := tr, n := n }) : cutK n sh K := by
  unfold cutK
  rw [h1, h2]
  exact k
theorem bel_tJ {t : Tn} {last : Int} (ok : TnOk t) : belowTr 9 (tJ t last) = true :=
  Bool.and_eq_true_iff.mpr ⟨ok.ah, Bool.and_eq_true_iff.mpr ⟨ok.du, Bool.and_eq_true_iff.mpr ⟨ok.jr, Bool.and_eq_true_iff.mpr ⟨rfl, Bool.and_eq_true_iff.mpr ⟨rfl, Bool.and_eq_true_iff.mpr ⟨rfl, Bool.and_eq_true_iff.mpr ⟨rfl, Bool.and_eq_true_iff.mpr ⟨ok.vs, rfl⟩⟩⟩⟩⟩⟩⟩⟩
noncomputable abbrev tnP (t : Tn) (nm : Str) : Tn := ⟨t.f, stK t.ks nm, stD t.ks t.vs nm (.ref 9), t.ah, t.du, t.jr ++ [jrF (t.ks, t.vs)]⟩
section
variable {m i k : Nat} {ns : List Int} {t : Tn} {last : Int} {os : List Ora} {K : KB} {r s : Nat} {h d p : Str} {num : Int}
theorem tuP (hc : t.ks.length ≤ 10000) (hj : t.jr.length ≤ 100000) (kk : tuB (m + 80) 12 i ns (tuTl k r 3 h d p num .none true (ndT (so "")) []) (mS (tnP t (nmK k)) (nmK k) .none acc (last + 1) (last + 1) os) K) :
    tuB (m + 81) 11 i ns (tuTl k r 3 h d p num .none true (ndT (so "")) []) ⟨tJ t last, 9, true, os⟩ K := by
  have fin : ∀ {K' : KE} {X : KX}, K' .none (mS (tnP t (nmK k)) (nmK k) .none acc (last + 1) (last + 1) os) → (ev cfA (m + 80)).C (.glob (so "make_chain")) [.ref 6, .ref 0, .str (nmK k), .none] ⟨tJ t last, 9, true, os⟩ K' X :=
    fun k' => mkA (mkN (mkC .n (mkD .n hc hj fun lo => k')))
  refine fun _ => ExcT.tri _ _ _ _ _ _ _ _ _ _ _ _ _ _ _ _ _ _ rfl rfl rfl rfl (by decide +kernel) rfl rfl rfl ?_
  refine fin ?_
  exact kk
theorem tuQ {may : Bool} (hf : t.f = famN i) (hi : i < 7) (hs : s < 3) (q1 : inH i s h = true) (q2 : natB s num = false) (hc : t.ks.length ≤ 10000) (hj : t.jr.length ≤ 100000)
    (kk : tuB (m + 80) 12 i ns (tuTl k r s h d p num (abT s h d p num) may (ndT (so "")) []) (mS (tnP t (nmK k)) (nmK k) (bsT s h d num) (.str (bif p == Str.ofString "" then so "accept" else p)) (last + 1) (last + 1) os) K) :
    tuB (m + 81) 11 i ns (tuTl k r s h d p num (abT s h d p num) may (ndT (so "")) []) ⟨tJ t last, 9, true, os⟩ K := by
  have fin : ∀ {K' : KE} {X : KX}, K' .none (mS (tnP t (nmK k)) (nmK k) (bsT s h d num) (.str (bif p == Str.ofString "" then so "accept" else p)) (last + 1) (last + 1) os) → (ev cfA (m + 80)).C (.glob (so "make_chain")) [.ref 6, .ref 0, .str (nmK k), abT s h d p num] ⟨tJ t last, 9, true, os⟩ K' X :=
    fun k' => mkA (mkS hf hi hs q1 q2 (mkC (.s _ _ _ _ _) (mkD (.s _ _ _ _ _) hc hj fun lo => k')))
  refine fun _ => ExcT.tri _ _ _ _ _ _ _ _ _ _ _ _ _ _ _ _ _ _ rfl rfl rfl rfl (by decide +kernel) rfl rfl rfl ?_
  refine fin ?_
  exact kk
theorem tuR {may : Bool} (ok : TnOk t) (hf : t.f = famN i) (hi : i < 7) (hs : s < 3) (q : (!(inH i s h) || natB s num) = true) (kk : tuB (m + 80) 12 i ns (tuTl k r s h d p num (abT s h d p num) may nsT []) ⟨tJ t last, 9, true, os⟩ K) :
    tuB (m + 81) 11 i ns (tuTl k r s h d p num (abT s h d p num) may (ndT (so "")) []) ⟨tJ t last, 9, true, os⟩ K := by
  have fin : ∀ {K' : KE} {X : KX}, X (so "EOPNOTSUPP") notSup (mS t (nmK k) .none acc 0 last os) → (ev cfA (m + 80)).C (.glob (so "make_chain")) [.ref 6, .ref 0, .str (nmK k), abT s h d p num] ⟨tJ t last, 9, true, os⟩ K' X :=
    fun k' => mkA (mkR hf hi hs q k')
  refine fun _ => ExcT.tri _ _ _ _ _ _ _ _ _ _ _ _ _ _ _ _ _ _ rfl rfl rfl rfl (by decide +kernel) rfl rfl rfl ?_
  refine fin ?_
  refine cutK_ok (tr := tJ t last) rfl (bel_tJ ok) ?_
  exact kk
end
section
variable {m i k : Nat} {ns : List Int} {os : List Ora} {K : KB} {r s : Nat} {h d p pol : Str} {num : Int} {ab td : D}
theorem tuJ {f : Str} {ks : List Str} {vs ah jr : List D} {es : List Ent} {nm : Str} {bs po : D} {hd last : Int} (hl : es.length ≤ 1000) (ha : ah.length ≤ 100000)
    (kk : tuI (m + 77) 1 i ns (tuTl k r s h d p num ab true td []) ⟨(11, .lst ((es.map (·.nm)).map .str)) :: mg ⟨f, ks, vs, ah ++ [.ref 11], es.map dueD, jr⟩ nm bs po hd last, 12, true, os⟩ K) :
    tuI (m + 78) 0 i ns (tuTl k r s h d p num ab true td []) ⟨mg ⟨f, ks, vs, ah, es.map dueD, jr⟩ nm bs po hd last, 11, true, os⟩ K := by
  have hlen : (es.map dueD).length = es.length := List.length_map ..
  have hm : es.map (fun e => D.str e.nm) = (es.map (·.nm)).map .str := (List.map_map ..).symm
  rw [← hm] at kk
  refine fun _ => ?_
  show compE (ev cfA (m + 75)) (lcElt rcS) (so "row") (relab (lcSc rcS) mdS) (.ref 7) 11 (es.map dueD).length 0 (cmLo (so "row") none) ⟨(11, .lst []) :: mg ⟨f, ks, vs, ah, es.map dueD, jr⟩ nm bs po hd last, 12, true, os⟩ _
  rw [hlen]
  refine comp_go dueD (fun e => D.str e.nm) es hl (fun xs => rfl) (fun t => rfl) ?_ ?_ es [] none rfl
  · exact fun a _ xs K' k' => ⟨_, rfl, k'⟩
  · exact ⟨ha, kk⟩
theorem tuW3 {sh : Sh} (hy : sh.sym = true) (kk : tuI (m + 76) 2 i ns (tuTl k r 3 h d p num ab true td [(so "policies", .str (so "accept"))]) sh K) : tuI (m + 77) 1 i ns (tuTl k r 3 h d p num ab true td []) sh K := by
  obtain ⟨tr, nn, sym, os⟩ := sh
  obtain rfl : sym = true := hy
  refine fun _ => ⟨false, ne_str' sort_3.1, ?_⟩
  exact kk
theorem tuWs {sh : Sh} (hy : sh.sym = true) (hs : s < 3) (hp : pol = bif p == Str.ofString "drop" then so "drop" else so "accept") (kk : tuI (m + 76) 2 i ns (tuTl k r s h d p num ab true td [(so "policies", .str pol)]) sh K) : tuI (m + 77) 1 i ns (tuTl k r s h d p num ab true td []) sh K := by
  obtain ⟨tr, nn, sym, os⟩ := sh
  obtain rfl : sym = true := hy
  have z := sort_ne s hs
  cases e : p == Str.ofString "drop" with
  | true =>
    rw [e] at hp
    subst hp
    exact fun _ => ⟨true, ne_str' z, true, eq_str' e, kk⟩
  | false =>
    rw [e] at hp
    subst hp
    exact fun _ => ⟨true, ne_str' z, false, eq_str' e, kk⟩
variable {t : Tn} {last : Int} {names : List D}
noncomputable abbrev preT (t : Tn) (nm : Str) (bs po : D) (names : List D) (last : Int) : List (Nat × T) := (11, .lst names) :: mg ⟨t.f, t.ks ++ [nm], t.vs ++ [.ref 9], t.ah ++ [.ref 11], t.du, t.jr ++ [jrF (t.ks, t.vs)]⟩ nm bs po (last + 1) (last + 1)
theorem tuX3 (hl : (t.du.length : Int) = last) (hd : t.du.length ≤ 1000) (kk : ∀ tl, K .next (mdLo i ns tl) ⟨endT t (nmK k) .none pol names last, 13, true, os⟩) :
    tuI (m + 76) 2 i ns (tuTl k r 3 h d p num ab true td [(so "policies", .str pol)]) ⟨preT t (nmK k) .none (.str pol) names last, 12, true, os⟩ K := by
  subst hl
  refine fun _ => ⟨Nat.lt_of_le_of_lt hd (by decide), true, eq_str' sort_3.1, Nat.le_trans hd (by decide), ?_⟩
  exact kk _
theorem tuXs (hs : s < 3) (hl : (t.du.length : Int) = last) (hd : t.du.length ≤ 1000) (kk : ∀ tl, K .next (mdLo i ns tl) ⟨endT t (nmK k) (bsT s h d num) pol names last, 13, true, os⟩) :
    tuI (m + 76) 2 i ns (tuTl k r s h d p num ab true td [(so "policies", .str pol)]) ⟨preT t (nmK k) (bsT s h d num) (.str pol) names last, 12, true, os⟩ K := by
  subst hl
  refine fun _ => ⟨Nat.lt_of_le_of_lt hd (by decide), false, eq_str' (sort_ne s hs), Nat.le_trans hd (by decide), ?_⟩
  exact kk _
end
end Mine
end
section
set_option maxHeartbeats 400000
namespace Mine
noncomputable def bsOk (b : Option (Str × Str × Int × Str)) : Bool := match b with
  | none => true
  | some b => sOk b.1 && (sOk b.2.1 && sOk b.2.2.2)
theorem pol_ok0 : sOk (so "accept") = true := by decide +kernel
theorem pol_ok1 {b : Bool} : sOk (bif b then so "drop" else so "accept") = true := by cases b <;> decide +kernel
theorem bs_ok {s : Nat} {h d : Str} {n : Int} (hs : s < 3) (ho : sOk h = true) (hv : sOk d = true) : bsOk (some (so (sort4 s), h, n, d)) = true :=
  Bool.and_eq_true_iff.mpr ⟨(by decide +kernel : ∀ s < 3, sOk (so (sort4 s)) = true) s hs, Bool.and_eq_true_iff.mpr ⟨ho, hv⟩⟩
structure EntOk (e : Ent) : Prop where
  nm : sOk e.nm = true
  bs : bsOk e.bs = true
  pol : sOk e.pol = true
structure JrOk (p : JR) : Prop where
  b : belowL 9 p.2 = true
  len : p.1.length ≤ 100000
  ok : ∀ x ∈ p.1, sOk x = true
theorem nmK_ok : ∀ k < 7, sOk (nmK k) = true := by decide +kernel
theorem nmK_inj : ∀ a < 7, ∀ b < 7, nmK a = nmK b → a = b := by decide +kernel
theorem anyK_no {x : Str} {ks : List Str} (h : x ∉ ks) : anyK ks x = false := by
  induction ks with
  | nil => rfl
  | cons y ks ih =>
    have e : anyK (y :: ks) x = match decide (y = x) with | true => true | false => anyK ks x := rfl
    rw [e, decide_eq_false fun z : y = x => h (z ▸ List.mem_cons_self ..)]
    exact ih fun m => h (List.mem_cons_of_mem _ m)
theorem stK_new {x : Str} {ks : List Str} (h : x ∉ ks) : stK ks x = ks ++ [x] := by
  unfold stK
  rw [anyK_no h]
theorem stD_new {x : Str} {ks : List Str} {vs : List D} {d : D} (h : x ∉ ks) : stD ks vs x d = vs ++ [d] := by
  unfold stD
  rw [anyK_no h]
theorem below_map {α : Type} {n : Nat} {f : α → D} {l : List α} (h : ∀ a ∈ l, belowD n (f a) = true) : belowL n (l.map f) = true := by
  induction l with
  | nil => rfl
  | cons a l ih =>
    obtain ⟨h1, h2⟩ := List.forall_mem_cons.mp h
    exact Bool.and_eq_true_iff.mpr ⟨h1, ih h2⟩
theorem below_ch (n : Nat) (e : Ent) : belowD n (chD e) = true := Bool.and_eq_true_iff.mpr ⟨below_bs e.bs, rfl⟩
theorem below_due (n : Nat) (e : Ent) : belowD n (dueD e) = true := Bool.and_eq_true_iff.mpr ⟨below_bs e.bs, rfl⟩
structure Inv (es : List Ent) (ps : List JR) (ks : List Nat) : Prop where
  len : es.length + ks.length ≤ 7
  pl : ps.length = es.length
  nd : (es.map (·.nm)).Nodup
  ok : ∀ e ∈ es, EntOk e
  pb : ∀ p ∈ ps, JrOk p
  k7 : ∀ k ∈ ks, k < 7
  kd : ks.Nodup
  fr : ∀ k ∈ ks, nmK k ∉ es.map (·.nm)
section
variable {es : List Ent} {ps : List JR} {ks : List Nat} {k : Nat}
theorem Inv.l7 (I : Inv es ps ks) : es.length ≤ 7 := Nat.le_trans (Nat.le_add_right _ _) I.len
theorem Inv.tn (I : Inv es ps ks) (f : Str) : TnOk (tnE f es ps) where
  vs := below_map fun e _ => below_ch 9 e
  ah := below_map fun p _ => below_strs p.1
  du := below_map fun e _ => below_due 9 e
  jr := below_map fun p hp => Bool.and_eq_true_iff.mpr ⟨(I.pb p hp).b, rfl⟩
theorem Inv.skip (I : Inv es ps (k :: ks)) : Inv es ps ks := ⟨Nat.le_trans (Nat.add_le_add_left (Nat.le_succ _) _) I.len, I.pl, I.nd, I.ok, I.pb, (List.forall_mem_cons.mp I.k7).2, (List.nodup_cons.mp I.kd).2, (List.forall_mem_cons.mp I.fr).2⟩
theorem snoc_all {α : Type} {P : α → Prop} {l : List α} {a : α} (h : ∀ x ∈ l, P x) (ha : P a) : ∀ x ∈ l ++ [a], P x := fun x hx => by
  rcases List.mem_append.mp hx with m | m
  · exact h x m
  · exact List.mem_singleton.mp m ▸ ha
theorem Inv.add (I : Inv es ps (k :: ks)) {bs : Option (Str × Str × Int × Str)} {pol : Str} (hb : bsOk bs = true) (hp : sOk pol = true) (h : Int) : Inv (es ++ [⟨nmK k, bs, pol, h⟩]) (ps ++ [(es.map (·.nm), es.map chD)]) ks where
  len := by
    rw [List.length_append, Nat.add_assoc]
    show es.length + (1 + ks.length) ≤ 7
    rw [Nat.add_comm 1]
    exact I.len
  pl := by rw [List.length_append, List.length_append, I.pl]; rfl
  nd := by
    rw [List.map_append]
    exact List.nodup_append.mpr ⟨I.nd, List.nodup_cons.mpr ⟨List.not_mem_nil, List.nodup_nil⟩, fun x hx y hy e => by
      have hy : y = nmK k := List.mem_singleton.mp hy
      exact (List.forall_mem_cons.mp I.fr).1 (hy ▸ e ▸ hx)⟩
  ok := snoc_all I.ok ⟨nmK_ok k (List.forall_mem_cons.mp I.k7).1, hb, hp⟩
  pb := snoc_all I.pb ⟨below_map fun e _ => below_ch 9 e, Nat.le_trans (Nat.le_of_eq (List.length_map ..)) (Nat.le_trans I.l7 (by decide)), fun x hx => by
    obtain ⟨e, he, rfl⟩ := List.mem_map.mp hx
    exact (I.ok e he).nm⟩
  k7 := I.skip.k7
  kd := I.skip.kd
  fr := fun q hq => by
    rw [List.map_append]
    intro z
    rcases List.mem_append.mp z with m | m
    · exact I.skip.fr q hq m
    · have e := nmK_inj q (I.skip.k7 q hq) k (List.forall_mem_cons.mp I.k7).1 (List.mem_singleton.mp m)
      exact (List.nodup_cons.mp I.kd).1 (e ▸ hq)
variable {m i : Nat} {ns : List Int} {os : List Ora} {K : KB}
theorem tuT (hi : i < 7) (hns : ns.length < 1000000) (I : Inv es ps (k :: ks))
    (kA : ∀ tl, K .next (mdLo i ns tl) ⟨trE (famN i) es ps, 9, true, os⟩)
    (kB : ∀ tl bs pol, bsOk bs = true → sOk pol = true → K .next (mdLo i ns tl) ⟨endT (tnE (famN i) es ps) (nmK k) (bsD bs) pol ((es.map (·.nm)).map .str) es.length, 13, true, os⟩) :
    tuB (m + 92) 0 i ns [(so "k", .int k)] ⟨trE (famN i) es ps, 9, true, os⟩ K := by
  have ok := I.tn (famN i)
  have fr := (List.forall_mem_cons.mp I.fr).1
  have e1 : stK (tnE (famN i) es ps).ks (nmK k) = (tnE (famN i) es ps).ks ++ [nmK k] := stK_new fr
  have e2 : stD (tnE (famN i) es ps).ks (tnE (famN i) es ps).vs (nmK k) (.ref 9) = (tnE (famN i) es ps).vs ++ [.ref 9] := stD_new fr
  have le : ∀ n, 7 ≤ n → es.length ≤ n := fun n h => Nat.le_trans I.l7 h
  have hc : (tnE (famN i) es ps).ks.length ≤ 10000 := Nat.le_trans (Nat.le_of_eq (List.length_map ..)) (le _ (by decide))
  have hp : ∀ n, 7 ≤ n → ps.length ≤ n := fun n h => I.pl ▸ le n h
  have hj : (tnE (famN i) es ps).jr.length ≤ 100000 := Nat.le_trans (Nat.le_of_eq (List.length_map ..)) (hp _ (by decide))
  have ha : (ps.map jrG).length ≤ 100000 := Nat.le_trans (Nat.le_of_eq (List.length_map ..)) (hp _ (by decide))
  have hd : (tnE (famN i) es ps).du.length = es.length := List.length_map ..
  have hd' : (tnE (famN i) es ps).du.length ≤ 1000 := hd ▸ le _ (by decide)
  have hl : ((tnE (famN i) es ps).du.length : Int) = (es.length : Int) := congrArg Int.ofNat hd
  refine tuAB hi (List.forall_mem_cons.mp I.k7).1 hns (fun r h d p num => tuP hc hj ?_) (fun r s q h d num hs hq ho hv q1 q2 => tuQ rfl hi hs q1 q2 hc hj ?_) fun r s h d p num hs q => tuR ok rfl hi hs q (tuUr kA)
  · unfold tnP
    rw [e1, e2]
    refine tuU (fun _ => ?_)
    exact tuJ (le _ (by decide)) ha (tuW3 rfl (tuX3 hl hd' fun tl => B_nil (kB tl none _ rfl pol_ok0)))
  · unfold tnP
    rw [e1, e2, pol_eq q hq]
    refine tuU (fun _ => ?_)
    exact tuJ (le _ (by decide)) ha (tuWs rfl hs rfl (tuXs hs hl hd' fun tl => B_nil (kB tl (some (so (sort4 s), h, num, d)) _ (bs_ok hs ho hv) pol_ok1)))
theorem lo_below : (mdLo i ns []).all (fun p => belowD 9 p.2) = true := by kernel_rfl
theorem trE_add {f : Str} {e : Ent} {p : JR} : trE f (es ++ [e]) (ps ++ [p]) = tJ ⟨f, es.map (·.nm) ++ [e.nm], es.map chD ++ [chD e], ps.map jrG ++ [jrG p], es.map dueD ++ [dueD e], ps.map jrF ++ [jrF p]⟩ ((es.length : Int) + 1) := by
  show tJ ⟨f, (es ++ [e]).map (·.nm), (es ++ [e]).map chD, (ps ++ [p]).map jrG, (es ++ [e]).map dueD, (ps ++ [p]).map jrF⟩ ((es ++ [e]).length : Int) = _
  rw [List.map_append, List.map_append, List.map_append, List.map_append, List.map_append, List.length_append]
  rfl
noncomputable abbrev mdT : Expr := forT (stmtOf "_law_made_hold" 5)
end
theorem md_loop {m i : Nat} {ns : List Int} {os : List Ora} {K : KB} (hi : i < 7) (hns : ns.length < 1000000) (kk : ∀ es ps, Inv es ps [] → K .next (mdLo i ns []) ⟨trE (famN i) es ps, 9, true, os⟩) (ks : List Nat) : ∀ es ps, Inv es ps ks →
    forG cfA (ev cfA (m + 92)) mdT mdB mdS (some 9) (ks.map fun k : Nat => D.int (k : Int)) (mdLo i ns []) ⟨trE (famN i) es ps, 9, true, os⟩ K := by
  induction ks with
  | nil => exact fun es ps I => kk es ps I
  | cons k ks ih =>
    intro es ps I
    have iA := ih es ps I.skip
    have iB := fun bs pol hb hp => ih _ _ (I.add (bs := bs) (pol := pol) hb hp ((es.length : Int) + 1))
    clear ih
    refine tuT (m := m) hi hns I (fun tl => ⟨_, _, Wk.drop (Nat.le_refl 9) (lk_app (lo := mdLo i ns []) (tl := tl)), iA⟩) fun tl bs pol hb hp => ?_
    have q := iB bs pol hb hp
    rw [trE_add] at q
    exact ⟨_, _, wk_end (lo := mdLo i ns []) (tl := tl) (I.tn _) lo_below, q⟩
end Mine
end
section
set_option maxHeartbeats 400000
namespace Mine
theorem look_map {es : List Ent} (nd : (es.map (·.nm)).Nodup) : ∀ e ∈ es, look (es.map (·.nm)) (es.map chD) e.nm = some (chD e) := by
  induction es with
  | nil => exact fun e h => absurd h List.not_mem_nil
  | cons a es ih =>
    intro e h
    obtain ⟨n1, n2⟩ := List.nodup_cons.mp (show (a.nm :: es.map (·.nm)).Nodup from nd)
    rcases List.mem_cons.mp h with rfl | h
    · exact if_pos rfl
    · exact (if_neg fun q : a.nm = e.nm => n1 (q ▸ List.mem_map_of_mem (f := fun e : Ent => e.nm) h)).trans (ih n2 e h)
theorem nb {b : Option (Str × Str × Int × Str)} {P : Prop} (h : P) : (match notB (bsD b) with | true => P | false => False) := by cases b <;> exact h
noncomputable abbrev frE (f : Str) (es : List Ent) (ps : List JR) : List (Nat × T) := [(8, .lst (ps.map jrG)), (7, .lst (es.map dueD)), (6, .lst (ps.map jrF)), (5, .sd [] []), (4, .sd [] []), (3, .sd [] []), (2, .sd [] []), (1, .frz (.sd (es.map (·.nm)) (es.map chD))), (0, tab f (es.length : Int))]
noncomputable abbrev fiLo (i : Nat) (ns : List Int) (o : Option (D × D)) : List (Str × D) := mdLo i ns ((so "rows", .ref 9) :: (match o with | none => [] | some (x, y) => [(so "key", x), (so "chain", y)]))
noncomputable abbrev fiT : Expr := forT (stmtOf "_law_made_hold" 7)
noncomputable abbrev fiB : List Stmt := forB (stmtOf "_law_made_hold" 7)
section
variable {m i : Nat} {ns : List Int} {os : List Ora} {K : KB} {es : List Ent} {ps : List JR}
theorem fi_loop (nd : (es.map (·.nm)).Nodup) (hl : es.length ≤ 7) (kk : ∀ o, K .next (fiLo i ns o) ⟨(9, .lst (es.map dueD)) :: frE (famN i) es ps, 10, true, os⟩) (rest : List Ent) : ∀ (dn : List Ent) (o : Option (D × D)), es = dn ++ rest →
    forE cfA (ev cfA (m + 92)) fiT fiB mdS (rest.map fun e => .str e.nm) (fiLo i ns o) ⟨(9, .lst (dn.map dueD)) :: frE (famN i) es ps, 10, true, os⟩ K := by
  induction rest with
  | nil =>
    intro dn o e
    rw [List.append_nil] at e
    subst e
    exact kk o
  | cons a rest ih =>
    intro dn o e
    have ih' := ih (dn ++ [a]) (some (.str a.nm, chD a)) (e.trans (List.append_assoc dn [a] rest).symm)
    rw [List.map_append] at ih'
    have g := look_map nd a (e ▸ List.mem_append_right _ (List.mem_cons_self ..))
    have hd : (dn.map dueD).length ≤ 100000 := by
      rw [List.length_map]
      rw [e, List.length_append] at hl
      exact Nat.le_trans (Nat.le_trans (Nat.le_add_right _ _) hl) (by decide)
    clear ih e
    cases o
    all_goals
      refine fun _ => ⟨_, g, fun _ => ?_⟩
      refine nb ?_
      refine ⟨hd, fun _ => ⟨false, ne_str' (beq_self_eq_true _), ?_⟩⟩
      refine B_nil ?_
      exact ih'
end
noncomputable def pyB (b : Option (Str × Str × Int × Str)) : PyData := match b with
  | none => .none
  | some b => .tuple [.str b.1, .str b.2.1, .int b.2.2.1, .str b.2.2.2]
noncomputable def pyW (e : Ent) : PyData := .tuple [.str e.nm, .int e.h, pyB e.bs, .str e.pol, .list []]
noncomputable def pyK (ks : List Str) : PyData := .list (ks.map .str)
theorem pyFL_map {α : Type} {f : D → Option PyData} {g : α → D} {q : α → PyData} (h : ∀ a, f (g a) = some (q a)) (l : List α) : pyFL f (l.map g) = some (l.map q) := by
  induction l with
  | nil => rfl
  | cons a l ih =>
    show (f (g a)).bind (fun p => (pyFL f (l.map g)).map (p :: ·)) = _
    rw [h, ih]; rfl
theorem pyF_due {tr : List (Nat × T)} (e : Ent) : pyF tr 5 (dueD e) = some (pyW e) := by
  obtain ⟨a, b, c, d⟩ := e
  cases b <;> rfl
theorem pyF_jr {tr : List (Nat × T)} (p : JR) : pyF tr 5 (jrG p) = some (pyK p.1) := congrArg (Option.map PyData.list) (pyFL_map (fun _ => rfl) p.1)
theorem lay_all {l : List PyData} (h : ∀ p ∈ l, PyData.canLay0 p = true) : PyData.canLayAll0 l = true := by
  induction l with
  | nil => rfl
  | cons p l ih =>
    obtain ⟨h1, h2⟩ := List.forall_mem_cons.mp h
    exact Bool.and_eq_true_iff.mpr ⟨h1, ih h2⟩
theorem dep_all {n : Nat} {l : List PyData} (h : ∀ p ∈ l, PyData.depth p ≤ n) : PyData.depthAll l ≤ n := by
  induction l with
  | nil => exact Nat.zero_le _
  | cons p l ih =>
    obtain ⟨h1, h2⟩ := List.forall_mem_cons.mp h
    exact Nat.max_le.mpr ⟨h1, ih h2⟩
theorem shaped_list {l : List PyData} (h : ∀ p ∈ l, PyData.canLay0 p = true ∧ PyData.depth p ≤ 2) : SeqAt.shaped (.list l) = true := by
  unfold SeqAt.shaped
  rw [show PyData.canLay0 (.list l) = true from lay_all fun p hp => (h p hp).1]
  exact decide_eq_true (show PyData.depthAll l + 1 ≤ 64 from Nat.le_trans (Nat.succ_le_succ (dep_all fun p hp => (h p hp).2)) (by decide))
theorem shape_B {b : Option (Str × Str × Int × Str)} (h : bsOk b = true) : PyData.canLay0 (pyB b) = true ∧ PyData.depth (pyB b) ≤ 1 := by
  cases b with
  | none => exact ⟨rfl, Nat.zero_le _⟩
  | some b =>
    obtain ⟨h1, h⟩ := Bool.and_eq_true_iff.mp h
    obtain ⟨h2, h3⟩ := Bool.and_eq_true_iff.mp h
    refine ⟨?_, Nat.le_refl _⟩
    show (sOk b.1 && (sOk b.2.1 && (true && (sOk b.2.2.2 && true)))) = true
    rw [h1, h2, h3]; rfl
theorem shape_W {e : Ent} (ok : EntOk e) : PyData.canLay0 (pyW e) = true ∧ PyData.depth (pyW e) ≤ 2 := by
  obtain ⟨h1, h2⟩ := shape_B ok.bs
  refine ⟨?_, Nat.succ_le_succ (Nat.max_le.mpr ⟨Nat.zero_le _, Nat.max_le.mpr ⟨Nat.zero_le _, Nat.max_le.mpr ⟨h2, Nat.le_refl 1⟩⟩⟩)⟩
  show (sOk e.nm && (true && (PyData.canLay0 (pyB e.bs) && (sOk e.pol && (true && true))))) = true
  rw [ok.nm, h1, ok.pol]; rfl
theorem shape_K {ks : List Str} (h : ∀ x ∈ ks, sOk x = true) : PyData.canLay0 (pyK ks) = true ∧ PyData.depth (pyK ks) ≤ 2 :=
  ⟨lay_all (l := ks.map .str) fun p hp => by obtain ⟨x, hx, rfl⟩ := List.mem_map.mp hp; exact h x hx,
    Nat.le_trans (Nat.succ_le_succ (dep_all (n := 0) (l := ks.map .str) fun p hp => by obtain ⟨x, hx, rfl⟩ := List.mem_map.mp hp; exact Nat.le_refl _)) (by decide)⟩
theorem eq_refs {tr : List (Nat × T)} {a b : D} {p : PyData} (h1 : pyT tr a = some p) (h2 : pyT tr b = some p) (h3 : SeqAt.shaped p = true) : eqX tr a b = some true := by
  have e : eqP (some p) (some p) = some (p, p) := by
    show (match SeqAt.shaped p && SeqAt.shaped p with | true => some (p, p) | false => Option.none) = _
    rw [h3]; rfl
  unfold eqX
  rw [h1, h2, e]
  exact congrArg some (SeqAt.eqv_refl p (SeqAt.canLay_of_shaped h3))
noncomputable def cmpV (e : Expr) : Option Expr := match e with
  | .Compare l _ _ _ => some l
  | _ => none
noncomputable abbrev jcS : Expr := (cmpV (retE ((bodyOf "_law_made_hold").drop 9))).getD noE
section
variable {m i : Nat} {ns : List Int} {os : List Ora} {K : KB} {es : List Ent} {ps : List JR} (I : Inv es ps []) (kk : ∀ lo sh, K (.ret (.bool true)) lo sh)
include I kk
theorem fd {o : Option (D × D)} : (ev cfA (m + 91)).B ((bodyOf "_law_made_hold").drop 9) ⟨mdS, fiLo i ns o⟩ ⟨(9, .lst (es.map dueD)) :: frE (famN i) es ps, 10, true, os⟩ K noX := by
  have pl : ps.length ≤ 1000 := I.pl ▸ Nat.le_trans I.l7 (by decide)
  have h1 : ∀ tr : List (Nat × T), pyFL (pyF tr 5) (ps.map jrG) = some (ps.map fun p => pyK p.1) := fun tr => pyFL_map pyF_jr ps
  have h3 : SeqAt.shaped (.list (ps.map fun p => pyK p.1)) = true := shaped_list fun q hq => by
    obtain ⟨p, hp, rfl⟩ := List.mem_map.mp hq
    exact shape_K (I.pb p hp).ok
  have he := eq_refs (tr := (10, .lst (ps.map jrG)) :: (9, .lst (es.map dueD)) :: frE (famN i) es ps) (a := .ref 10) (b := .ref 8) (congrArg (Option.map PyData.list) (h1 _)) (congrArg (Option.map PyData.list) (h1 _)) h3
  have hlen : (ps.map jrF).length = ps.length := List.length_map ..
  cases o
  all_goals
    refine fun _ => ?_
    show compE (ev cfA (m + 88)) (lcElt jcS) (so "row") (relab (lcSc jcS) mdS) (.ref 6) 10 (ps.map jrF).length 0 (cmLo (so "row") none) ⟨(10, .lst []) :: (9, .lst (es.map dueD)) :: frE (famN i) es ps, 11, true, os⟩ _
    rw [hlen]
    refine comp_go jrF jrG ps pl (fun xs => rfl) (fun t => rfl) ?_ ?_ ps [] none rfl
    · exact fun a ha xs K' k' => ⟨_, rfl, (I.pb a ha).len, k'⟩
    · exact ⟨true, he, kk _ _⟩
theorem fc {o : Option (D × D)} : (ev cfA (m + 92)).B ((bodyOf "_law_made_hold").drop 8) ⟨mdS, fiLo i ns o⟩ ⟨(9, .lst (es.map dueD)) :: frE (famN i) es ps, 10, true, os⟩ K noX := by
  have h1 : ∀ tr : List (Nat × T), pyFL (pyF tr 5) (es.map dueD) = some (es.map pyW) := fun tr => pyFL_map pyF_due es
  have h3 : SeqAt.shaped (.list (es.map pyW)) = true := shaped_list fun q hq => by
    obtain ⟨e, he, rfl⟩ := List.mem_map.mp hq
    exact shape_W (I.ok e he)
  have he := congrArg (Option.map (!·)) (eq_refs (tr := (9, .lst (es.map dueD)) :: frE (famN i) es ps) (a := .ref 9) (b := .ref 7) (congrArg (Option.map PyData.list) (h1 _)) (congrArg (Option.map PyData.list) (h1 _)) h3)
  have hlen : (es.map dueD).length = es.length := List.length_map ..
  have hl : (es.map dueD).length < 1000000 := hlen ▸ Nat.lt_of_le_of_lt I.l7 (by decide)
  have hn : ∀ tr, cmpB tr .NotEq (.int (es.length : Int)) (.int ((es.map dueD).length : Int)) = some false := fun tr => by
    rw [hlen]
    exact congrArg (fun b => some (!b)) (beq_self_eq_true (es.length : Int))
  have fin := fun o => fd (m := m) (i := i) (ns := ns) (os := os) (o := o) I kk
  cases o with
  | none =>
    refine fun _ => ⟨false, he, hl, false, hn _, ?_⟩
    exact B_nil (fin none)
  | some xy =>
    obtain ⟨x, y⟩ := xy
    refine fun _ => ⟨false, he, hl, false, hn _, ?_⟩
    exact B_nil (fin (some (x, y)))
theorem md_fin : (ev cfA (m + 94)).B ((bodyOf "_law_made_hold").drop 6) ⟨mdS, mdLo i ns []⟩ ⟨trE (famN i) es ps, 9, true, os⟩ K noX := by
  have fin := fun o => fc (m := m) (i := i) (ns := ns) (os := os) (o := o) I kk
  have go := fun K q => fi_loop (m := m) (i := i) (ns := ns) (os := os) (ps := ps) (K := K) I.nd I.l7 q es [] none rfl
  have hm : es.map (fun e => D.str e.nm) = (es.map (·.nm)).map .str := (List.map_map ..).symm
  rw [hm] at go
  refine fun _ => ⟨true, ?_⟩
  refine go _ ?_
  exact fin
end
end Mine
end
section
set_option maxHeartbeats 4000000
namespace Mine
noncomputable abbrev shN (os : List Ora) : Sh := ⟨[], 0, false, os⟩
noncomputable abbrev laLo (ns : List Int) (tl : List (Str × D)) : List (Str × D) := (so "script", .scr ns) :: (so "named", namedD) :: tl
noncomputable abbrev plD : D := .tup [.str (famN 6), .str (hookN 6)]
noncomputable abbrev keysD : List D := (famL.flatMap fun f => hookL.map fun h => [f, h]).map keyD
theorem law_1 (m : Nat) (K : KB) (os : List Ora) (ns : List Int) : forE cfA (ev cfA (m + 60)) (forT (stmtOf "law" 1)) (forB (stmtOf "law" 1)) lawSc keysD (laLo ns []) (shN os) K =
    K .next (laLo ns [(so "place", plD)]) (shN os) := by kernel_rfl
theorem law_3 (m : Nat) (K : KB) (os : List Ora) (ns : List Int) : forE cfA (ev cfA (m + 60)) (forT (stmtOf "law" 3)) (forB (stmtOf "law" 3)) lawSc (famL.map .str) (laLo ns [(so "place", plD), (so "stands", standsD)]) (shN os) K =
    K .next (laLo ns [(so "place", plD), (so "stands", standsD), (so "family", .str (famN 6)), (so "sort", .str (so "security"))]) (shN os) := by kernel_rfl
theorem named_c {m : Nat} : Told (m + 40) "_law_named" [] (fun d => d = namedD) := fun sh => ⟨false, by rw [named_eq]⟩
theorem stands_c {m : Nat} : Told (m + 40) "_law_stands" [] (fun d => d = standsD) := fun sh => ⟨false, by rw [stands_eq]⟩
end Mine
end
section
set_option maxHeartbeats 400000
namespace Mine
noncomputable abbrev lwLo (ns : List Int) (p : D) (tl : List (Str × D)) : List (Str × D) := laLo ns [(so "place", p), (so "stands", standsD), (so "family", .str (famN 6)), (so "sort", .str (so "security"))] ++ tl
noncomputable def pL6 : List D := [.int 1, .int 32, .int 40, .int 17, .int 22, .int 7]
noncomputable def uL6 : List D := [.int 17, .int 47, .int 24, .int 69, .int 2, .int 81]
theorem pL_nth {k : Nat} (h : k < 6) : ∃ u : Int, nth pL6 (k : Int) = some (.int u) := by
  rcases or6 h with rfl | rfl | rfl | rfl | rfl | rfl <;> exact ⟨_, rfl⟩
theorem uL_nth {k : Nat} (h : k < 6) : ∃ u : Nat, nth uL6 (k : Int) = some (.int (u : Int)) := by
  rcases or6 h with rfl | rfl | rfl | rfl | rfl | rfl
  · exact ⟨17, rfl⟩
  · exact ⟨47, rfl⟩
  · exact ⟨24, rfl⟩
  · exact ⟨69, rfl⟩
  · exact ⟨2, rfl⟩
  · exact ⟨81, rfl⟩
theorem below_nl (l : NL) : belowL 0 (l.map nmD) = true := by
  induction l with
  | nil => rfl
  | cons p l ih => exact ih
theorem law_turn {m : Nat} {os : List Ora} {ns : List Int} {k : Nat} {p0 : D} {K : KB} (hk : k < 6) (hns : ns.length < 1000000) (kk : ∀ p tl, K .next (lwLo ns p tl) (shY os)) :
    (ev cfA (m + 170)).B (forB (stmtOf "law" 4)) ⟨lawSc, lwLo ns p0 [(so "k", .int k)]⟩ (shY os) K noX := by
  obtain ⟨u1, hu1⟩ := pL_nth hk
  obtain ⟨u2, hu2⟩ := uL_nth hk
  refine fun _ => ⟨_, hu1, rfl, _, drawn_c (p := (k : Int)) (Int.natCast_nonneg k) (Int.ofNat_lt.mpr (Nat.lt_trans hk (by decide))) (M := 49) (by decide) hns _, ?_⟩
  rintro _ ⟨r, rfl, hr⟩
  have hr' : r < 49 := Int.ofNat_lt.mp hr
  refine ⟨rfl, _, place_c hr' _, ?_⟩
  rintro _ rfl
  have hi : r / 7 < 7 := Nat.div_lt_of_lt_mul hr'
  have hj : r % 7 < 7 := Nat.mod_lt r (by decide)
  have bl : belowL 0 [.scr ns, .int (k : Int), nlD (nmB (r / 7) (r % 7)), .str (famN (r / 7)), .str (hookN (r % 7)), .int (u2 : Int)] = true := Bool.and_eq_true_iff.mpr ⟨rfl, Bool.and_eq_true_iff.mpr ⟨rfl, Bool.and_eq_true_iff.mpr ⟨below_nl _, rfl⟩⟩⟩
  refine fun _ => ⟨_, hu2, fun _ => ⟨_, named_at hi hj, _, rfl, _, rfl, bl, _, base_holds_c hi hj hk hns _, ?_⟩⟩
  rintro _ rfl
  exact B_nil (kk _ _)
theorem law_loop {m : Nat} {os : List Ora} {ns : List Int} {K : KB} (hns : ns.length < 1000000) (kk : ∀ p, K .next (lwLo ns p []) (shY os)) (ks : List Nat) : ∀ p : D, (∀ k ∈ ks, k < 6) →
    forG cfA (ev cfA (m + 170)) (forT (stmtOf "law" 4)) (forB (stmtOf "law" 4)) lawSc (some 0) (ks.map fun k : Nat => D.int (k : Int)) (lwLo ns p []) (shY os) K := by
  induction ks with
  | nil => exact fun p _ => kk p
  | cons k ks ih =>
    intro p hk
    obtain ⟨h1, h2⟩ := List.forall_mem_cons.mp hk
    exact law_turn (m := m) h1 hns fun p tl => ⟨_, _, Wk.app (lo := lwLo ns p []) (tl := tl), ih p h2⟩
theorem below_named1 {ns : List Int} : belowL 0 [.scr ns, namedD] = true := by kernel_rfl
theorem below_stands1 {ns : List Int} : belowL 0 [.scr ns, standsD] = true := by kernel_rfl
end Mine
end
section
set_option maxHeartbeats 4000000
namespace Mine
theorem law_5 {m : Nat} {os : List Ora} {ns : List Int} {p : D} {K : KB} (hns : ns.length < 1000000) (made : ∀ {m : Nat} {ns : List Int}, ns.length < 1000000 → Told (m + 100) "_law_made_hold" [.scr ns, standsD] (fun d => d = .bool true))
    (kk : ∀ lo, K (.ret (.bool true)) lo (shY os)) : (ev cfA (m + 190)).B ((bodyOf "law").drop 5) ⟨lawSc, lwLo ns p []⟩ (shY os) K noX := by
  refine fun _ => ⟨below_named1, _, texts_c hns _, ?_⟩
  rintro _ rfl
  refine B_nil (fun _ => ⟨below_stands1, _, made hns _, ?_⟩)
  rintro _ rfl
  exact kk _
noncomputable def st1 (x : String) (i : Nat) : Stmt := ((bodyOf x)[i]?).getD (.Pass ⟨0, 0, 0, 0⟩)
theorem law_S1 (m : Nat) (K : KB) (X : KX) (os : List Ora) (ns : List Int) : stepS cfA (loopS cfA (excS cfA)) (ev cfA (m + 60)) (st1 "law" 1) ⟨lawSc, laLo ns []⟩ (shN os) K X = K .next (laLo ns [(so "place", plD)]) (shN os) := by kernel_rfl
theorem law_S3 (m : Nat) (K : KB) (X : KX) (os : List Ora) (ns : List Int) : stepS cfA (loopS cfA (excS cfA)) (ev cfA (m + 60)) (st1 "law" 3) ⟨lawSc, laLo ns [(so "place", plD), (so "stands", standsD)]⟩ (shN os) K X = K .next (lwLo ns plD []) (shN os) := by kernel_rfl
theorem B_step {cf : Cf} {m : Nat} {st : Stmt} {rest : List Stmt} {ρ : Loc} {os : List Ora} {K : KB} {X : KX} {lo' : List (Str × D)} (e : ∀ K X, stepS cf (loopS cf (excS cf)) (ev cf m) st ρ ⟨[], 0, false, os⟩ K X = K .next lo' ⟨[], 0, false, os⟩) (hf : isFor st = true) (k : (ev cf m).B rest ⟨ρ.sc, lo'⟩ ⟨[], 0, true, os⟩ K X) : (ev cf (m + 1)).B (st :: rest) ρ ⟨[], 0, true, os⟩ K X :=
 by
  have go : ∃ sym, stepS cf (loopS cf (excS cf)) (ev cf m) st ρ ⟨[], 0, sym, os⟩ (fun fl lo sh => match fl with
    | .next => (ev cf m).B rest ⟨ρ.sc, lo⟩ { sh with sym := true } K X
    | fl => K fl lo { sh with sym := true }) fun c y sh => X c y { sh with sym := true } := ⟨false, Eq.mpr (e _ _) k⟩
  show (match isFor st with
    | true => ∃ sym, stepS cf (loopS cf (excS cf)) (ev cf m) st ρ ⟨[], 0, sym, os⟩ (fun fl lo sh => match fl with
      | .next => (ev cf m).B rest ⟨ρ.sc, lo⟩ { sh with sym := true } K X
      | fl => K fl lo { sh with sym := true }) fun c y sh => X c y { sh with sym := true }
    | false => _)
  rw [hf]
  exact go
theorem law_d1 : (bodyOf "law").drop 1 = st1 "law" 1 :: (bodyOf "law").drop 2 := by kernel_rfl
theorem law_d3 : (bodyOf "law").drop 3 = st1 "law" 3 :: (bodyOf "law").drop 4 := by kernel_rfl
theorem law_B1 {m : Nat} {K : KB} {X : KX} {os : List Ora} {ns : List Int} (k : (ev cfA (m + 60)).B ((bodyOf "law").drop 2) ⟨lawSc, laLo ns [(so "place", plD)]⟩ (shY os) K X) : (ev cfA (m + 61)).B ((bodyOf "law").drop 1) ⟨lawSc, laLo ns []⟩ (shY os) K X := by
  rw [law_d1]
  exact B_step (fun K X => law_S1 m K X os ns) rfl k
theorem law_B3 {m : Nat} {K : KB} {X : KX} {os : List Ora} {ns : List Int} (k : (ev cfA (m + 60)).B ((bodyOf "law").drop 4) ⟨lawSc, lwLo ns plD []⟩ (shY os) K X) : (ev cfA (m + 61)).B ((bodyOf "law").drop 3) ⟨lawSc, laLo ns [(so "place", plD), (so "stands", standsD)]⟩ (shY os) K X := by
  rw [law_d3]
  exact B_step (fun K X => law_S3 m K X os ns) rfl k
end Mine
end
section
set_option maxHeartbeats 4000000
namespace Mine
theorem plain_made (made : ∀ {m : Nat} {ns : List Int}, ns.length < 1000000 → Told (m + 100) "_law_made_hold" [.scr ns, standsD] (fun d => d = .bool true)) : Plain 200 := by
  intro ns hl
  have hns : ns.length < 1000000 := Nat.lt_of_le_of_lt hl (by decide)
  refine ⟨shY [], rfl, rfl, ?_⟩
  refine ⟨rfl, fun d => d = .bool true, ⟨true, ?_⟩, fun d h => h⟩
  refine fun _ => ⟨rfl, _, named_c _, ?_⟩
  rintro _ rfl
  have l5 := fun (K : KB) p kk => law_5 (m := 4) (os := []) (p := p) (K := K) hns made kk
  have l4 := fun (K : KB) kk p => law_loop (m := 24) (os := []) (K := K) hns kk [0, 1, 2, 3, 4, 5] p (by decide)
  refine law_B1 (m := 137) ?_
  refine fun _ => ⟨rfl, _, stands_c _, ?_⟩
  rintro _ rfl
  refine law_B3 (m := 135) ?_
  refine ⟨true, by decide, rfl, ?_⟩
  refine l4 _ ?_ _
  intro p
  refine l5 _ _ ?_
  intro lo
  rfl
end Mine
end
section
set_option maxHeartbeats 4000000
namespace Mine
noncomputable def tbF : Fn := ((clsIn bodyP (so "Table")).map (·.1)).getD ⟨[], [], [], []⟩
noncomputable abbrev tbB : List Stmt := tbF.body
noncomputable abbrev tbLo (f : Str) : List (Str × D) := [(so "name", .str (so "t")), (so "family", .str f), (so "self", .ref 0)]
noncomputable abbrev tbO (f : Str) (k : Nat) (tl : List D) : T := .obj (so "Table") (tF.take k) ([.str f, .str (so "t"), .int 0, .tup []] ++ tl)
noncomputable abbrev tbX (m k : Nat) (f : Str) (tr : List (Nat × T)) (n : Nat) (os : List Ora) (K : KB) (X : KX) : Prop := (ev cfA m).B (tbB.drop k) ⟨tbF.sc, tbLo f⟩ ⟨tr, n, true, os⟩ K X
section
variable {m : Nat} {os : List Ora} {f : Str} {K : KB} {X : KX}
theorem tbA (k : tbX (m + 45) 4 f [(0, tbO f 4 [])] 1 os K X) : tbX (m + 49) 0 f [(0, .obj (so "Table") [] [])] 1 os K X := by
  refine fun _ _ _ _ => ?_
  exact k
theorem tbC (k : tbX (m + 43) 6 f [(2, .sd [] []), (1, .sd [] []), (0, tbO f 6 [.ref 1, .ref 2])] 3 os K X) : tbX (m + 45) 4 f [(0, tbO f 4 [])] 1 os K X := by
  refine fun _ _ => ?_
  exact k
theorem tbD (k : tbX (m + 41) 8 f [(4, .sd [] []), (3, .sd [] []), (2, .sd [] []), (1, .sd [] []), (0, tbO f 8 [.ref 1, .ref 2, .ref 3, .ref 4])] 5 os K X) : tbX (m + 43) 6 f [(2, .sd [] []), (1, .sd [] []), (0, tbO f 6 [.ref 1, .ref 2])] 3 os K X := by
  refine fun _ _ => ?_
  exact k
noncomputable abbrev tbT (f : Str) : List (Nat × T) := [(5, .sd [] []), (4, .sd [] []), (3, .sd [] []), (2, .sd [] []), (1, .sd [] []), (0, tab f 0)]
theorem tbE (k : K .next (tbLo f) ⟨tbT f, 6, true, os⟩) : tbX (m + 41) 8 f [(4, .sd [] []), (3, .sd [] []), (2, .sd [] []), (1, .sd [] []), (0, tbO f 8 [.ref 1, .ref 2, .ref 3, .ref 4])] 5 os K X := by
  refine fun _ _ => ?_
  exact k
end
section
variable {m i : Nat} {os : List Ora} {ns : List Int} {K : KB}
noncomputable abbrev mdX (i : Nat) (ns : List Int) (tl : List (Str × D)) : List (Str × D) := (so "stands", standsD) :: (so "script", .scr ns) :: (so "family", .str (famN i)) :: tl
theorem made_2 {X : KX} (k : (ev cfA (m + 95)).B ((bodyOf "_law_made_hold").drop 5) ⟨mdS, mdLo i ns []⟩ ⟨trE (famN i) [] [], 9, true, os⟩ K X) :
    (ev cfA (m + 98)).B ((bodyOf "_law_made_hold").drop 2) ⟨mdS, mdX i ns [(so "table", .ref 0)]⟩ ⟨tbT (famN i), 6, true, os⟩ K X := by
  refine fun _ _ _ => ?_
  exact k
theorem made_1 {X : KX} (k : (ev cfA (m + 98)).B ((bodyOf "_law_made_hold").drop 2) ⟨mdS, mdX i ns [(so "table", .ref 0)]⟩ ⟨tbT (famN i), 6, true, os⟩ K X) :
    (ev cfA (m + 99)).B ((bodyOf "_law_made_hold").drop 1) ⟨mdS, mdX i ns []⟩ ⟨[], 0, true, os⟩ K X := by
  refine fun _ => ?_
  refine tbA (m := m + 47) ?_
  refine tbC ?_
  refine tbD ?_
  refine tbE ?_
  exact k
theorem inv0 : Inv [] [] [0, 1, 2, 3, 4, 5, 6] := ⟨by decide, rfl, List.nodup_nil, fun e h => absurd h List.not_mem_nil, fun e h => absurd h List.not_mem_nil, by decide, by decide, fun k _ => List.not_mem_nil⟩
theorem made_5 (hi : i < 7) (hns : ns.length < 1000000) (kk : ∀ lo sh, K (.ret (.bool true)) lo sh) :
    (ev cfA (m + 95)).B ((bodyOf "_law_made_hold").drop 5) ⟨mdS, mdLo i ns []⟩ ⟨trE (famN i) [] [], 9, true, os⟩ K noX := by
  have lp := fun K kk => md_loop (m := m + 2) (os := os) (ns := ns) (i := i) (K := K) hi hns kk [0, 1, 2, 3, 4, 5, 6] [] [] inv0
  refine ⟨true, by decide, rfl, ?_⟩
  refine lp _ ?_
  intro es ps I
  exact md_fin (m := m) I kk
end
theorem made_c {m : Nat} {ns : List Int} (hns : ns.length < 1000000) : Told (m + 100) "_law_made_hold" [.scr ns, standsD] (fun d => d = .bool true) := fun sh => by
  refine ⟨true, fun _ => ⟨rfl, _, families_c _, ?_⟩⟩
  rintro _ rfl
  refine ⟨rfl, _, drawn_c (p := 31) (by decide) (by decide) (M := 6) (by decide) hns _, ?_⟩
  rintro _ ⟨r, rfl, hr⟩
  have hi : r < 7 := Nat.lt_of_lt_of_le (Int.ofNat_lt.mp hr) (by decide)
  have m5 := fun K kk => made_5 (m := m) (os := sh.os) (ns := ns) (K := K) hi hns kk
  refine ⟨_, fam_nth hi, ?_⟩
  refine made_1 (m := m) ?_
  refine made_2 (m := m) ?_
  refine m5 _ ?_
  intro lo sh'
  rfl
theorem plain : Plain 200 := plain_made made_c
end Mine
end
theorem PySem.Challenge.cw_pq1077_01_holds : PySem.Challenge.rw_pq1077_01.Holds :=
  Mine.fin Mine.plain
