import PyProof.Rows.All
import Wide.All
import OpenK.AllK
import Wide.FinOn
import KE.KSuper
import HandS.ForMost
import HandS.ForExc
import HandS.Defaults
import HandS.HeadHook1
import HandS.HeadHook2
import HandS.HeadHook3
import HandS.HeadHook4
import KE.KExcSuper
import HandS.ExcInit
import HandS.FStr
import KE.KExcIs
import HandS.ExcCtx
import HandS.HotCalls
import HandS.ExcField
import HandS.ExcIs
import HandS.ExcInitHot
import HandS.Lambda
import HandS.TryOnly
import HandS.Property
import HandS.ClsMeth
import KE.OsArith
import HandS.Wide
import HandS.WideBits
import HandS.IsInst
import HandS.Flow
import HandS.Style
import PyProof.StrOps2
import KE.IntTextLaws
import HandS.Deep
import KE.KStateDown
import HandS.Head0
import HandS.Head1
import HandS.Head2
import HandS.HeadEnd
import HandS.HeadWalk
import HandS.Conv
import PySem.Challenge.RW_onecodestands_k69_codes_in_the_middle
set_option Elab.async false
set_option linter.all false
set_option maxRecDepth 100000
namespace Yh
open PySem L2
/-- a def that stands somewhere else than under a module's name or a class's method: a getter, an __init__ with its class in a cell -/
structure FnE where
  adr : PySem.W.Frag → Addr
  name : Str
  qual : Str
  params : Arguments
  body : List Stmt
  scope : Scope
  clo : Bool := false
abbrev FnU : Type := Option (Str × Str × Arguments × FuncBody × Scope × Addr × Addr)
def fnU (K : PySem.W.Frag) (a : Addr) : FnU := match K.lookup a with
  | some ⟨_, _, .func f, _⟩ => some (f.name, f.qualname, f.params, f.body, f.scope, f.globals, f.builtins)
  | _ => none
def FnE.val (d : FnE) : FnU := some (d.name, d.qual, d.params, .stmts d.body, d.scope, mainGlobals, builtinsNs)
def isNo : Value → Bool
  | .none => true
  | _ => false
/-- the cell of __class__ in a def's closure -/
def cellA (K : PySem.W.Frag) (a : Addr) : Addr := match K.lookup a with
  | some ⟨_, _, .func f, _⟩ => (match f.closure with | [q] => q.2 | _ => 0)
  | _ => 0
def cloL (b : Bool) (c : Addr) : List (Str × Addr) := match b with
  | false => []
  | true => [(("__class__" : Str), c)]
def cloOk (b : Bool) (c : Addr) (l : List (Str × Addr)) : Bool := decide (l = cloL b c)
def FnE.ok (K : PySem.W.Frag) (d : FnE) : Bool := match K.lookup (d.adr K) with
  | some ⟨_, _, .func f, _⟩ => PySem.W.codeIn K f.code d.qual && (isNo f.defaults && (isNo f.kwdefaults && cloOk d.clo (cellA K (d.adr K)) f.closure))
  | _ => false
theorem isNo_eq {v : Value} (h : isNo v = true) : v = .none := by
  cases v <;> first | rfl | cases h
abbrev Yal : Type := He.AlD × List FnU × Bool
def yobs (ad : List Addr) (fa : List He.Fa) (fn : List He.DefD) (fx : List FnE) (tf : List He.Defn) (ex : PySem.W.Frag → Bool) (g : Addr → Option Obj) : Yal :=
  (He.obsD fa fn (He.frT g ad), fx.map (fun d => fnU (He.frT g ad) (d.adr (He.frT g ad))), fx.all (fun d => d.ok (He.frT g ad)) && (ex (He.frT g ad) && He.tabsB g tf (He.frT g ad)))
def yval (fn : List He.DefD) (fx : List FnE) : Yal := (He.valD fn, fx.map FnE.val, true)
/-- what the end leans on -/
structure Says (fa : List He.Fa) (fn : List He.DefD) (fx : List FnE) (tf : List He.Defn) (ex : PySem.W.Frag → Bool) (h : Heap) (K : PySem.W.Frag) : Prop where
  d : He.SaysD fa fn K
  u : fx.map (fun d => fnU K (d.adr K)) = fx.map FnE.val
  v : fx.all (fun d => d.ok K) = true
  e : ex K = true
  hd : ∀ p ∈ tf, PySem.W.codeHdIn K (He.cT K p).1 (He.cT K p).2 = true
  out : ∀ p ∈ tf, K.lookup (He.cT K p).2 = none
  emp : ∀ p ∈ tf, h.get? (He.cT K p).2 = some { cls := .none, data := .fields #[] }
section
variable {ad : List Addr} {fa : List He.Fa} {fn : List He.DefD} {fx : List FnE} {tf : List He.Defn} {ex : PySem.W.Frag → Bool}
theorem says_of {h : Heap} (e : yobs ad fa fn fx tf ex h.get? = yval fn fx) : Says fa fn fx tf ex h (He.frT h.get? ad) := by
  have e1 := congrArg (fun z : Yal => z.1) e
  have e2 := congrArg (fun z : Yal => z.2.1) e
  have e3 : (fx.all (fun d => d.ok (He.frT h.get? ad)) && (ex (He.frT h.get? ad) && He.tabsB h.get? tf (He.frT h.get? ad))) = true := congrArg (fun z : Yal => z.2.2) e
  obtain ⟨a1, a2⟩ := He.ba e3
  obtain ⟨a3, a4⟩ := He.ba a2
  have key : ∀ p ∈ tf, PySem.W.codeHdIn (He.frT h.get? ad) (He.cT (He.frT h.get? ad) p).1 (He.cT (He.frT h.get? ad) p).2 = true ∧
      ∃ o, h.get? (He.cT (He.frT h.get? ad) p).2 = some o ∧ He.emptyTab o = true := by
    intro p hp
    have b := List.all_eq_true.mp a4 p hp
    obtain ⟨b1, b2⟩ := He.ba b
    refine ⟨b1, ?_⟩
    revert b2
    cases h.get? (He.cT (He.frT h.get? ad) p).2 with
    | none => intro q; cases q
    | some o => intro q; exact ⟨o, rfl, q⟩
  exact ⟨e1, e2, a1, a3, fun p hp => (key p hp).1, fun p hp => by
      obtain ⟨_, o, q, z⟩ := key p hp
      exact He.frT_none q z, fun p hp => by
      obtain ⟨_, o, q, z⟩ := key p hp
      rw [q, He.emptyTab_eq z]⟩
def yhook (ad : List Addr) (fa : List He.Fa) (fn : List He.DefD) (fx : List FnE) (tf : List He.Defn) (ex : PySem.W.Frag → Bool) : PySem.W.Hook where
  α := Yal
  obs := fun s => yobs ad fa fn fx tf ex s.heap.get?
  val := fun _ => yval fn fx
  says := fun _ h => ∃ K : PySem.W.Frag, K.In h ∧ Says fa fn fx tf ex h K
  of := fun _ _ e => ⟨_, He.frT_in, says_of e⟩
  keeps := fun _ _ _ ⟨K, hK, c⟩ k => ⟨K, PySem.W.Frag.In.keeps hK k, ⟨c.d, c.u, c.v, c.e, c.hd, c.out, fun p hp => k _ _ (c.emp p hp)⟩⟩
theorem yobs_eq {g : Addr → Option Obj} {s : Shared} (h : ∀ a, g a = s.heap.get? a) : yobs ad fa fn fx tf ex g = (yhook ad fa fn fx tf ex).obs s := by
  have e : g = s.heap.get? := funext h
  rw [e]
  rfl
/-- the function object of an FnE without closure, of one with the class in a cell -/
theorem Says.fnx {h : Heap} {K : PySem.W.Frag} (c : Says fa fn fx tf ex h K) {d : FnE} (hd : d ∈ fx) :
    ∃ oc od osl doc pm an cdv ct, K.lookup (d.adr K) = some ⟨oc, od, .func (PySem.W.fnX d.name d.qual d.params d.body d.scope (cloL d.clo (cellA K (d.adr K))) .none .none doc pm an cdv ct), osl⟩ ∧ PySem.W.codeIn K cdv d.qual = true := by
  have o := List.all_eq_true.mp c.v d hd
  have u : fnU K (d.adr K) = d.val := by
    obtain ⟨i, hi, e⟩ := List.mem_iff_getElem.mp hd
    have z : (fx.map fun d => fnU K (d.adr K))[i]? = (fx.map FnE.val)[i]? := by rw [c.u]
    rw [List.getElem?_map, List.getElem?_map, List.getElem?_eq_getElem hi, e] at z
    exact Option.some.inj z
  unfold FnE.ok at o
  unfold fnU at u
  cases q : K.lookup (d.adr K) with
  | none => rw [q] at o; cases o
  | some ob =>
    obtain ⟨oc, od, dt, osl⟩ := ob
    rw [q] at o u
    cases dt with
    | func f =>
      obtain ⟨n1, n2, n3, n4, n5, n6, n7, n8, n9, n10, n11, n12, n13, n14, n15⟩ := f
      have u2 : (some (n1, n2, n3, n4, n5, n6, n15) : FnU) = some (d.name, d.qual, d.params, .stmts d.body, d.scope, mainGlobals, builtinsNs) := u
      simp only [Option.some.injEq, Prod.mk.injEq] at u2
      obtain ⟨h1, h2, h3, h4, h5, h6, h9⟩ := u2
      obtain ⟨o1, o⟩ := He.ba o
      obtain ⟨o2, o⟩ := He.ba o
      obtain ⟨o3, o4⟩ := He.ba o
      have e8 := isNo_eq o2
      have e9 := isNo_eq o3
      have e7 : n7 = (cloL d.clo (cellA K (d.adr K))) := by
        exact of_decide_eq_true o4
      dsimp only at e8 e9
      subst h1 h2 h3 h4 h5 h6 h9 e7 e8 e9
      exact ⟨oc, od, osl, n10, n11, n12, n13, n14, rfl, o1⟩
    | _ => cases o
end
end Yh

set_option Elab.async false
set_option linter.all false
set_option maxRecDepth 100000
set_option maxHeartbeats 2000000
namespace Xn
open PySem PySem.W PySem.Calls PyProof.Rows L2
/-! ## the class of an own error, by one Bool -/
def oexB (K : Frag) (C : Addr) : Bool := match K.lookup C with
  | some ⟨.type tn, _, .cls cd, sl⟩ => (match cd.mro, sl.toList with
    | .ref C' :: bm, [_, _, _, _, some (.builtin n), _] => decide (tn = "type") && (decide (C' = C) && (decide (n = "ValueError.__new__") && (!cd.hasDel && (cd.hasDict && HandSPX.refsVE bm))))
    | _, _ => false)
  | _ => false
def oexF (K : Frag) (C : Addr) : Bool := oexB K C && (decide (findIn K (.ref C) "__setattr__" = some (some (.builtin "object.__setattr__"))) && (decide (subIn K (.ref C) (.type "BaseException") = some true) &&
  (decide (typeIn K (.ref C) = some (.type "type")) && keepIn K (.ref C))))
theorem oexF_ok {K : Frag} {C : Addr} (h : oexF K C = true) : OexC K C := by
  obtain ⟨h0, h⟩ := He.ba h
  obtain ⟨h1, h⟩ := He.ba h
  obtain ⟨h2, h⟩ := He.ba h
  obtain ⟨h3, h4⟩ := He.ba h
  refine ⟨?_, of_decide_eq_true h1, of_decide_eq_true h2, of_decide_eq_true h3, h4⟩
  unfold oexB at h0
  split at h0
  · rename_i tn dd cd sl ho
    split at h0
    · rename_i C' bm k0 k1 k2 k3 n k5 hm hs
      obtain ⟨a1, a⟩ := He.ba h0
      obtain ⟨a2, a⟩ := He.ba a
      obtain ⟨a3, a⟩ := He.ba a
      obtain ⟨a4, a⟩ := He.ba a
      obtain ⟨a5, a6⟩ := He.ba a
      have b1 := of_decide_eq_true a1
      have b2 := of_decide_eq_true a2
      have b3 := of_decide_eq_true a3
      obtain ⟨nm, bs, mro, ns, qn, hd, sn, sub, ab, col, del⟩ := cd
      dsimp only at hm a4 a5
      have b4 : del = false := by revert a4; cases del <;> simp
      subst hm b1 b2 b3 b4 a5
      have hsl : sl = #[k0, k1, k2, k3, some (.builtin "ValueError.__new__"), k5] := by
        obtain ⟨l⟩ := sl
        simp only at hs
        rw [hs]
      subst hsl
      exact ⟨nm, qn, ns, bs, bm, sn, sub, ab, col, dd, k0, k1, k2, k3, k5, ho, a6⟩
    · cases h0
  · cases h0
/-! ## an __init__ that begins with super().__init__(e) -/
structure SupS (N ps : List Str) (sc : Scope) : Prop where
  kind : sc.kind = .function
  co : sc.isCoroutine = false
  gen : sc.isGenerator = false
  nd : N.Nodup
  pre : N.take ps.length = ps
  par : ∀ x ∈ ps, sc.names.lookup x = some .local
  nocell : ∀ y ∈ sc.names, y.2 ≠ .cell
  free : ∀ y ∈ sc.names, y.2 = .free → y.1 = ("__class__" : Str)
  hks : sc.names.lookup ("super" : Str) = some .globalImplicit
  hkc : sc.names.lookup ("__class__" : Str) = some .free
def supCx (CX : CXT) (P : Program) (w : World) (K : Frag) (mg : Str → Option Value) (base : Heap) (N : List Str) (q : Str) (sc : Scope) (f : Addr) (cd : Value) (cc : Addr) (A : Around) (outer : List Env) (s : Shared) (H : Hp) (E : XK) : Cx :=
  { cxOf CX P w K mg base N q sc f cd A outer s H E with
    A := A.deeper (ksEnv q sc s.heap.objs.size f cd cc)
    env := ksEnv q sc s.heap.objs.size f cd cc
    stack := ksEnv q sc s.heap.objs.size f cd cc :: outer
    fn := fun _ => false
    xe := fun e s' => wpAny (model P w) (A.deeper (ksEnv q sc s.heap.objs.size f cd cc)) (leaving (ksEnv q sc s.heap.objs.size f cd cc) e) (fun _ s'' => CX outer H s E e s'') (fun e' s'' => CX outer H s E e' s'') s' }
theorem zip_rev_get {v : Value} {x : Str} : ∀ {ps : List Str} {us : List Value} {i : Nat}, ps.Nodup → ps[i]? = some x → us[i]? = some v → (ps.zip us).reverse.lookup x = some v := by
  intro ps us i nd h1 h2
  have hm : (x, v) ∈ (ps.zip us).reverse := List.mem_reverse.mpr (List.mem_of_getElem? (i := i) (by rw [List.getElem?_zip_eq_some]; exact ⟨h1, h2⟩))
  have key : ∀ l : List (Str × Value), (∀ y ∈ l, y.1 = x → y.2 = v) → (x, v) ∈ l → l.lookup x = some v := by
    intro l
    induction l with
    | nil => intro _ h; cases h
    | cons p r ih =>
      intro hu h
      obtain ⟨a, b⟩ := p
      by_cases e : x = a
      · subst e
        have := hu (x, b) List.mem_cons_self rfl
        simp only at this
        subst this
        simp [List.lookup]
      · have e' : (x == a) = false := by simpa using e
        rw [List.lookup, e']
        refine ih (fun y hy => hu y (List.mem_cons_of_mem _ hy)) ?_
        rcases List.mem_cons.mp h with h | h
        · exact absurd (congrArg Prod.fst h) e
        · exact h
  refine key _ (fun y hy e => ?_) hm
  obtain ⟨j, hj⟩ := List.mem_iff_getElem?.mp (List.mem_reverse.mp hy)
  rw [List.getElem?_zip_eq_some] at hj
  obtain ⟨j1, j2⟩ := hj
  rw [e] at j1
  have : j = i := by
    obtain ⟨p1, q1⟩ := List.getElem?_eq_some_iff.mp j1
    obtain ⟨p2, q2⟩ := List.getElem?_eq_some_iff.mp h1
    exact (List.getElem_inj nd).mp (q1.trans q2.symm)
  subst this
  rw [h2] at j2
  exact (Option.some.inj j2).symm
theorem supInv {CX : CXT} {P : Program} {w : World} {K : Frag} {mg : Str → Option Value} {base : Heap} {N ps : List Str} {q : Str} {sc : Scope} {f : Addr} {cd : Value} {cc : Addr} {A : Around} {outer : List Env} {s : Shared} {H : Hp} {E : XK} {us : List Value} {vs : List V}
    {h1 : Heap} {tk : Nat} {cl : Value} {cld : Option Addr} {csl : Array (Option Value)} {C : Addr} (S : SupS N ps sc) (hd : A.handled = none) (e0 : Env0 P w K mg base A outer s H) (hl : vs.length = ps.length) (r : Vals vs us)
    (hcell : K.lookup cc = some ⟨cl, cld, .cell (some (.ref C)), csl⟩)
    (hns : h1.Ns s.heap.objs.size (fun x => (ps.zip us).reverse.lookup x)) (hk : ∀ b o, s.heap.get? b = some o → h1.get? b = some o) :
    Inv (supCx CX P w K mg base N q sc f cd cc A outer s H E) [] (L2.start N vs) H { s with heap := h1, toks := tk } := by
  have hpl : ps.length ≤ N.length := by
    have := congrArg List.length S.pre
    rw [List.length_take] at this
    omega
  have bcc : base.get? cc = some ⟨cl, cld, .cell (some (.ref C)), csl⟩ := e0.mod.kin _ _ hcell
  have hcc := e0.bs _ _ bcc
  have cm : ∀ {y c}, ([((("__class__" : Str)), cc)] : List (Str × Addr)).lookup y = some c → y = ("__class__" : Str) ∧ c = cc := by
    intro y c e
    by_cases hy : y = ("__class__" : Str)
    · subst hy
      simp [List.lookup] at e
      exact ⟨rfl, e.symm⟩
    · have z : (y == ("__class__" : Str)) = false := by simpa using hy
      simp [List.lookup, z] at e
  have look : ([((("__class__" : Str)), cc)] : List (Str × Addr)).lookup ("__class__" : Str) = some cc := by simp [List.lookup]
  have noA : ∀ b : Addr, b ∉ (supCx CX P w K mg base N q sc f cd cc A outer s H E).ex := fun b z => absurd (show b ∈ ([] : List Addr) from z) (by simp)
  refine ⟨⟨e0.mod, S.kind, rfl, rfl, Nat.le_refl _, fun y z c k1 k2 => (cm k1).1.trans (cm k2).1.symm, fun y hy => ?_, fun y c z _ => ?_, fun _ => hd, Around.frames_deeper e0.frames, .inr ⟨rfl, rfl⟩, fun b z => absurd z (noA b), e0.bs, e0.bsz, fun b _ _ => noA b, fun b z => absurd z (noA b), e0.funs, e0.frf⟩,
    rfl, e0.bare, Un.kept hk, ⟨_, hns, fun i y v k1 k2 k3 => ?_⟩, fun y c k => ?_, e0.hok.fresh (Nat.le_refl _), fun y c k => ?_, fun p hp => absurd (show p ∈ ([] : List (Addr × Obj)) from hp) (by simp), e0.hok.kept hk, ?_⟩
  · have hy : sc.names.lookup y = some .cell ∨ sc.names.lookup y = some .free := hy
    rcases hy with hy | hy
    · exact absurd rfl (S.nocell _ (PySem.mem_of_lookup hy))
    · have := S.free _ (PySem.mem_of_lookup hy) rfl
      simp only at this
      subst this
      exact ⟨cc, look⟩
  · cases (show false = true from z)
  · have hi : i < vs.length := by
      unfold L2.start at k2
      by_cases hi : i < vs.length
      · exact hi
      · rw [List.getElem?_append_right (by simpa using hi), List.getElem?_replicate] at k2
        split at k2 <;> cases k2
    have ha : vs[i]? = some v := by
      unfold L2.start at k2
      rw [List.getElem?_append_left (by simpa using hi), List.getElem?_map] at k2
      cases e : vs[i]? with
      | none => rw [e] at k2; cases k2
      | some a => rw [e] at k2; cases k2; rfl
    obtain ⟨u, hu, rv⟩ := r.get ha
    have hp : ps[i]? = some y := by
      rw [← S.pre, List.getElem?_take_of_lt (by omega)]
      exact k1
    have ndP : ps.Nodup := by
      rw [← S.pre]
      exact S.nd.sublist (List.take_sublist _ _)
    exact ⟨u, rv, .inl ⟨S.par y (List.mem_of_getElem? hp), zip_rev_get ndP hp hu⟩⟩
  · obtain ⟨_, e2⟩ := cm k
    subst e2
    exact ⟨_, _, hk _ _ hcc.1, rfl⟩
  · obtain ⟨_, e2⟩ := cm k
    subst e2
    exact hcc.2
  · unfold L2.start
    show _ = N.length
    rw [List.length_append, List.length_map, List.length_replicate]
    omega
/-- the built-in __init__ bound to the object, called -/
theorem call_mw {prog : Program} {w : World} {A : Around} {E : Value → Shared → Prop} {h : Heap} {g : Array GenState} {d : Drawn} {t : Nat} {os : OsState} {K : Frag} {C : Addr} {u e t0 : Addr} {rest : List Value} {Q : Value → Shared → Prop}
    (X : K.In h) (T : OexC K C) (he : h.get? e = some (HandSPX.excO C t0)) (hu : h.get? u = some (kxs_mw "ValueError.__init__" e)) (hz : rest.length ≤ sizeLine)
    (hq : ∀ h' t1, (∀ b o, b ≠ e → h.get? b = some o → h'.get? b = some o) → h'.get? e = some (HandSPX.excO C t1) → Q .none ⟨h', g, d, t, os⟩) :
    wpAny (model prog w) A (call (.ref u) rest) Q E ⟨h, g, d, t, os⟩ := by
  obtain ⟨nm, q, N, bs, bm, sn, sub, ab, col, dd, k0, k1, k2, k3, k5, hC, hbm⟩ := T.cls
  have FB := F.excBase_ValueError
  refine wpAny_call (codeAny_of_tree ?_)
  show wpAny _ A.in1 (callAny (.ref u) ⟨rest, []⟩) _ _ _
  simp only [callAny]
  refine wpAny_bind (wpAny_load hu ?_)
  simp only [kxs_mw, show (Value.type "method-wrapper" == Value.type "method" || Value.type "method-wrapper" == Value.type "builtin_function_or_method" || Value.type "method-wrapper" == Value.type "method-wrapper") = true by decide, if_true]
  refine KFB.if_so (by decide) ?_
  refine wpAny_bind (check_bound_init FB.toExcCallFacts (X _ _ hC) he rfl ?_)
  refine wpAny_bind (wpAny_pure (wpAny_pure ?_))
  refine ⟨plainId_quiet FB.init.plain _, codeAny_builtin FB.initEntry ?_⟩
  refine exc_init_tree (cls := .ref C) (t0 := t0) (dv := none) (c2 := .none) (c3 := .none) (b4 := .bool false) he hz fun h' k e' _ => ?_
  exact hq h' h.objs.size k e'
structure SupF (P : Program) (K : Frag) (C cc cda : Addr) : Prop where
  exc : OexC K C
  cell : ∃ cl cld csl, K.lookup cc = some ⟨cl, cld, .cell (some (.ref C)), csl⟩
  code : ∃ ccl cdd vs ccs file tf, K.lookup cda = some ⟨ccl, cdd, .fields vs, ccs⟩ ∧ vs[2]? = some (.str file tf) ∧ ((P.main.file : Str) == file) = true
  sub : mroIn K C (.ref C) = some true
  sup : nsIn K mainGlobals "super" = some none
  opq : nsIn K cStatics "thirdparty.any" = some none
  nxt : ks_superIn K C C "__init__" = some (some (.builtin "ValueError.__init__"))
  ve : subIn K (.ref C) (.type "ValueError") = some true
  top : (P.main.scope.names.lookup ("super" : Str)).isSome = false
theorem fn_super {CX : CXT} {P : Program} {w : World} {K : Frag} {mg : Str → Option Value} {base : Heap} {k : Nat} {f C cc cda : Addr} {name q : Str} {params : Arguments} {sc : Scope} {doc pm ct oc : Value} {an od : Option Addr} {osl : Array (Option Value)}
    {N ps : List Str} {sp : Sp} {p0 p1 p2 p3 p4 : Pos} {e : Expr} {rest : List Stmt} {ar : Arg}
    (lk : K.lookup f = some ⟨oc, od, .func (fnX name q params (.Expr (.Call (.Attribute (.Call (.Name "super" p0) [] [] p1) "__init__" p2) [e] [] p3) p4 :: rest) sc [("__class__", cc)] .none .none doc pm an (.ref cda) ct), osl⟩)
    (hcd : codeIn K (.ref cda) q = true) (T : SupF P K C cc cda) (S : SupS N ps sc) (hp : (params.posonlyargs ++ params.args).head? = some ar) (hp0 : ps[0]? = some ar.arg)
    (len : ∀ vs H Q E, sp vs H Q E → vs.length = ps.length) {pl : Addr → Sem Bool}
    (hev : ∀ L : Addr, eval (.Call (.Attribute (.Call (.Name "super" p0) [] [] p1) "__init__" p2) [e] [] p3) (ksEnv q sc L f (.ref cda) cc) = (do
      let ov ← attributeBase (.Call (.Name "super" p0) [] [] p1) "__init__" (ksEnv q sc L f (.ref cda) cc) (eval (.Call (.Name "super" p0) [] [] p1) (ksEnv q sc L f (.ref cda) cc))
      standAt p2.atName
      let (g, first) ← holding [ov] (getMethod ov "__init__" (pl L))
      callWith p3 g first (backTo p3 (starEach [e] (ksEnv q sc L f (.ref cda) cc))) []))
    (hsw : ∀ L : Addr, swapsWith (.Call (.Attribute (.Call (.Name "super" p0) [] [] p1) "__init__" p2) [e] [] p3) none p4.line (ksEnv q sc L f (.ref cda) cc) = pure false)
    (hbody : ∀ (A : Around) (outer : List Env) (s : Shared) (H : Hp) (vs : List V) (Q : VK) (E : XK), Room k (A.deeper (ksEnv q sc s.heap.objs.size f (.ref cda) cc)) → sp vs H Q E →
      ∃ te tr a, PE (supCx CX P w K mg base N q sc f (.ref cda) cc A outer s H E) e te ∧ PSs (supCx CX P w K mg base N q sc f (.ref cda) cc A outer s H E) rest tr ∧
        starEach [e] (supCx CX P w K mg base N q sc f (.ref cda) cc A outer s H E).env = [(false, eval e (supCx CX P w K mg base N q sc f (.ref cda) cc A outer s H E).env)] ∧
        vs[0]? = some (.ref a) ∧ H a = some (exo a C none) ∧ te (L2.start N vs) H fun _ H1 => H1 a = some (exo a C none) ∧ tr { nx := fun _ H' => Q .non H', rt := Q } (L2.start N vs) H1) :
    FnOk P w K mg base CX (k + 1) f (fnX name q params (.Expr (.Call (.Attribute (.Call (.Name "super" p0) [] [] p1) "__init__" p2) [e] [] p3) p4 :: rest) sc [("__class__", cc)] .none .none doc pm an (.ref cda) ct) ps sp := by
  refine ⟨len, fun A outer s H args us vs Q E hr e0 hb r hsp => ?_⟩
  have hl := len _ _ _ _ hsp
  have KX : K.In s.heap := e0.mod.kin.keeps fun b o z => (e0.bs b o z).1
  have lim : s.heap.NoLimit := e0.mod.nolimit.keeps fun b o z => (e0.bs b o z).1
  obtain ⟨cl, cld, csl, hcell⟩ := T.cell
  obtain ⟨ccl, cdd, vs0, ccs, file, tf, hcode, hvs, hfile⟩ := T.code
  obtain ⟨te, tr, a, hpe, hps, hst, hv0, ha0, ht⟩ := hbody A outer s H vs Q E (hr.deeper _) hsp
  have ndP : ps.Nodup := by
    rw [← S.pre]
    exact S.nd.sublist (List.take_sublist _ _)
  refine ks_codeAny_call_defAt (fd := fnX name q params _ sc [("__class__", cc)] .none .none doc pm an (.ref cda) ct) (binds := ps.zip us) hr.depth (KX _ _ lk) rfl lim (codeRec_of KX hcd) rfl hb S.nocell (fun x hx => S.par x.1 (List.of_mem_zip hx).1) (fun h1 hns hk => ?_) S.co S.gen S.kind
  have I : Inv (supCx CX P w K mg base N q sc f (.ref cda) cc A outer s H E) [] (L2.start N vs) H { s with heap := h1, toks := s.toks + (ps.zip us).length } := supInv S hr.hd e0 hl r hcell hns hk
  have X1 : K.In h1 := I.kIn
  -- self
  obtain ⟨u0, hu0, ru0⟩ := r.get hv0
  obtain rfl : u0 = Value.ref a := ru0
  have hself : (ps.zip us).reverse.lookup ar.arg = some (.ref a) := zip_rev_get ndP hp0 hu0
  have hpar := S.par _ (List.mem_of_getElem? hp0)
  obtain ⟨t1, hob⟩ := exo_at I.hok ha0
  obtain ⟨nm, qn, Nn, bs, bm, sn, sub, ab, col, dd, k0, k1, k2, k3, k5, hC, hbm⟩ := T.exc.cls
  have hDK := X1 _ _ hC
  have hclc : clsIn K C = some { name := nm, bases := bs, mro := .ref C :: bm, ns := Nn, qualname := qn, hasDict := true, slotNames := sn, subclasses := sub, abstract := ab, collection := col, hasDel := false } := by
    unfold clsIn
    rw [hC]
  obtain ⟨mb, hmb, hbb⟩ := I.ok.mod.blt
  have IA : InstAt h1 a { cls := .ref C, dict := none, data := .fields #[.ref t1, .none, .none, .none, .bool false, .none] } C none := ⟨hob, rfl, rfl, trivial⟩
  refine ks_wpAt_execs_cons (ks_wpAt_Expr_any (ks_wpAt_MethodCall (pl := pl s.heap.objs.size) ?_ (hev s.heap.objs.size)) (by show (sc.kind == .module && _) = false; rw [S.kind]; rfl) (hsw s.heap.objs.size))
  refine ks_wpAt_super_base (f := f) (cc := cda) (ar := ar) (fd := fnX name q params (.Expr (.Call (.Attribute (.Call (.Name "super" p0) [] [] p1) "__init__" p2) [e] [] p3) p4 :: rest) sc [("__class__", cc)] .none .none doc pm an (.ref cda) ct) S.hks S.hkc (by decide) rfl (X1 _ _ lk) rfl hp rfl (X1 _ _ hcode) rfl hvs hfile T.top ?_
  refine ks_loadName_global S.kind S.hks (loadGlobal_builtin (I.ok.mod.glob.keeps I.bk) (mg_none_of I.ok.mod.kin I.ok.mod.glob T.sup) (hmb.keeps I.bk) ((hbb _ (by decide +kernel)).trans (show bootBuiltins "super" = some (.type "super") by first | rfl | kernel_rfl | decide +kernel)) ⟨rfl, ?_⟩)
  refine wpAny_loadName_free S.kind S.hkc (by show List.lookup ("__class__" : Str) [((("__class__" : Str)), cc)] = some cc; simp [List.lookup]) ⟨_, X1 _ _ hcell, rfl⟩ ?_
  refine wpAny_loadName_local S.kind hpar hns hself ?_
  refine ks_wpAny_isType_cls hDK rfl ⟨rfl, ?_⟩
  refine ks_wpAny_call_super hDK rfl hob rfl (fun c z => by cases z) (looks_mroIn X1 T.sub) fun h2 hso k12 => ?_
  have I2 : Inv (supCx CX P w K mg base N q sc f (.ref cda) cc A outer s H E) [] (L2.start N vs) H { s with heap := h2, toks := s.toks + (ps.zip us).length } := I.kept (t' := s.toks + (ps.zip us).length) k12
  have X2 : K.In h2 := I2.kIn
  have hIs : Looks (model P w) h2 (isInstance (.ref a) (.type "ValueError")) true := (IA.type.keeps k12).andThen (looks_subIn X2 T.ve)
  have hnx : alongIn K "__init__" (((.ref C :: bm : List Value).dropWhile (· != .ref C)).drop 1) = some (some (.builtin "ValueError.__init__")) := by
    have z := T.nxt
    unfold ks_superIn at z
    rw [hclc] at z
    exact z
  refine kxs_getMethod kxs_ValueError hso (looks_opaque X2 T.opq) (l₀ := .ref C :: bm) (fun A' Q' E' s' kk qq => wpAny_bind ((looks_clsIn X2 hclc) A' _ E' s' kk (wpAny_pure qq))) rfl X2 hnx hIs (ks_ne X1 IA hclc) (by decide) ?_
  have hmw : (h2.push (kxs_mw "ValueError.__init__" a)).get? h2.objs.size = some (kxs_mw "ValueError.__init__" a) := Heap.get?_push_at rfl rfl
  have I3 : Inv (supCx CX P w K mg base N q sc f (.ref cda) cc A outer s H E) [] (L2.start N vs) H { s with heap := h2.push (kxs_mw "ValueError.__init__" a), toks := s.toks + (ps.zip us).length + 1 } := I2.kept (t' := s.toks + (ps.zip us).length + 1) fun b o z => Heap.get?_push_of_some _ z
  have fu : H h2.objs.size = none := I2.hok.fresh (Nat.le_refl _)
  have I4 : Inv (supCx CX P w K mg base N q sc f (.ref cda) cc A outer s H E) [(h2.objs.size, kxs_mw "ValueError.__init__" a)] (L2.start N vs) H { s with heap := h2.push (kxs_mw "ValueError.__init__" a), toks := s.toks + (ps.zip us).length + 1 } := I3.pins_of fun p hp => by
    have z : p = (h2.objs.size, kxs_mw "ValueError.__init__" a) := by simpa using hp
    subst z
    exact ⟨hmw, fu, Nat.ne_of_gt I2.lt, I2.nofs (Nat.le_refl _), fun v z => by cases z⟩
  have hst1 : starEach [e] (callEnv (fnX name q params (.Expr (.Call (.Attribute (.Call (.Name "super" p0) [] [] p1) "__init__" p2) [e] [] p3) p4 :: rest) sc [("__class__", cc)] .none .none doc pm an (.ref cda) ct) s.heap.objs.size f) = [(false, eval e (ksEnv q sc s.heap.objs.size f (.ref cda) cc))] := hst
  refine kxs_callWith (i := "ValueError.__init__") (x := a) (by rw [hst1]; rfl) ?_
  rw [hst1]
  refine evalArgs_plain (Calls.spliced_cons (thn (hpe.run _ _ _ _ _ I4 ht) fun v s5 ⟨x, H5, I5, r5, ha5, q5⟩ => Calls.spliced_nil ?_))
  have hu5 := (I5.pin (h2.objs.size, kxs_mw "ValueError.__init__" a) (List.mem_append_right _ List.mem_cons_self)).1
  refine ⟨hu5, ?_⟩
  obtain ⟨t5, hob5⟩ := exo_at I5.hok ha5
  obtain ⟨hp5, g5, d5, tk5, os5⟩ := s5
  refine call_mw I5.kIn T.exc hob5 hu5 (by rw [sizeLine_eq]; show 1 ≤ 16777216; decide) fun h6 t6 k6 ho6 => ?_
  have I5' : Inv (supCx CX P w K mg base N q sc f (.ref cda) cc A outer s H E) [] (L2.start N vs) H5 ⟨hp5, g5, d5, tk5, os5⟩ := I5.pins_of fun p hp => absurd hp (by simp)
  have J := I5'.write (t' := tk5) (x := a) (e := a) (o := exo a C none) (by rw [ha5]; exact True.intro) (.inl rfl) k6 ⟨_, ho6⟩ (exo_ok ho6)
  have eu : upd H5 a (exo a C none) = H5 := by
    funext b
    by_cases hb' : b = a
    · rw [hb', upd_same, ha5]
    · rw [upd_ne hb']
  rw [eu] at J
  refine wpAt_of_wpAny (wpAny_mono (hps.run [] _ _ _ _ J q5) (fun fl s' hs => ?_) fun e s' hs => hs)
  have fin : ∀ {σ' : L2.St} {H' : Hp} {v : V} {u : Value}, Inv (supCx CX P w K mg base N q sc f (.ref cda) cc A outer s H E) [] σ' H' s' → RelV v u → Q v H' → CE outer P w H s Q u s' :=
    fun {σ' H' v u} J rv q => ⟨v, H', J.os, J.bare, J.base, J.hok, rv, q⟩
  cases fl with
  | ret u =>
    obtain ⟨v, σ', H', J, rv, q⟩ := hs
    exact fin J rv q
  | next =>
    obtain ⟨σ', H', J, q⟩ := hs
    exact fin (v := V.non) (u := Value.none) J rfl q
  | brk =>
    obtain ⟨_, _, _, q⟩ := hs
    exact False.elim q
  | cont =>
    obtain ⟨_, _, _, q⟩ := hs
    exact False.elim q
end Xn

set_option Elab.async false
set_option linter.all false
set_option maxRecDepth 100000
set_option maxHeartbeats 2000000
namespace Hx
open PySem PySem.Spec PyProof.Rows L2 L2H HotX
abbrev Pin := Addr × Obj
/-! ## a comprehension's block where an exception is handled: the block keeps the pins -/
abbrev blkP (X : Cx) (s : Shared) (H : Hp) (scope : Scope) (cenv : Env) (fp : List Addr) : Cx := { X.blk s H scope cenv fp with pn := X.pn }
theorem blk_pins {X : Cx} {s0 : Shared} {H0 : Hp} {scope : Scope} {ce : Env} {fp : List Addr} {ps : List Pin} {σ : L2.St} {H : Hp} {s : Shared} (I : Inv (X.blk s0 H0 scope ce fp) ps σ H s)
    (hp : ∀ p ∈ X.pn, s.heap.get? p.1 = some p.2 ∧ H p.1 = none ∧ p.1 ≠ ce.locals ∧ p.1 ∉ frs X.stack ∧ ∀ v, p.2.data ≠ .cell v) : Inv (blkP X s0 H0 scope ce fp) ps σ H s :=
  ⟨⟨I.ok.mod, I.ok.kind, I.ok.glob, I.ok.blt, I.ok.above, I.ok.inj, I.ok.has, I.ok.cab, I.ok.hd, I.ok.frames, I.ok.stk, I.ok.exf, I.ok.bs, I.ok.bsz, I.ok.noex, I.ok.exfs, I.ok.funs, I.ok.frf⟩,
    I.os, I.bare, I.base, I.loc, I.cell, I.free, I.freeC, fun p hm => (List.mem_append.mp hm).elim (hp p) fun z => I.pin p (List.mem_append_right _ z), I.hok, I.len⟩
section
variable {X : Cx}
/-- the walk of a list comprehension under a handled exception -/
theorem lc_hot {pins : List Pin} {s : Shared} {σ : L2.St} {H : Hp} {Q : VK} {elt tg iter : Expr} {ifs : List Expr} {scope : Scope} {own : List (Str × Nat)} {pos pos' : Pos} {wi : TI} {g : TG} {tt : TT} {te : TE} {use : Option (Value → Sem Unit)} {Qf : Value → Shared → Prop}
    (hot : HotC X) (hN : X.N.Nodup) (I : Inv X pins σ H s) (hi : PIH X tg iter wi) (ok : BlkOk X.N X.env.scope scope own)
    (hg : ∀ (s : Shared) (H : Hp) (C : Addr) (cl : List (Str × Addr)) (fp : List Addr), PG (blkP X s H scope (compEnvC scope cl C X.env) fp) tg g)
    (ht : ∀ (s : Shared) (H : Hp) (C : Addr) (cl : List (Str × Addr)) (fp : List Addr), PTs (blkP X s H scope (compEnvC scope cl C X.env) fp) ifs tt)
    (he : ∀ (s : Shared) (H : Hp) (C : Addr) (cl : List (Str × Addr)) (fp : List Addr), PE (blkP X s H scope (compEnvC scope cl C X.env) fp) elt te)
    (hs : ∀ x, foldedSetIterable iter X.env x = pure x) (h : tLc wi g tt te (own.map (·.2)) σ H Q)
    (hRR : ∀ D C s' m H', Inv X pins σ H' s' → Q (.ref D) H' → s'.heap.Ns C m → FpOk X pins H' C → compPost (model X.prog X.w) X.A X.xe use Qf (.ref D) C (.ok .next) s') :
    wpAny (model X.prog X.w) X.A (comprehension (.ListComp elt [⟨tg, iter, ifs, 0⟩] scope pos) scope X.env pos' (newList []) false (eval iter X.env) use) Qf X.xe s := by
  have free : ∀ y ∈ scope.names, y.2 = .free → ∃ c, X.env.cells.lookup y.1 = some c := by
    intro y hy e
    rcases ok.free y hy e with k | k
    · exact I.ok.has _ (Or.inl k)
    · exact I.ok.has _ (Or.inr k)
  refine wpAny_comprehension_free (use := use) rfl hs (closure_ok free) ok.kind (fun y hy e => by rw [ok.uniq y hy, e]) ?_
  refine thn (hi.run pins s σ H _ I h) fun xv s1 hx => thn hx fun itv s2 h2 => ?_
  obtain ⟨it, fp, tn, J, H2, rfl, I2, T, st2, f2, q⟩ := h2
  refine wpAny_newObj_type (newEnv_comp ?_) (Nat.zero_le _)
  -- the new list stands at D, the state is s3
  obtain ⟨D, hD⟩ : ∃ D, D = s2.heap.objs.size := ⟨_, rfl⟩
  rw [← hD]
  have hDn : H2 D = none := I2.hok.fresh (Nat.le_of_eq hD.symm)
  obtain ⟨W, ⟨m0, w0⟩, turn⟩ := q D hDn
  obtain ⟨s3, hs3⟩ : ∃ s3 : Shared, s3 = { s2 with heap := s2.heap.push { cls := .type "list", data := .seq ([] : List Value).toArray } } := ⟨_, rfl⟩
  have h3 : s3.heap = s2.heap.push { cls := .type "list", data := .seq ([] : List Value).toArray } := by rw [hs3]
  have I3 : Inv X pins σ (upd H2 D (.lst [])) s3 := by
    rw [hs3]
    refine I2.laid (t' := s2.toks) (fun b o e => Heap.get?_push_of_some _ e) (Nat.le_of_eq hD.symm) ⟨Nat.zero_le _, [], 0, .nil, ?_⟩
    rw [hD]
    exact Heap.get?_push_size _ rfl
  have sz : ∀ b ∈ fp, b < s2.heap.objs.size := fun b hb => by
    obtain ⟨o, e, _⟩ := T.obj _ _ st2 b hb
    exact Heap.lt_size e
  have f3 : ∀ b ∈ fp, FpOk X pins (upd H2 D (.lst [])) b ∧ b < s3.heap.objs.size := fun b hb => by
    have lt := sz b hb
    have nD : b ≠ D := by
      rw [hD]
      exact Nat.ne_of_lt lt
    exact ⟨⟨(upd_ne nD).trans (f2 b hb).1, (f2 b hb).2⟩, by rw [h3, Heap.size_push]; exact Nat.lt_succ_of_lt lt⟩
  have st3 : tn 0 s3.heap := T.keep _ _ _ st2 fun b _ o e => by
    rw [h3]
    exact Heap.get?_push_of_some _ e
  -- the block
  have pin3 : ∀ p ∈ X.pn, s3.heap.get? p.1 = some p.2 ∧ upd H2 D (.lst []) p.1 = none ∧ p.1 ∉ frs X.stack ∧ ∀ v, p.2.data ≠ .cell v := fun p hp => by
    have z := I3.pin p (List.mem_append_left _ hp)
    exact ⟨z.1, z.2.1, fun hm => (List.mem_cons.mp (I3.stkSub p.1 hm)).elim z.2.2.1 z.2.2.2.1, z.2.2.2.2⟩
  have I4b := block_start I3 ok hN f3
  have kp : ∀ b o, s3.heap.get? b = some o → (pushCells (s3.heap.push { cls := .type "dict", data := .dict #[] }) scope.names).get? b = some o := fun b o e => pushCells_keeps _ _ _ _ (Heap.get?_push_of_some _ e)
  have I4 := blk_pins I4b fun p hp => by
    have z := pin3 p hp
    exact ⟨kp _ _ z.1, z.2.1, Nat.ne_of_lt (Heap.lt_size z.1), z.2.2.1, z.2.2.2⟩
  have gT := hg s3 (upd H2 D (.lst [])) s3.heap.objs.size (cellsFrom (s3.heap.objs.size + 1) scope.names (cloFrom X.env.cells scope.names [])) fp
  have tT := ht s3 (upd H2 D (.lst [])) s3.heap.objs.size (cellsFrom (s3.heap.objs.size + 1) scope.names (cloFrom X.env.cells scope.names [])) fp
  have eT := he s3 (upd H2 D (.lst [])) s3.heap.objs.size (cellsFrom (s3.heap.objs.size + 1) scope.names (cloFrom X.env.cells scope.names [])) fp
  rw [← hs3]
  have nfp : ∀ b ∈ fp, (upd H2 D (.lst [])) b = none := fun b hb => (f3 b hb).1.1
  obtain ⟨ce, hce⟩ : ∃ ce, ce = compEnvC scope (cellsFrom (s3.heap.objs.size + 1) scope.names (cloFrom X.env.cells scope.names [])) s3.heap.objs.size X.env := ⟨_, rfl⟩
  obtain ⟨H3, hH3⟩ : ∃ H3, H3 = upd H2 D (.lst []) := ⟨_, rfl⟩
  obtain ⟨s4, hs4⟩ : ∃ s4 : Shared, s4 = { s3 with heap := pushCells (s3.heap.push { cls := .type "dict", data := .dict #[] }) scope.names } := ⟨_, rfl⟩
  show codeAny _ _ (.compStart (.ListComp elt [⟨tg, iter, ifs, 0⟩] scope pos) 0 (.ref it) (.ref D) (compEnvC scope (cellsFrom (s3.heap.objs.size + 1) scope.names (cloFrom X.env.cells scope.names [])) s3.heap.objs.size X.env))
    (compPost (model X.prog X.w) X.A X.xe use Qf (.ref D) s3.heap.objs.size) { s3 with heap := pushCells (s3.heap.push { cls := .type "dict", data := .dict #[] }) scope.names }
  have cL : ce.locals = s3.heap.objs.size := by rw [hce]; rfl
  rw [← hH3] at I3 I4 gT tT eT w0 nfp f3
  rw [← hce] at I4 gT tT eT ⊢
  rw [← hs4] at I4 ⊢
  have st4 : tn 0 s4.heap := T.keep _ _ _ st3 fun b _ o e => by
    rw [hs4]
    exact kp _ _ e
  have hotB : HotC (blkP X s3 H3 scope ce fp) := hot
  have stat : ∀ {σ' : L2.St} {H' : Hp} {s' : Shared}, Inv (blkP X s3 H3 scope ce fp) [] σ' H' s' → (∀ b ∈ fp, H' b = none) → ∀ b ∈ fp, FpOk (blkP X s3 H3 scope ce fp) [] H' b := by
    intro σ' H' s' I' hn b hb
    refine ⟨hn b hb, (I'.ok.exf b hb).1, I'.ok.exfs b hb, Or.inl hb, fun x c e => (I'.ok.exf b hb).2 x c e, fun p hp => ?_⟩
    rw [List.append_nil] at hp
    exact (f3 b hb).1.2.2.2.2.2 p (List.mem_append_left _ hp)
  have loop : codeAny (model X.prog X.w) X.A (.compLoop (.ListComp elt [⟨tg, iter, ifs, 0⟩] scope pos) 0 (.ref it) (.ref D) ce) (compPost (model X.prog X.w) X.A X.xe use Qf (.ref D) s3.heap.objs.size) s4 := by
    refine compLoop_any (fun n z => ∃ i G, Inv (blkP X s3 H3 scope ce fp) [] (wipe σ (own.map (·.2))) G z ∧ tn i z.heap ∧ (∀ b ∈ fp, G b = none) ∧ W i n G) ?_ m0 ⟨0, H3, I4, st4, nfp, w0⟩
    rintro n s5 ⟨i, H5, I5, st5, n5, w5⟩
    rcases turn i n H5 w5 with ⟨stop, qq⟩ | ⟨go, Nx, hNx, step⟩
    · have td := T.done (blkP X s3 H3 scope ce fp) rfl rfl rfl hotB i [] s5 _ H5 (fun _ _ => False) I5 (stat I5 n5) st5 stop
      refine thnF td fun r s6 ⟨hr, I6⟩ => ?_
      subst hr
      have I7 : Inv X pins σ H5 s6 := I3.call' (ch := fp) I6.os I6.base I6.hok I6.bare fun b hb => ⟨(f3 b hb).1.2.2.2.1, (f3 b hb).1.2.1, (f3 b hb).1.2.2.2.2.1, (f3 b hb).1.2.2.2.2.2⟩
      have nC : H5 s3.heap.objs.size = none := by
        rw [← cL]
        exact I6.free
      obtain ⟨m, hn, _⟩ := I6.loc
      rw [show (blkP X s3 H3 scope ce fp).env.locals = s3.heap.objs.size from cL] at hn
      exact hRR D s3.heap.objs.size s6 m H5 I7 qq hn (I3.fpOk (Nat.le_refl _) nC)
    · have ti := T.item (blkP X s3 H3 scope ce fp) rfl rfl rfl hotB i [] s5 _ H5 (fun _ _ => False) I5 (stat I5 n5) st5 go
      refine thnF ti fun r s6 ⟨u, hr, h6⟩ => ?_
      subst hr
      refine thnF h6 fun _ s7 ⟨x, H7, I7, r7, y7, st7, n7⟩ => ?_
      have I7' := I7.pinned (stat I7 n7) (T.obj _ _ st7)
      refine thnF (gT.run _ s7 _ H7 x u _ I7' r7 (step x H7 y7)) fun _ s8 ⟨σ8, H8, I8, hw8, q8⟩ => ?_
      refine thnF (tT.run _ s8 σ8 H8 _ I8 q8) fun b s9 ⟨H9, I9, q9⟩ => ?_
      have fin : ∀ {z : Shared} {G : Hp}, Inv (blkP X s3 H3 scope ce fp) ([] ++ pinsAt fp s7.heap) σ8 G z → Nx G → ∃ m, m < n ∧ ∃ i G, Inv (blkP X s3 H3 scope ce fp) [] (wipe σ (own.map (·.2))) G z ∧ tn i z.heap ∧ (∀ b ∈ fp, G b = none) ∧ W i m G := by
        intro z G I' nx
        obtain ⟨m', hm, w'⟩ := hNx G nx
        have pin' : ∀ b ∈ fp, ∀ o, s7.heap.get? b = some o → z.heap.get? b = some o ∧ G b = none := fun b hb o e => by
          have y := I'.pin (b, o) (List.mem_append_right _ (List.mem_append_right _ (mem_pinsAt hb e)))
          exact ⟨y.1, y.2.1⟩
        have hl : (wipe σ (own.map (·.2))).length = σ8.length := by rw [← hw8, wipe_length]
        refine ⟨m', hm, i + 1, G, (I'.unpinned (pins := [])).weak hl (fun j v e => ?_), T.keep _ _ _ st7 fun b hb o e => (pin' b hb o e).1, fun b hb => ?_, w'⟩
        · rw [← hw8] at e
          exact (wipe_some e).1
        · obtain ⟨o, e, _⟩ := T.obj _ _ st7 b hb
          exact (pin' b hb o e).2
      cases b with
      | false =>
        have q9 : Nx H9 := by simpa using q9
        simp only [Bool.false_eq_true, if_false]
        exact fin I9 q9
      | true =>
        simp only [if_true] at q9 ⊢
        refine thnF (eT.run _ s9 σ8 H9 _ I9 q9) fun z s10 ⟨yv, H10, I10, r10, acc, hD10, hz10, nx⟩ => ?_
        exact app_ok (X := blkP X s3 H3 scope ce fp) I10 hD10 hz10 r10 fun s11 I11 => fin I11 nx
  exact codeAny_compStart_list loop (T.self X.A 0 _ _ _ st4 loop)
/-- y = [e for ..], under a handled exception -/
theorem ps_setLcP {i : Nat} {y : Str} {py : Pos} {elt tg iter : Expr} {ifs : List Expr} {scope : Scope} {own : List (Str × Nat)} {pos spos : Pos} {wi : TI} {g : TG} {tt : TT} {te : TE} (hot : HotC X) (hN : X.N.Nodup) (hy : X.N[i]? = some y) (hyl : X.env.scope.names.lookup y = some .local)
    (hsw : swapsWith (.ListComp elt [⟨tg, iter, ifs, 0⟩] scope pos) (some (.Name y py)) spos.line X.env = pure true) (hi : PIH X tg iter wi) (ok : BlkOk X.N X.env.scope scope own)
    (hg : ∀ (s : Shared) (H : Hp) (C : Addr) (cl : List (Str × Addr)) (fp : List Addr), PG (blkP X s H scope (compEnvC scope cl C X.env) fp) tg g)
    (ht : ∀ (s : Shared) (H : Hp) (C : Addr) (cl : List (Str × Addr)) (fp : List Addr), PTs (blkP X s H scope (compEnvC scope cl C X.env) fp) ifs tt)
    (he : ∀ (s : Shared) (H : Hp) (C : Addr) (cl : List (Str × Addr)) (fp : List Addr), PE (blkP X s H scope (compEnvC scope cl C X.env) fp) elt te)
    (hs : ∀ x, foldedSetIterable iter X.env x = pure x := by intro _; rfl) :
    PS X (.Assign [.Name y py] (.ListComp elt [⟨tg, iter, ifs, 0⟩] scope pos) spos) (tAsg (tLc wi g tt te (own.map (·.2))) (gName i)) := by
  refine ⟨fun pins s σ H D I h => ?_⟩
  rw [exec_Assign_Name_used _ _ _ _ hsw]
  refine wpAny_bind (wpAny_standAt (wpAny_bind ?_))
  have h' : tLc wi g tt te (own.map (·.2)) σ H (fun x H1 => gName i x σ H1 D.nx) := h
  refine wpAny_bind (thn (Q := fun _ s' => SP X pins D .next s') (lc_hot (use := some (assign (.Name y py) X.env)) (pos' := firstIterPos [⟨tg, iter, ifs, 0⟩] pos) hot hN I hi ok hg ht he hs h' fun L C s' m H' I' q hn f => ?_) fun _ s' hq => wpAny_pure (wpAny_pure hq))
  show wpAny _ _ (assign (.Name y py) X.env (.ref L)) _ _ _
  refine wpAny_assign_Name (store_ok2 (v := V.ref L) I' hN hy (Or.inl hyl) rfl (fun s2 I2 ⟨a, sb, ha⟩ => ?_) (Or.inr hyl))
  obtain ⟨f0, f1, f2, f3, f4, f5⟩ := f
  have aC : C ≠ a := by
    rcases ha with z | z
    · rw [z]
      exact f1
    · exact fun e => f4 y a z e.symm
  exact ⟨m, hn.sameBut sb aC, fun h3 sb3 => ⟨_, H', I2.turned (t' := s2.toks) (fun b o hb e => (sb3.2 b hb).trans e) f0 f1 f3 f4 f5, q⟩⟩
end
end Hx

set_option Elab.async false
set_option linter.all false
set_option maxRecDepth 100000
set_option maxHeartbeats 2000000
namespace Lg
open PySem PySem.Spec PyProof.Rows L2 LamX
/-! ## lambdas handed to a def, whatever is told of exceptions (CX) -/
def lamC (CX : CXT) (X : Cx) (A : Around) (outer : List Env) (s : Shared) (H : Hp) (E : XK) (sc : Scope) (f c : Addr) : Cx :=
  { lamCx X A outer s H E sc f c with
    xe := fun e s' => wpAny (model X.prog X.w) (A.deeper (lamEnv X sc s.heap.objs.size f c)) (leaving (lamEnv X sc s.heap.objs.size f c) e) (fun _ s'' => CX outer H s E e s'') (fun e' s'' => CX outer H s E e' s'') s' }
section
variable {CX : CXT} {X : Cx} {pins : List (Addr × Obj)} {σ : L2.St} {H HZ : Hp} {s s1 : Shared}
theorem lam_startC {A : Around} {outer : List Env} {E : XK} {sc : Scope} {f c : Addr} {h1 : Heap} {tk : Nat} (I : Inv X pins σ H s) (L : LamS X.env.scope sc) (e0 : Env0 X.prog X.w X.K X.mg X.base A outer s1 HZ) (hd : A.handled = none)
    (un : Un (frs X.stack) [] H HZ s.heap s1.heap) (hns : h1.Ns s1.heap.objs.size fun y => ([] : List (Str × Value)).reverse.lookup y) (kp : ∀ b o, s1.heap.get? b = some o → h1.get? b = some o) :
    Inv (lamC CX X A outer s1 HZ E sc f c) [] σ HZ { s1 with heap := h1, toks := tk } := by
  have I0 := lam_start2 (E := E) (f := f) (c' := c) (tk := tk) I L e0 hd un hns kp
  exact ⟨⟨I0.ok.mod, I0.ok.kind, I0.ok.glob, I0.ok.blt, I0.ok.above, I0.ok.inj, I0.ok.has, I0.ok.cab, I0.ok.hd, I0.ok.frames, I0.ok.stk, I0.ok.exf, I0.ok.bs, I0.ok.bsz, I0.ok.noex, I0.ok.exfs, I0.ok.funs, I0.ok.frf⟩,
    I0.os, I0.bare, I0.base, I0.loc, I0.cell, I0.free, I0.freeC, I0.pin, I0.hok, I0.len⟩
/-- a(), in the def that got the lambda; Z is that def's context -/
theorem pe_actC {Z : Cx} {f c : Addr} {pm ctv : Value} {params : Arguments} {body : Expr} {sc : Scope} {k i : Nat} {a : Str} {E : L2.St → XK} {tb : XK → TE} {p1 p2 : Pos}
    (I : Inv X pins σ H s) (L : LamS X.env.scope sc) (hf : s.heap.get? f = some (PySem.W.kla_obj "<lambda>" (X.env.qual ++ "<lambda>") params body sc (cloFrom X.env.cells sc.names []) pm c ctv)) (hfn : H f = none) (hfr : f ∉ frs X.stack)
    (hbind : bindArgs (PySem.W.kla_fn "<lambda>" (X.env.qual ++ "<lambda>") params body sc (cloFrom X.env.cells sc.names []) pm (.ref c) ctv) ⟨[], []⟩ = pure [])
    (z1 : Z.prog = X.prog) (z2 : Z.w = X.w) (z3 : Z.K = X.K) (z4 : Z.mg = X.mg) (z5 : Z.base = X.base) (z6 : Z.s_0 = s) (z7 : Z.H_0 = H) (z8 : Z.ex = []) (z9 : frs Z.outer = frs X.stack)
    (hx : ∀ σ, PassesAt CX Z σ (E σ)) (hr : Room (k + 1) Z.A)
    (hbody : ∀ (A : Around) (outer : List Env) (s : Shared) (H : Hp) (E : XK), Room k (A.deeper (lamEnv X sc s.heap.objs.size f c)) → PE (lamC CX X A outer s H E sc f c) body (tb E))
    (hN : Z.N[i]? = some a) (hv : Vis Z.env.scope a) (hd : (a == ("__debug__" : Str)) = false := by decide) (hcd : (a == ("__classdict__" : Str)) = false := by decide) :
    PE Z (.Call (.Name a p1) [] [] p2) (fun σZ HZ Q => σZ[i]? = some (some (.ref f)) ∧ HZ c = some (CodeO c (X.env.qual ++ "<lambda>")) ∧ tb (E σZ) σ HZ Q) := by
  refine ⟨fun pinsZ sZ σZ HZ Q IZ h => ?_⟩
  obtain ⟨hs, hc, ht⟩ := h
  refine wpAny_Call_Name_kw (thn ((pe_var (pos := p1) (i := i) hN hv hd hcd).run pinsZ sZ σZ HZ (fun v H1 => v = .ref f ∧ H1 = HZ) IZ ⟨.ref f, hs, rfl, rfl⟩) fun u s1 ⟨v, H1, I1, r1, q1⟩ => ?_)
  obtain ⟨rfl, rfl⟩ := q1
  obtain rfl : u = Value.ref f := r1
  have U : Un (frs X.stack) [] H H1 s.heap s1.heap := by
    have b := I1.base
    unfold Cx.fs at b
    rw [z6, z7, z8, z9] at b
    exact b
  have of1 : s1.heap.get? f = some (PySem.W.kla_obj "<lambda>" (X.env.qual ++ "<lambda>") params body sc (cloFrom X.env.cells sc.names []) pm c ctv) := U.keep f _ hf hfn hfr (by simp)
  refine PySem.W.callWith_F0 ⟨_, _, _, _, of1⟩ ?_
  obtain ⟨⟨oc, vs, t, hoc, hdc, hvc⟩, _, _⟩ := I1.hok c _ hc
  have e0 : Env0 X.prog X.w X.K X.mg X.base Z.A Z.stack s1 H1 := by
    have e := I1.env0
    rw [z1, z2, z3, z4, z5] at e
    exact e
  have rc : codeAny (model X.prog X.w) Z.A (.call (.ref f) ⟨[], []⟩) (CR CX Z.stack X.prog X.w H1 s1 Q (E σZ)) s1 := by
    refine PySem.W.kla_callFunE hr.depth of1 rfl L.co L.gen rfl ⟨c, oc, vs, t, rfl, hoc, hdc, hvc⟩ ?_
    rw [hbind]
    refine wpAny_pure (wpAny_newFunctionEnv (fun y hy => (L.own y hy).2) (fun y hy => absurd hy (by simp)) (fun h1 hns hsb => ⟨I1.nolimit.fresh _ hsb, ?_⟩) L.kind)
    show codeAny _ _ (.expr body (lamEnv X sc s1.heap.objs.size f c)) _ _
    have kp : ∀ b o, s1.heap.get? b = some o → h1.get? b = some o := fun b o e => hsb.extBut b o (Nat.ne_of_lt (Heap.lt_size e)) (Heap.get?_push_of_some _ e)
    have J : Inv (lamC CX X Z.A Z.stack s1 H1 (E σZ) sc f c) [] σ H1 { s1 with heap := h1, toks := s1.toks + ([] : List (Str × Value)).length } := lam_startC I L e0 hr.hd U hns kp
    refine PySem.W.kla_codeExpr (wpAny_mono ((hbody _ _ s1 H1 (E σZ) (hr.deeper _)).run [] _ _ H1 Q J ht) (fun v s' hq => ?_) fun e s' hq => hq)
    obtain ⟨w', H', J', rv, q⟩ := hq
    exact ⟨w', H', J'.os, J'.bare, J'.base, J'.hok, rv, q⟩
  rw [← z1, ← z2] at rc
  refine wpAny_call (codeAny_mono rc fun r s' hq => ?_)
  cases r with
  | error e => exact hx σZ pinsZ H1 s1 e s' I1 hq
  | ok fl =>
    cases fl with
    | ret u => exact I1.after hq
    | next => exact False.elim hq
    | brk => exact False.elim hq
    | cont => exact False.elim hq
end
/-- the def that calls what it got; TT: what it makes of the lambda's reading -/
def GivesC (CX CXg : CXT) (X : Cx) (Ng : List Str) (x : Str) (sg : Scope) (g : Addr) (cdg : Value) (bg : List Stmt) (a : Str) (q : Str) (k : Nat) (TT : (XK → Hp → VK → Prop) → Hp → VK → Prop) : Prop :=
  ∀ (f c : Addr) (s : Shared) (H : Hp) (Q : VK) (tl : XK → Hp → VK → Prop), Room (k + 1) (X.A.deeper (envOfC x sg s.heap.objs.size g cdg)) →
    (∀ (pn : List (Addr × Obj)) (xe : Value → Shared → Prop) (E : L2.St → XK) (p1 p2 : Pos), (∀ σ, PassesAt CX ((cxOf CXg X.prog X.w X.K X.mg X.base Ng x sg g cdg X.A X.stack s H E0).tr pn xe) σ (E σ)) →
      PE ((cxOf CXg X.prog X.w X.K X.mg X.base Ng x sg g cdg X.A X.stack s H E0).tr pn xe) (.Call (.Name a p1) [] [] p2) (fun σZ HZ Q => σZ[0]? = some (some (.ref f)) ∧ HZ c = some (CodeO c q) ∧ tl (E σZ) HZ Q)) →
    H c = some (CodeO c q) → TT tl H Q →
    ∃ t, PSs (cxOf CXg X.prog X.w X.K X.mg X.base Ng x sg g cdg X.A X.stack s H E0) bg t ∧ t { nx := fun _ H' => Q .non H', rt := Q } (L2.start Ng [.ref f]) H
section
variable {X : Cx}
/-- x(lambda: body) -/
theorem pe_lamcallC {CX CXg : CXT} (nog : ∀ outer H s e s', CXg outer H s E0 e s' → False) {T : List (Addr × Str)} {TT : (XK → Hp → VK → Prop) → Hp → VK → Prop} {x a : Str} {g c P : Addr} {k : Nat} {pg : Arguments} {bg : List Stmt} {sg : Scope} {dV kV doc pm cdv ct oc : Value} {an od : Option Addr} {osl : Array (Option Value)} {Ng : List Str}
    {params : Arguments} {body : Expr} {sc : Scope} {t : XK → TE} {p lpos pos : Pos} (hg : Gl X x) (hm : X.mg x = some (.ref g)) (hk : PySem.W.keepIn X.K (.ref g) = true)
    (lk : X.K.lookup g = some ⟨oc, od, .func (PySem.W.fnOf x x pg bg sg dV kV doc pm an cdv ct), osl⟩) (hcg : PySem.W.codeIn X.K cdv x = true) (hb : L2.Binds X.K (PySem.W.fnOf x x pg bg sg dV kV doc pm an cdv ct) [a] []) (Sg : FnScope Ng [a] sg) (hNg : Ng[0]? = some a) (hva : Vis sg a)
    (hG : GivesC CX CXg X Ng x sg g cdv bg a (X.env.qual ++ "<lambda>") k TT)
    (TB : TabB X.base X.mg c P) (hcode : X.env.code = .ref c) (hmT : (P, X.env.qual ++ "<lambda>") ∈ T) (hu : ∀ p ∈ T, p.1 = P → p.2 = X.env.qual ++ "<lambda>") (hr : Room (k + 2) X.A) (L : LamS X.env.scope sc) (hdef : defaultsOf params X.env = ([], []))
    (hbind : ∀ (q : Str) (cl : List (Str × Addr)) (pm cv ctv : Value), bindArgs (PySem.W.kla_fn "<lambda>" q params body sc cl pm cv ctv) ⟨[], []⟩ = pure [])
    (hbody : ∀ (A : Around) (outer : List Env) (s : Shared) (H : Hp) (E : XK) (f c' : Addr), Room k (A.deeper (lamEnv X sc s.heap.objs.size f c')) → PE (lamC CX X A outer s H E sc f c') body (t E))
    (hdb : (x == ("__debug__" : Str)) = false := by decide) (hd : (a == ("__debug__" : Str)) = false := by decide) (hcd : (a == ("__classdict__" : Str)) = false := by decide) :
    PE X (.Call (.Name x p) [.Lambda params body sc lpos] [] pos) (tLam T TT t) := by
  refine ⟨fun pins s σ H Q I h => ?_⟩
  obtain ⟨hT, h⟩ := h
  refine wpAny_Call_Name_kw (ld_glob I hg hm ?_ hdb)
  refine PySem.W.callWith_K (h₀ := X.base) I.ok.mod.kin hk ?_ (by rfl) (by rfl)
  show wpAny _ _ (spliced ((false, eval (.Lambda params body sc lpos) X.env) :: backTo pos (starEach [] X.env))) _ _ s
  refine Calls.spliced_cons (lam_make2 I TB hcode hmT hu hT hdef (L.has I.ok) fun f c' pm' ctv H1 s' I1 eN T1 hf hfn hfr hco => ?_)
  refine Calls.spliced_nil ⟨I1.kIn, ?_⟩
  have rc : codeAny (model X.prog X.w) X.A (.call (.ref g) ⟨[.ref f], []⟩) (CR CXg X.stack X.prog X.w H1 s' Q E0) s' := by
    refine run_ofS (N := Ng) (ps := [a]) (us := [.ref f]) (vs := [.ref f]) lk hcg Sg hr I1.env0 (hb s' [.ref f] I1.kIn rfl) (.cons rfl .nil) rfl fun hr' => ?_
    exact hG f c' s' H1 Q (fun E H' Q' => t E σ H' Q') hr' (fun pn xe E p1 p2 hx => pe_actC (i := 0) I1 L hf hfn hfr (hbind _ _ _ _ _) rfl rfl rfl rfl rfl rfl rfl rfl rfl hx hr' (fun A outer s H E hr2 => hbody A outer s H E f c' hr2) hNg hva hd hcd) hco (h H1 eN T1)
  refine wpAny_call (codeAny_mono rc fun r s2 hq => ?_)
  cases r with
  | error e => exact (nog _ _ _ _ _ hq).elim
  | ok fl =>
    cases fl with
    | ret u => exact I1.after hq
    | next => exact False.elim hq
    | brk => exact False.elim hq
    | cont => exact False.elim hq
end
end Lg

set_option Elab.async false
set_option linter.all false
set_option maxRecDepth 100000
set_option maxHeartbeats 2000000
namespace Hx
open PySem PySem.Spec PyProof.Rows L2 L2H HotX LamX
theorem passN {P : Program} {w : World} {X : Cx} (e1 : X.prog = P) (e2 : X.w = w) : Passes (L2N.CX P w) X E0 := fun _ _ _ _ _ _ _ ⟨_, _, _, _, _, _, _, _, _, _, _, _, h⟩ => h.elim
theorem nogN {P : Program} {w : World} (outer : List Env) (H : Hp) (s : Shared) (e : Value) (s' : Shared) : L2N.CX P w outer H s E0 e s' → False := fun ⟨_, _, _, _, _, _, _, _, _, _, _, _, h⟩ => h.elim
theorem takesN0 {X : Cx} : L2N.Takes X (fun _ _ _ _ => False) := fun _ _ x => by
  obtain ⟨_, _, _, _, _, _, _, _, _, _, _, _, _, _, _, _, z⟩ := x
  exact z.elim
/-! ## the making of an own error whose __init__ is a def, with nothing handled -/
theorem pmk_own {X : Cx} {CX : CXT} {x : Str} {e : Expr} {es : List Expr} {ta : TA} {p pos : Pos} {C fI : Addr} {k : Nat} {fd : FuncData} {ps : List Str} {sp : Sp} (T : OexC X.K C)
    (iC : PySem.W.findIn X.K (.ref C) "__init__" = some (some (.ref fI))) (tI : PySem.W.typeIn X.K (.ref fI) = some (.type "function"))
    (F1 : FnOk X.prog X.w X.K X.mg X.base CX k fI fd ps sp) (hr : Room (k + 1) X.A) (hb : Binds X.K fd ps []) (hx : Passes CX X (fun _ _ _ => False)) (hg : Gl X x) (hm : X.mg x = some (.ref C)) (ha : PA X (e :: es) ta)
    (hdb : (x == ("__debug__" : Str)) = false := by decide) (he : starEach (e :: es) X.env = (false, eval e X.env) :: starEach es X.env := by rfl) (hpl : (backTo pos (starEach es X.env)).any (·.1) = false := by rfl) :
    L2N.PMk X (.Call (.Name x p) (e :: es) [] pos) (tMkO C sp [] ta) := by
  intro pins s σ H Q I h
  obtain ⟨nm, q, N, bs, bm, sn, sub, ab, col, dd, k0, k1, k2, k3, k5, hC, hbm⟩ := T.cls
  refine wpAny_Call_Name_kw (ld_glob I hg hm ?_ hdb)
  refine PySem.W.callWith_K (h₀ := X.base) I.ok.mod.kin T.kC (thn (ha.run pos pins s σ H _ I h) fun us s1 ⟨vs, H1, I1, r1, hz, q1⟩ => ⟨I1.kIn, ?_⟩) he hpl
  show wpAny _ _ (call (.ref C) us) _ _ _
  obtain ⟨g0, gs, dr, tk, os⟩ := s1
  have s01 : g0.objs.size ≤ g0.objs.size + 1 := Nat.le_succ _
  have hq := q1 (g0.objs.size + 1) (I1.hok.fresh s01)
  rw [List.append_nil] at hq
  have up2 : ∀ b o, g0.get? b = some o → ((g0.push (PySem.W.kdv_tup us)).push (PySem.HandSPX.excO C g0.objs.size)).get? b = some o := fun b o e => Heap.get?_push_of_some _ (Heap.get?_push_of_some _ e)
  have at2 : ((g0.push (PySem.W.kdv_tup us)).push (PySem.HandSPX.excO C g0.objs.size)).get? (g0.objs.size + 1) = some (PySem.HandSPX.excO C g0.objs.size) := by heap_get
  have I2 := I1.laid (t' := tk) (a := g0.objs.size + 1) (o := exo (g0.objs.size + 1) C none) (h' := (g0.push (PySem.W.kdv_tup us)).push (PySem.HandSPX.excO C g0.objs.size)) up2 s01 (exo_ok at2)
  have r2 : Vals (V.ref (g0.objs.size + 1) :: vs) (Value.ref (g0.objs.size + 1) :: us) := .cons rfl r1
  have hl : (Value.ref (g0.objs.size + 1) :: us ++ []).length = ps.length := by
    rw [List.append_nil, ← r2.length]
    exact F1.len _ _ _ _ hq
  have hus : us.length ≤ sizeLine := by
    rw [← Paired.length r1, sizeLine_eq]
    omega
  have b2 := hb _ (Value.ref (g0.objs.size + 1) :: us) I2.kIn hl
  rw [List.append_nil] at b2
  refine wpAny_call (PySem.HandSPX.call_own F.excBase_ValueError (fun Y => PySem.HandSPX.refsVE_contains Y bm hbm) (I1.kIn _ _ hC) (PySem.W.looks_findIn I1.kIn iC) (fun self => PySem.W.bind_fn I1.kIn self tI) hus
    (codeAny_mono (F1.run _ X.stack _ _ ⟨Value.ref (g0.objs.size + 1) :: us, []⟩ (Value.ref (g0.objs.size + 1) :: us) _ _ (fun _ _ _ => False) (hr.make C us []) (I2.env0.make C us []) b2 r2 hq) fun r s' hq' => ?_))
  cases r with
  | error er => exact hx pins σ _ _ er s' I2 hq'
  | ok fl =>
    cases fl with
    | ret u =>
      obtain ⟨v, H2, os2, bare2, un2, hok2, rv, rfl, d, fs, ea, ed, hd1, q2⟩ := hq'
      obtain ⟨h2, g2, d2, t2, os'⟩ := s'
      obtain ⟨t0, G, J, kG, ge, hoe, na⟩ := mk_end0 (d2 := d2) (t2 := t2) I1 s01 up2 un2 hok2 os2 bare2 ea ed hd1
      refine ⟨rv, g0.objs.size + 1, _, _, ⟨G, g2, d2, t2, os'⟩, _, .ref C, some d, rfl, J, kG, ge, hoe, ⟨rfl, rfl, fun vs hv => ?_⟩, rfl, rfl, na, rfl, bare2, raises_own T.exC T.tyC, q2⟩
      cases hv
      rfl
    | next => exact False.elim hq'
    | brk => exact False.elim hq'
    | cont => exact False.elim hq'
/-! ## a def that is called with the caught error, in the suite -/
structure FnP (P : Program) (w : World) (K : PySem.W.Frag) (mg : Str → Option Value) (base : Heap) (CX : CXT) (k : Nat) (f : Addr) (fd : FuncData) (ps : List Str) (sp : Addr → Value → Option Addr → Sp) : Prop where
  len : ∀ a c d vs H Q E, sp a c d vs H Q E → vs.length = ps.length
  run : ∀ (A : Around) (outer : List Env) (s : Shared) (H : Hp) (args : Args) (us : List Value) (vs : List V) (Q : VK) (E : XK) (p : Pin) (c : Value) (d : Option Addr), RoomH k A → Hot1 A p → L2N.Zn c d p.2 → PinOk outer H s p → Env0 P w K mg base A outer s H →
    BindsTo s fd args (ps.zip us) → Vals vs us → sp p.1 c d vs H Q E → codeAny (model P w) A (.call (.ref f) args) (CR CX outer P w H s Q E) s
theorem fn_ofP {CX : CXT} {P : Program} {w : World} {K : PySem.W.Frag} {mg : Str → Option Value} {base : Heap} {k : Nat} {f : Addr} {name q : Str} {params : Arguments} {body : List Stmt} {sc : Scope} {dV kV doc pm cdv ct oc : Value} {an od : Option Addr}
    {osl : Array (Option Value)} {N ps : List Str} {sp : Addr → Value → Option Addr → Sp} (lk : K.lookup f = some ⟨oc, od, .func (PySem.W.fnOf name q params body sc dV kV doc pm an cdv ct), osl⟩) (hcd : PySem.W.codeIn K cdv q = true) (S : FnScope N ps sc)
    (len : ∀ a c d vs H Q E, sp a c d vs H Q E → vs.length = ps.length)
    (hbody : ∀ (A : Around) (outer : List Env) (s : Shared) (H : Hp) (vs : List V) (Q : VK) (E : XK) (p : Pin) (c : Value) (d : Option Addr), Hot1 A p → L2N.Zn c d p.2 → RoomH k (A.deeper (envOfC q sc s.heap.objs.size f cdv)) → sp p.1 c d vs H Q E →
      ∃ t, PSs (cxH CX P w K mg base N q sc f cdv A outer s H E p) body t ∧ t { nx := fun _ H' => Q .non H', rt := Q } (L2.start N vs) H) :
    FnP P w K mg base CX (k + 1) f (PySem.W.fnOf name q params body sc dV kV doc pm an cdv ct) ps sp := by
  refine ⟨len, fun A outer s H args us vs Q E p c d hr hot hz hpin e0 hb r hsp => ?_⟩
  have KX : K.In s.heap := e0.mod.kin.keeps fun b o e => (e0.bs b o e).1
  have lim : s.heap.NoLimit := e0.mod.nolimit.keeps fun b o e => (e0.bs b o e).1
  have kinds : ∀ y ∈ ps.zip us, sc.names.lookup y.1 = some .local ∨ (sc.names.lookup y.1 = some .cell ∧ ((cellsFrom (s.heap.objs.size + 1) sc.names []).lookup y.1).isSome = true) := by
    rintro ⟨n, v⟩ hy
    rcases S.par n (List.of_mem_zip hy).1 with z | z
    · exact Or.inl z
    · exact Or.inr ⟨z, PySem.W.cellsFrom_some _ _ _ (Or.inl z)⟩
  refine codeAny_call_function hr.depth (KX _ _ lk) rfl S.co S.gen rfl (PySem.W.codeRec_of KX hcd) (hb _ _ _ _ ?_)
  refine wpAny_newFunctionEnv_cells S.kind kinds fun env he s1 x => ?_
  subst he
  refine ⟨lim.keeps x.toInCall.keep, codeAny_func ?_⟩
  obtain ⟨t, ht, hq⟩ := hbody A outer s H vs Q E p c d hot hz (hr.deeper _) hsp
  have I : Inv (cxH CX P w K mg base N q sc f cdv A outer s H E p) [] (L2.start N vs) H s1 := inv_startH S hpin e0 (len _ _ _ _ _ _ _ hsp) r x
  refine wpAny_mono (ht.run [] s1 (L2.start N vs) H _ I hq) (fun fl s' hs => ?_) fun e s' hs => hs
  cases fl with
  | ret u =>
    obtain ⟨v, σ', H', J, rv, y⟩ := hs
    exact ⟨v, H', J.os, J.bare, J.base, J.hok, rv, y⟩
  | next =>
    obtain ⟨σ', H', J, y⟩ := hs
    exact ⟨.non, H', J.os, J.bare, J.base, J.hok, rfl, y⟩
  | brk =>
    obtain ⟨_, _, _, y⟩ := hs
    exact False.elim y
  | cont =>
    obtain ⟨_, _, _, y⟩ := hs
    exact False.elim y
section
variable {X : Cx} {CX : CXT} {k : Nat} {f : Addr} {fd : FuncData} {ps : List Str} {sp : Addr → Value → Option Addr → Sp} {x : Str} {q pos : Pos} {e : Expr} {es : List Expr} {t : TA}
/-- g(err ..), in the suite that caught it -/
theorem pe_callP {p : Pin} {c : Value} {d : Option Addr} (nog : ∀ outer H s e s', CX outer H s E0 e s' → False) (F : FnP X.prog X.w X.K X.mg X.base CX k f fd ps sp) (hr : RoomH k X.A) (hot : Hot1 X.A p) (hp : p ∈ X.pn) (hz : L2N.Zn c d p.2) (hg : Gl X x) (hm : X.mg x = some (.ref f)) (hk : PySem.W.keepIn X.K (.ref f) = true)
    (hb : Binds X.K fd ps []) (ha : PA X (e :: es) t) (hdb : (x == ("__debug__" : Str)) = false := by decide) (he : starEach (e :: es) X.env = (false, eval e X.env) :: starEach es X.env := by rfl) (hpl : (backTo pos (starEach es X.env)).any (·.1) = false := by rfl) :
    PE X (.Call (.Name x q) (e :: es) [] pos) (fun σ H Q => t σ H fun vs H1 => sp p.1 c d vs H1 Q E0) := by
  refine ⟨fun pins s σ H Q I h => ?_⟩
  refine wpAny_Call_Name_kw (ld_glob I hg hm ?_ hdb)
  refine PySem.W.callWith_K (h₀ := X.base) I.ok.mod.kin hk (thn (ha.run pos pins s σ H _ I h) fun us s1 ⟨vs, H1, I1, r, y⟩ => ⟨I1.kIn, ?_⟩) he hpl
  have hl : us.length = ps.length := by
    rw [← r.length]
    exact F.len _ _ _ _ _ _ _ y
  have b := hb s1 us I1.kIn (by rw [List.append_nil]; exact hl)
  rw [List.append_nil] at b
  have P1 := I1.pin p (List.mem_append_left _ hp)
  have pk : PinOk X.stack H1 s1 p := ⟨P1.1, P1.2.1, fun hm' => (List.mem_cons.mp (I1.stkSub p.1 hm')).elim P1.2.2.1 P1.2.2.2.1, P1.2.2.2.2⟩
  refine wpAny_call (codeAny_mono (F.run X.A X.stack s1 H1 ⟨us, []⟩ us vs Q E0 p c d hr hot hz pk I1.env0 b r y) fun r s' hq => ?_)
  cases r with
  | error e => exact (nog _ _ _ _ _ hq).elim
  | ok fl =>
    cases fl with
    | ret u => exact I1.after hq
    | next => exact False.elim hq
    | brk => exact False.elim hq
    | cont => exact False.elim hq
/-! ## isinstance and a field of the pinned error -/
structure ErrC (K : PySem.W.Frag) (D : Addr) : Prop where
  ga : PySem.W.findIn K (.ref D) "__getattribute__" = some (some (.builtin "BaseException.__getattribute__"))
  gg : PySem.W.findIn K (.ref D) "__getattr__" = some none
  be : PySem.W.subIn K (.ref D) (.type "BaseException") = some true
  hd : PySem.W.hasDictIn K D = true
  cl : PySem.W.findIn K (.ref D) "__class__" = some (some (.builtin "object.__class__"))
  gs : PySem.W.specialIn K (.builtin "object.__class__") "__get__" = some (some (.builtin "getset_descriptor.__get__"))
  tk : PySem.W.takesIn K (.builtin "object.__class__") = some true
  ob : PySem.W.mroIn K D (.type "object") = some true
def errB (K : PySem.W.Frag) (D : Addr) : Bool :=
  decide (PySem.W.findIn K (.ref D) "__getattribute__" = some (some (.builtin "BaseException.__getattribute__"))) && (decide (PySem.W.findIn K (.ref D) "__getattr__" = some none) &&
  (decide (PySem.W.subIn K (.ref D) (.type "BaseException") = some true) && (PySem.W.hasDictIn K D && (decide (PySem.W.findIn K (.ref D) "__class__" = some (some (.builtin "object.__class__"))) &&
  (decide (PySem.W.specialIn K (.builtin "object.__class__") "__get__" = some (some (.builtin "getset_descriptor.__get__"))) && (decide (PySem.W.takesIn K (.builtin "object.__class__") = some true) &&
  decide (PySem.W.mroIn K D (.type "object") = some true)))))))
theorem errB_ok {K : PySem.W.Frag} {D : Addr} (h : errB K D = true) : ErrC K D := by
  obtain ⟨h1, h⟩ := He.ba h
  obtain ⟨h2, h⟩ := He.ba h
  obtain ⟨h3, h⟩ := He.ba h
  obtain ⟨h4, h⟩ := He.ba h
  obtain ⟨h5, h⟩ := He.ba h
  obtain ⟨h6, h⟩ := He.ba h
  obtain ⟨h7, h8⟩ := He.ba h
  exact ⟨of_decide_eq_true h1, of_decide_eq_true h2, of_decide_eq_true h3, h4, of_decide_eq_true h5, of_decide_eq_true h6, of_decide_eq_true h7, of_decide_eq_true h8⟩
/-- the error's own dict is tracked -/
def ErrAt (H : Hp) (d : Option Addr) (fs : List (Str × V)) : Prop := ∃ dd, d = some dd ∧ H dd = some (.xd fs)
theorem inst_at {p : Pin} {D : Addr} {d : Option Addr} {fs : List (Str × V)} {pins : List Pin} {σ : L2.St} {H : Hp} {s : Shared} (I : Inv X pins σ H s) (hp : p ∈ X.pn) (hz : L2N.Zn (.ref D) d p.2) (hf : ∃ vs, p.2.data = .fields vs) (ea : ErrAt H d fs) :
    ∃ od, PySem.W.InstAt s.heap p.1 p.2 D (some od) ∧ ∀ n v, fs.lookup n = some v → ∃ u, PySem.W.lookIn n od = some (some u) ∧ RelV v u := by
  obtain ⟨dd, rfl, ed⟩ := ea
  obtain ⟨vs, hd⟩ := hf
  have hx : ObjOk X.prog X.w H s.heap dd (.xd fs) := I.hok dd _ ed
  obtain ⟨mA, hns, hr⟩ := hx
  obtain ⟨od, ho, hl⟩ := lookIn_ns hns
  have P1 := (I.pin p (List.mem_append_left _ hp)).1
  refine ⟨od, ⟨P1, hz.1, by unfold PySem.W.notCls; rw [hd], by rw [hz.2.1]; exact ho⟩, fun n v e => ?_⟩
  have r := hr n
  rw [e] at r
  obtain ⟨u, hu, ru⟩ := RelO.some_of r
  exact ⟨u, by rw [hl, hu], ru⟩
/-- isinstance(err, c) -/
def rIsP (K : PySem.W.Frag) (D a : Addr) (d : Option Addr) : List V → Hp → VK → Prop := fun xs H Q => ∃ (c : V) (cv : Value) (b : Bool) (fs : List (Str × V)), xs = [.ref a, c] ∧ (∀ u, RelV c u → u = cv) ∧ PySem.W.kitOne K (.ref D) cv = some b ∧ ErrAt H d fs ∧ Q (.bl b) H
theorem call_isP {X : Cx} {p : Pin} {D : Addr} {d : Option Addr} (T : ErrC X.K D) (hp : p ∈ X.pn) (hz : L2N.Zn (.ref D) d p.2) (hf : ∃ vs, p.2.data = .fields vs) : CallR X (.builtin "isinstance") (rIsP X.K D p.1 d) := by
  intro pins s σ H xs us Q I r h
  obtain ⟨c, cv, b, fs, rfl, hcv, e, ea, q⟩ := h
  cases r with
  | cons rx rr =>
    cases rr with
    | cons rt rr =>
      cases rr
      cases rx
      obtain rfl := hcv _ rt
      obtain ⟨od, J, _⟩ := inst_at I hp hz hf ea
      have hcl : (PySem.W.clsIn X.K D).isSome = true := by
        obtain ⟨cd, hc, _⟩ := PySem.W.any_some T.hd
        rw [hc]
        rfl
      exact PySem.W.kia_one (PySem.W.kitx_exc hcl T.ga T.gg T.be T.cl T.gs T.tk T.ob) I.kIn J e (fun z => nomatch z) fun tk => ⟨.bl b, H, I.kept (t' := tk) fun _ _ z => z, rfl, q⟩
/-- err.n -/
theorem pe_fldP {X : Cx} {p : Pin} {D : Addr} {d : Option Addr} {e : Expr} {te : TE} {pos : Pos} {n : Str} (T : ErrC X.K D) (hno : PySem.W.findIn X.K (.ref D) n = some none) (hp : p ∈ X.pn) (hz : L2N.Zn (.ref D) d p.2) (hf : ∃ vs, p.2.data = .fields vs) (he : PE X e te)
    (hb : attributeBase e n X.env (eval e X.env) = eval e X.env := by rfl) :
    PE X (.Attribute e n pos) (fun σ H Q => te σ H fun x H1 => ∃ fs v, x = .ref p.1 ∧ ErrAt H1 d fs ∧ fs.lookup n = some v ∧ Q v H1) := by
  refine ⟨fun pins s σ H Q I h => ?_⟩
  refine attr_of hb (thn (he.run pins s σ H _ I h) fun u s1 hh => ?_)
  obtain ⟨x, H1, I1, rx, fs, v, rfl, ea, l, q⟩ := hh
  obtain rfl : u = Value.ref p.1 := rx
  obtain ⟨od, J, lk⟩ := inst_at I1 hp hz hf ea
  obtain ⟨u, hu, ru⟩ := lk n v l
  exact HandSPX.exc_get I1.kIn J T.ga T.gg T.be (PySem.W.findObj_own T.hd hno rfl hu) (handed_of ru) ⟨v, H1, I1.tok _, ru, q⟩
end
/-! ## def asks(call): try: return ("told", call()) / except BusError as e: return turned(e) -/
def TTask (K : PySem.W.Frag) (B : Addr) (z : Str) (sp : Addr → Value → Option Addr → Sp) : (XK → Hp → VK → Prop) → Hp → VK → Prop := fun tl H Q =>
  tl (fun cls d H' => ∃ b, PySem.W.exmOne K cls (.ref B) = some b ∧ (b = true → ∀ a, H' a = none → sp a cls d [.ref a] H' Q E0) ∧ (b = false → False)) H
    (fun v H1 => [V.str z, v].length ≤ sizeLine ∧ ∀ p, H1 p = none → Q (.ref p) (upd H1 p (.tup [.str z, v])))
theorem ask_gives {X : Cx} {Ng : List Str} {x a e y q z : Str} {sg : Scope} {g B fT : Addr} {fdT : FuncData} {kT k j : Nat} {cdg : Value} {spT : Addr → Value → Option Addr → Sp} {psT : List Str} {cstr : Const} {p1 p2 p3 p4 p5 p6 p7 p8 p9 p10 p11 p12 p13 : Pos} {k1 : _}
    (hge : sg.names.lookup y = some .globalImplicit) (hme : X.mg y = some (.ref B)) (hde : (y == ("__debug__" : Str)) = false)
    (hgt : sg.names.lookup x = some .globalImplicit) (hmt : X.mg x = some (.ref fT)) (hkt : PySem.W.keepIn X.K (.ref fT) = true) (hdt : (x == ("__debug__" : Str)) = false)
    (F : FnP X.prog X.w X.K X.mg X.base (L2N.CX X.prog X.w) kT fT fdT psT spT) (hkk : kT ≤ k) (hbT : Binds X.K fdT psT [])
    (hNd : Ng.Nodup) (hN1 : Ng[1]? = some e) (hle : sg.names.lookup e = some .local) (hed : (e == ("__debug__" : Str)) = false) (hec : (e == ("__classdict__" : Str)) = false) (h0 : ∀ f : Addr, L2.start Ng [V.ref f] = [some (V.ref f), none])
    {qg : Str} : Lg.GivesC (L2N.CX X.prog X.w) CX0 X Ng qg sg g cdg
      [.Try [.Return (some (.Tuple [.Constant (.str z) j p1, .Call (.Name a p2) [] [] p3] k1 p4)) p5] [.ExceptHandler (some (.Name y p6)) (some e) [.Return (some (.Call (.Name x p7) [.Name e p8] [] p9)) p10] p11] [] [] p12] a q k (TTask X.K B z spT) := by
  intro f c s H Q tl hr act hc h
  refine ⟨_, pss_one (L2N.ps_try_as (X := cxOf CX0 X.prog X.w X.K X.mg X.base Ng qg sg g cdg X.A X.stack s H E0) (c := .ref B) (i := 1)
      (tb := fun W D σ H => σ[0]? = some (some (.ref f)) ∧ H c = some (CodeO c q) ∧ tl (fun cls d H' => W cls d σ H') H (fun v H1 => [V.str z, v].length ≤ sizeLine ∧ ∀ p, H1 p = none → D.rt (.ref p) (upd H1 p (.tup [.str z, v]))))
      (ts := fun a cls d D σ H => ∃ w, σ[1]? = some (some w) ∧ spT a cls d [w] H D.rt E0)
      rfl rfl hNd hN1 hle ⟨hge, hde, Or.inl hme⟩ takesN0 (fun W pn xe tk _ => ?_) (fun a oe cls d pn hz hf => ?_)), ?_⟩
  · refine ⟨fun pins s' σ H' D I h' => ?_⟩
    have hp := act pn xe (WE W) p2 p3 (L2N.passAt tk)
    have hq := pss_one (ps_ret (pos := p5) (pe_tup (x1 := k1) (pos := p4) (pa_cons (pe_str (x := z) (j := j) (pos := p1)) (pa_cons hp pa_nil))))
    exact hq.run pins s' σ H' D I h'
  · obtain ⟨vs, hd⟩ := hf
    have hot : Hot1 ((cxOf CX0 X.prog X.w X.K X.mg X.base Ng qg sg g cdg X.A X.stack s H E0).suite a ((a, oe) :: pn)).A (a, oe) := ⟨rfl, vs, hd, hz.2.2 vs hd⟩
    have pc := pe_callP (X := (cxOf CX0 X.prog X.w X.K X.mg X.base Ng qg sg g cdg X.A X.stack s H E0).suite a ((a, oe) :: pn)) (p := (a, oe)) (x := x) (q := p7) (pos := p9) nogN (F) (L2H.roomH_mark (hr.mono (by omega)) _) hot List.mem_cons_self hz hgt hmt hkt hbT
      (pa_cons (pe_var (i := 1) (x := e) (pos := p8) hN1 (Or.inl hle) hed hec) pa_nil) hdt
    have pr := pss_one (ps_ret (pos := p10) pc)
    refine ⟨fun pins s' σ H' D I h' => ?_⟩
    exact pr.run pins s' σ H' D I h'
  · refine ⟨by rw [h0]; rfl, hc, ?_⟩
    have eE : (fun (cls : Value) (d : Option Addr) (H' : Hp) => wAs X.K (Value.ref B) 1 (fun a cls d D σ H => ∃ w, σ[1]? = some (some w) ∧ spT a cls d [w] H D.rt E0) (fun _ _ _ _ => False) { nx := fun _ H' => Q V.non H', rt := Q } cls d (L2.start Ng [V.ref f]) H')
        = fun cls d H' => ∃ b, PySem.W.exmOne X.K cls (.ref B) = some b ∧ (b = true → ∀ a, H' a = none → spT a cls d [.ref a] H' Q E0) ∧ (b = false → False) := by
      funext cls d H'
      rw [h0]
      unfold wAs
      refine propext ⟨?_, ?_⟩
      · rintro ⟨b, h1, h2, h3⟩
        refine ⟨b, h1, fun hb a ha => ?_, h3⟩
        obtain ⟨w, e1, e2⟩ := h2 hb a ha
        have e3 : V.ref a = w := Option.some.inj (Option.some.inj e1)
        rw [← e3] at e2
        exact e2
      · rintro ⟨b, h1, h2, h3⟩
        exact ⟨b, h1, fun hb a ha => ⟨.ref a, rfl, h2 hb a ha⟩, h3⟩
    show tl (fun (cls : Value) (d : Option Addr) (H' : Hp) => wAs X.K (Value.ref B) 1 (fun a cls d D σ H => ∃ w, σ[1]? = some (some w) ∧ spT a cls d [w] H D.rt E0) (fun _ _ _ _ => False) { nx := fun _ H' => Q V.non H', rt := Q } cls d (L2.start Ng [V.ref f]) H') H _
    rw [eE]
    exact h
end Hx

set_option Elab.async false
set_option linter.all false
set_option maxRecDepth 100000
set_option maxHeartbeats 2000000
namespace Er
open PySem PySem.Spec PyProof.Rows L2 Xn Hx
/-! ## an own error class with its __init__, by one Bool -/
def cdA (K : PySem.W.Frag) (f : Addr) : Addr := match K.lookup f with
  | some ⟨_, _, .func g, _⟩ => (match g.code with | .ref c => c | _ => 0)
  | _ => 0
def eC (K : PySem.W.Frag) (x : Str) : Addr := He.ga K x
def eI (K : PySem.W.Frag) (x : Str) : Addr := He.ma K (He.ga K x) "__init__"
def fileB (file : Str) : Value → Bool
  | .str f _ => file == f
  | _ => false
def cellB (C : Addr) : Option Value → Bool
  | some (.ref D) => decide (D = C)
  | _ => false
def errKB (file : Str) (K : PySem.W.Frag) (x : Str) (flds : List Str) : Bool :=
  oexF K (eC K x) && (errB K (eC K x) && (He.eqO (PySem.W.findIn K (.ref (eC K x)) "__init__") (some (some (.ref (eI K x)))) && (decide (PySem.W.typeIn K (.ref (eI K x)) = some (.type "function")) &&
  (flds.all (fun f => He.eqO (PySem.W.findIn K (.ref (eC K x)) f) (some none)) && (decide (PySem.W.mroIn K (eC K x) (.ref (eC K x)) = some true) && (He.eqO (PySem.W.nsIn K cStatics "thirdparty.any") (some none) &&
  (He.eqO (PySem.W.ks_superIn K (eC K x) (eC K x) "__init__") (some (some (.builtin "ValueError.__init__"))) && (decide (PySem.W.subIn K (.ref (eC K x)) (.type "ValueError") = some true) &&
  ((match K.lookup (Yh.cellA K (eI K x)) with | some ⟨_, _, .cell v, _⟩ => cellB (eC K x) v | _ => false) &&
  ((match K.lookup (cdA K (eI K x)) with | some ⟨_, _, .fields vs, _⟩ => fileB file (vs.getD 2 .none) | _ => false) && He.eqO (PySem.W.nsIn K mainGlobals "super") (some none)))))))))))
structure ErrK (P : Program) (K : PySem.W.Frag) (x : Str) (flds : List Str) : Prop where
  err : ErrC K (eC K x)
  sup : SupF P K (eC K x) (Yh.cellA K (eI K x)) (cdA K (eI K x))
  iC : PySem.W.findIn K (.ref (eC K x)) "__init__" = some (some (.ref (eI K x)))
  tI : PySem.W.typeIn K (.ref (eI K x)) = some (.type "function")
  no : ∀ f ∈ flds, PySem.W.findIn K (.ref (eC K x)) f = some none
theorem errK_ok {P : Program} {K : PySem.W.Frag} {x : Str} {flds : List Str} (h : errKB P.main.file K x flds = true) (ht : (P.main.scope.names.lookup ("super" : Str)).isSome = false) : ErrK P K x flds := by
  obtain ⟨h1, h⟩ := He.ba h
  obtain ⟨h2, h⟩ := He.ba h
  obtain ⟨h3, h⟩ := He.ba h
  obtain ⟨h4, h⟩ := He.ba h
  obtain ⟨h5, h⟩ := He.ba h
  obtain ⟨h6, h⟩ := He.ba h
  obtain ⟨h7, h⟩ := He.ba h
  obtain ⟨h8, h⟩ := He.ba h
  obtain ⟨h9, h⟩ := He.ba h
  obtain ⟨h10, h⟩ := He.ba h
  obtain ⟨h11, h12⟩ := He.ba h
  refine ⟨errB_ok h2, ⟨oexF_ok h1, ?_, ?_, of_decide_eq_true h6, He.eqO_ok h12, He.eqO_ok h7, He.eqO_ok h8, of_decide_eq_true h9, ht⟩, He.eqO_ok h3, of_decide_eq_true h4, fun f hf => He.eqO_ok (List.all_eq_true.mp h5 f hf)⟩
  · revert h10
    cases q : K.lookup (Yh.cellA K (eI K x)) with
    | none => intro z; cases z
    | some o =>
      obtain ⟨oc, od, dt, osl⟩ := o
      cases dt with
      | cell v =>
        intro z
        cases v with
        | none => cases z
        | some v =>
          cases v with
          | ref D =>
            have e : D = eC K x := of_decide_eq_true z
            rw [e]
            exact ⟨_, _, _, rfl⟩
          | _ => cases z
      | _ => intro z; cases z
  · revert h11
    cases q : K.lookup (cdA K (eI K x)) with
    | none => intro z; cases z
    | some o =>
      obtain ⟨oc, od, dt, osl⟩ := o
      cases dt with
      | fields vs =>
        intro z
        have z : fileB P.main.file (vs.getD 2 .none) = true := z
        rw [Array.getD_eq_getD_getElem?] at z
        cases e : vs[2]? with
        | none =>
          rw [e] at z
          cases z
        | some v =>
          rw [e] at z
          cases v with
          | str f t => exact ⟨_, _, _, _, _, _, rfl, e, z⟩
          | _ => cases z
      | _ => intro z; cases z
/-! ## __init__(self, f): super().__init__(msg); self.f = f -/
abbrev two (f : Str) : List Str := [("self" : Str), f]
def smallI (i : Int) : Prop := i.natAbs.log2 < 1920
def spE1 (C : Addr) (f : Str) : Sp := fun vs H Q _ => ∃ a i, vs = [.ref a, .int i] ∧ H a = some (exo a C none) ∧ smallI i ∧
  ∀ dx, H dx = none → dx ≠ a → Q .non (upd (upd H dx (exd dx [(f, .int i)])) a (exo a C (some dx)))
theorem fnE1 {CX : CXT} {P : Program} {w : World} {K : PySem.W.Frag} {mg : Str → Option Value} {base : Heap} {x f : Str} {flds : List Str} (T : ErrK P K x flds) (hf : f ∈ flds) {name q : Str} {params : Arguments} {sc : Scope} {p0 p1 p2 p3 p4 q1 q2 q3 q4 : Pos} {e : Expr} {ar : Arg}
    (lk : ∃ oc od osl doc pm an cdv ct, K.lookup (eI K x) = some ⟨oc, od, .func (PySem.W.fnX name q params [.Expr (.Call (.Attribute (.Call (.Name "super" p0) [] [] p1) "__init__" p2) [e] [] p3) p4, .Assign [.Attribute (.Name "self" q1) f q2] (.Name f q3) q4] sc (Yh.cloL true (Yh.cellA K (eI K x))) .none .none doc pm an cdv ct), osl⟩ ∧ PySem.W.codeIn K cdv q = true)
    (S : SupS (two f) (two f) sc) (hp : (params.posonlyargs ++ params.args).head? = some ar) (ha : ar.arg = ("self" : Str))
    (hb : ∀ (kV doc pm : Value) (an : Option Addr) (cdv ct : Value) (body : List Stmt) (cl : List (Str × Addr)) (us : List Value), us.length = 2 → bindArgs (PySem.W.fnX name q params body sc cl .none kV doc pm an cdv ct) ⟨us, []⟩ = pure ((two f).zip us))
    {pl : Value → Addr → Addr → Addr → Sem Bool}
    (hev : ∀ (cd : Value) (L fI cc : Addr), eval (.Call (.Attribute (.Call (.Name "super" p0) [] [] p1) "__init__" p2) [e] [] p3) (PySem.W.ksEnv q sc L fI cd cc) = (do
      let ov ← attributeBase (.Call (.Name "super" p0) [] [] p1) "__init__" (PySem.W.ksEnv q sc L fI cd cc) (eval (.Call (.Name "super" p0) [] [] p1) (PySem.W.ksEnv q sc L fI cd cc))
      standAt p2.atName
      let (g, first) ← holding [ov] (getMethod ov "__init__" (pl cd L fI cc))
      callWith p3 g first (backTo p3 (starEach [e] (PySem.W.ksEnv q sc L fI cd cc))) []))
    (hsw : ∀ (cd : Value) (L fI cc : Addr), swapsWith (.Call (.Attribute (.Call (.Name "super" p0) [] [] p1) "__init__" p2) [e] [] p3) none p4.line (PySem.W.ksEnv q sc L fI cd cc) = pure false)
    (hse : ∀ env : Env, starEach [e] env = [(false, eval e env)])
    (hsa : ∀ env : Env, swapsWith (.Name f q3) (some (.Attribute (.Name "self" q1) f q2)) q4.line env = pure false)
    (hd1 : (f == ("__debug__" : Str)) = false) (hd2 : (f == ("__classdict__" : Str)) = false)
    (he : ∀ X : Cx, X.N = (two f) → X.env.scope = sc → ∃ te, PE X e te ∧ ∀ (σ : L2.St) (i : Int), σ[1]? = some (some (.int i)) → smallI i → ∀ (H : Hp) (Q : VK), (∀ z, Q z H) → te σ H Q) :
    ∃ fd, FnOk P w K mg base CX 1 (eI K x) fd (two f) (spE1 (eC K x) f) ∧ Binds K fd (two f) [] := by
  obtain ⟨oc, od, osl, doc, pm, an, cdv, ct, hl, hcd⟩ := lk
  have hcr : cdv = .ref (cdA K (eI K x)) := by
    obtain ⟨c, e1⟩ := He.codeIn_ref hcd
    subst e1
    unfold cdA
    rw [hl]
  subst hcr
  refine ⟨_, fn_super hl hcd T.sup S hp (by rw [ha]; rfl) (fun vs H Q E h => ?_) (fun L => hev _ L _ _) (fun L => hsw _ L _ _) (fun A outer s H vs Q E hr h => ?_), .all fun us hu => hb _ _ _ _ _ _ _ _ us hu⟩
  · obtain ⟨a, i, rfl, _⟩ := h
    rfl
  · obtain ⟨a, i, rfl, ea, sm, k⟩ := h
    obtain ⟨te, hpe, ht⟩ := he (supCx CX P w K mg base (two f) q sc (eI K x) (.ref (cdA K (eI K x))) (Yh.cellA K (eI K x)) A outer s H E) rfl rfl
    have v0 : Vis sc ("self" : Str) := Or.inl (S.par _ (by simp))
    have v1 : Vis sc f := Or.inl (S.par _ (by simp))
    refine ⟨te, _, a, hpe, pss_one (ps_ost (pe_var (i := 0) rfl v0 (by decide) (by decide)) (pe_var (i := 1) rfl v1 hd1 hd2) (hsa _)), hse _, rfl, ea, ?_⟩
    refine ht [some (.ref a), some (.int i)] i rfl sm _ _ fun z => ⟨ea, ?_⟩
    refine ⟨_, rfl, _, rfl, a, eC K x, rfl, T.sup.exc, T.no f hf, Or.inl ⟨ea, fun dx h1 h2 => ?_⟩⟩
    exact k dx h1 h2
/-- raise x(e), x an error of one int field f -/
theorem ps_err1 {X : Cx} {CX : CXT} {W : WX} {x f : Str} {flds : List Str} {fd : FuncData} {e : Expr} {te : TE} {p pos pos2 : Pos} {P : Program} (T : ErrK P X.K x flds) (F : FnOk X.prog X.w X.K X.mg X.base CX 1 (eI X.K x) fd (two f) (spE1 (eC X.K x) f)) (hb : Binds X.K fd (two f) [])
    (hc : X.calm = true) (hr : Room 2 X.A) (hx : Passes CX X E0) (tk : L2N.Takes X W) (hg : Gl X x) (hm : X.mg x = some (.ref (eC X.K x))) (ha : PE X e te)
    (hdb : (x == ("__debug__" : Str)) = false := by decide) (he : starEach [e] X.env = (false, eval e X.env) :: starEach [] X.env := by rfl) (hpl : (backTo pos (starEach [] X.env)).any (·.1) = false := by rfl) :
    PS X (.Raise (some (.Call (.Name x p) [e] [] pos)) none pos2) (fun _ σ H => te σ H fun v H1 => ∃ i, v = .int i ∧ smallI i ∧ ∀ d, H1 d = none → W (.ref (eC X.K x)) (some d) σ (upd H1 d (.xd [(f, .int i)]))) := by
  have ha2 : PE X e (fun σ H Q => te σ H (fun v H1 => ∃ i, v = .int i ∧ smallI i ∧ ∀ d, H1 d = none → W (.ref (eC X.K x)) (some d) σ (upd H1 d (.xd [(f, .int i)]))) ∧
      ∀ v H1, (∃ i, v = .int i ∧ smallI i ∧ ∀ d, H1 d = none → W (.ref (eC X.K x)) (some d) σ (upd H1 d (.xd [(f, .int i)]))) → Q v H1) :=
    ⟨fun pins s σ H Q I h => thn (ha.run pins s σ H _ I h.1) fun u s1 ⟨v, H1, I1, r1, g⟩ => ⟨v, H1, I1, r1, h.2 v H1 g⟩⟩
  have R := L2N.ps_raise (pos := pos2) hc tk (pmk_own (p := p) (pos := pos) T.sup.exc T.iC T.tI F hr hb hx hg hm (pa_cons ha2 pa_nil he) hdb he hpl)
  refine ⟨fun pins s σ H D I h => R.run pins s σ H D I ⟨h, fun v H1 hv => ?_⟩⟩
  obtain ⟨i, rfl, sm, k⟩ := hv
  refine ⟨by show 1 ≤ 1000; decide, fun a na => ⟨a, i, rfl, upd_same, sm, fun dx n1 n2 => ⟨rfl, dx, [(f, .int i)], upd_same, ?_, ?_, ?_⟩⟩⟩
  · rw [upd_ne n2, upd_same]
  · rw [upd_ne n2] at n1
    exact n1
  · have n3 : H1 dx = none := by
      rw [upd_ne n2] at n1
      exact n1
    have e3 : upd (del (upd (upd (upd H1 a (exo a (eC X.K x) none)) dx (exd dx [(f, .int i)])) a (exo a (eC X.K x) (some dx))) a) dx (.xd [(f, .int i)]) = upd H1 dx (.xd [(f, .int i)]) := by
      funext b
      by_cases e1 : b = dx
      · rw [e1, upd_same, upd_same]
      · rw [upd_ne e1, upd_ne e1]
        by_cases e2 : b = a
        · rw [e2, del_same, na]
        · rw [del_ne e2, upd_ne e2, upd_ne e1, upd_ne e2]
    rw [e3]
    exact k dx n3
/-! ## a property of a class, a constant read off a class -/
def pA (K : PySem.W.Frag) (c f : Str) : Addr := He.ma K (He.ga K c) f
def gA (K : PySem.W.Frag) (c f : Str) : Addr := match PySem.W.recIn K (pA K c f) "property" with
  | some (.ref g :: _) => g
  | _ => 0
def propB (K : PySem.W.Frag) (c f : Str) : Bool :=
  He.eqO (PySem.W.findIn K (.ref (He.ga K c)) f) (some (some (.ref (pA K c f)))) && (He.eqO (PySem.W.specialIn K (.ref (pA K c f)) "__get__") (some (some (.builtin "property.__get__"))) &&
  (decide (PySem.W.takesIn K (.ref (pA K c f)) = some true) && (match PySem.W.recIn K (pA K c f) "property" with | some (.ref _ :: _) => true | _ => false)))
theorem propB_ok {K : PySem.W.Frag} {c f : Str} (h : propB K c f = true) : PropOf K (He.ga K c) f (pA K c f) (gA K c f) := by
  obtain ⟨h1, h⟩ := He.ba h
  obtain ⟨h2, h⟩ := He.ba h
  obtain ⟨h3, h4⟩ := He.ba h
  refine ⟨He.eqO_ok h1, He.eqO_ok h2, of_decide_eq_true h3, ?_⟩
  unfold gA
  revert h4
  cases PySem.W.recIn K (pA K c f) "property" with
  | none => intro z; cases z
  | some l =>
    intro z
    cases l with
    | nil => cases z
    | cons v r => cases v <;> first | exact ⟨_, rfl⟩ | cases z
def ccB (K : PySem.W.Frag) (c f : Str) (i : Int) : Bool := PySem.W.readsIn K (He.ga K c) (.type "type") && (He.eqO (PySem.W.specialIn K (.ref (He.ga K c)) "__getattribute__") (some (some (.builtin "type.__getattribute__"))) &&
  (match PySem.W.findCls K (.ref (He.ga K c)) (.type "type") f with | some (.val (.int j _)) => decide (j = i) | _ => false))
theorem ccB_ok {K : PySem.W.Frag} {c f : Str} {i : Int} (h : ccB K c f i = true) : ClX.CRead K (He.ga K c) (.type "type") ∧ ∃ u, ClX.CVal K (He.ga K c) (.type "type") f (.int i) u := by
  obtain ⟨h1, h⟩ := He.ba h
  obtain ⟨h2, h3⟩ := He.ba h
  refine ⟨⟨h1, He.eqO_ok h2⟩, ?_⟩
  revert h3
  cases q : PySem.W.findCls K (.ref (He.ga K c)) (.type "type") f with
  | none => intro z; cases z
  | some w =>
    intro z
    cases w with
    | val v =>
      cases v with
      | int j t =>
        have e : j = i := of_decide_eq_true z
        rw [e] at q
        exact ⟨_, q, ⟨t, rfl⟩⟩
      | _ => cases z
    | _ => cases z
end Er

set_option Elab.async false
set_option linter.all false
set_option maxRecDepth 100000
set_option maxHeartbeats 2000000
namespace Kt
open PySem PySem.Spec PyProof.Rows L2 Hx Er
/-! ## tests -/
theorem iteD {c A B : Prop} [Decidable c] (h1 : c → A) (h2 : ¬c → B) : if decide c = true then A else B := by
  by_cases h : c
  · rw [if_pos (decide_eq_true h)]
    exact h1 h
  · rw [if_neg (by simpa using h)]
    exact h2 h
theorem iteN {c A B : Prop} [Decidable c] (h1 : ¬c → A) (h2 : c → B) : if (!decide c) = true then A else B := by
  by_cases h : c
  · rw [if_neg (by simpa using h)]
    exact h2 h
  · rw [if_pos (by simpa using h)]
    exact h1 h
theorem iteB {b : Bool} {A B : Prop} (h1 : b = true → A) (h2 : b = false → B) : if b = true then A else B := by
  cases b with
  | true => exact (if_pos rfl).symm ▸ h1 rfl
  | false => exact (if_neg Bool.false_ne_true).symm ▸ h2 rfl
/-! ## operators on numbers from nought -/
theorem bor_nat (a b : Nat) : Builtin.bitOr (a : Int) (b : Int) = ((a ||| b : Nat) : Int) := by
  unfold Builtin.bitOr Builtin.bitAnd Builtin.bitNot
  have h1 : decide (0 ≤ -(a : Int) - 1) = false := by simp; omega
  have h2 : decide (0 ≤ -(b : Int) - 1) = false := by simp; omega
  rw [h1, h2]
  simp only
  have e1 : (-(-(a : Int) - 1) - 1).toNat = a := by omega
  have e2 : (-(-(b : Int) - 1) - 1).toNat = b := by omega
  rw [e1, e2]
  omega
theorem and_add_or (a b : Nat) : (a ||| b) = (a ^^^ b) + (a &&& b) := by
  induction a using Nat.strongRecOn generalizing b with
  | _ a ih =>
    by_cases ha : a = 0
    · subst ha; simp
    · have d1 := Nat.div_add_mod a 2
      have d2 := Nat.div_add_mod b 2
      have i := ih (a / 2) (by omega) (b / 2)
      have o1 : (a ||| b) / 2 = a / 2 ||| b / 2 := Nat.or_div_two
      have o2 : (a ^^^ b) / 2 = a / 2 ^^^ b / 2 := Nat.xor_div_two
      have o3 : (a &&& b) / 2 = a / 2 &&& b / 2 := Nat.and_div_two
      have m1 : (a ||| b) % 2 = (a ^^^ b) % 2 + (a &&& b) % 2 := by
        have q1 : a % 2 = 0 ∨ a % 2 = 1 := by omega
        have q2 : b % 2 = 0 ∨ b % 2 = 1 := by omega
        have t1 : (a ||| b) % 2 = a % 2 ||| b % 2 := Nat.or_mod_two_pow (n := 1)
        have t2 : (a ^^^ b) % 2 = a % 2 ^^^ b % 2 := Nat.xor_mod_two_pow (n := 1)
        have t3 : (a &&& b) % 2 = a % 2 &&& b % 2 := Nat.and_mod_two_pow (n := 1)
        rw [t1, t2, t3]
        rcases q1 with q1 | q1 <;> rcases q2 with q2 | q2 <;> rw [q1, q2] <;> rfl
      omega
theorem bxor_nat (a b : Nat) : Builtin.bitXor (a : Int) (b : Int) = ((a ^^^ b : Nat) : Int) := by
  unfold Builtin.bitXor
  rw [bor_nat, PySem.W.os_band, and_add_or]
  omega
def rN (g : Nat → Nat → V) : R2 := fun x y H Q => ∃ n m : Nat, x = .int (n : Int) ∧ y = .int (m : Int) ∧ Q (g n m) H
section
variable {X : Cx}
theorem op_andN : OpR X (binaryOp .BitAnd) (rN fun n m => .int ((n &&& m : Nat) : Int)) := by
  intro pins s σ H x y v u Q I rx ry h
  obtain ⟨n, m, rfl, rfl, q⟩ := h
  exact op_and pins s σ H _ _ v u Q I rx ry ⟨_, _, rfl, rfl, by show Q (.int (Builtin.bitAnd (n : Int) (m : Int))) H; rw [PySem.W.os_band]; exact q⟩
theorem op_orN : OpR X (binaryOp .BitOr) (rN fun n m => .int ((n ||| m : Nat) : Int)) := by
  intro pins s σ H x y v u Q I rx ry h
  obtain ⟨n, m, rfl, rfl, q⟩ := h
  exact op_or pins s σ H _ _ v u Q I rx ry ⟨_, _, rfl, rfl, by show Q (.int (Builtin.bitOr (n : Int) (m : Int))) H; rw [bor_nat]; exact q⟩
theorem op_xorN : OpR X (binaryOp .BitXor) (rN fun n m => .int ((n ^^^ m : Nat) : Int)) := by
  intro pins s σ H x y v u Q I rx ry h
  obtain ⟨n, m, rfl, rfl, q⟩ := h
  exact op_xor pins s σ H _ _ v u Q I rx ry ⟨_, _, rfl, rfl, by show Q (.int (Builtin.bitXor (n : Int) (m : Int))) H; rw [bxor_nat]; exact q⟩
/-- 1 << k -/
def rShl1 : R2 := fun x y H Q => ∃ k : Nat, x = .int 1 ∧ y = .int (k : Int) ∧ k ≤ 1000000 ∧ Q (.int ((2 ^ k : Nat) : Int)) H
theorem op_shl1 : OpR X (binaryOp .LShift) rShl1 := by
  intro pins s σ H x y v u Q I rx ry h
  obtain ⟨k, rfl, rfl, hk, q⟩ := h
  refine op_shl pins s σ H _ _ v u Q I rx ry ⟨_, _, rfl, rfl, ⟨by omega, by omega, by decide⟩, ?_⟩
  have e : (1 : Int) * 2 ^ (k : Int).toNat = ((2 ^ k : Nat) : Int) := by
    rw [Int.one_mul, Int.toNat_natCast, Int.natCast_pow]
    rfl
  show Q (.int ((1 : Int) * 2 ^ (k : Int).toNat)) H
  rw [e]
  exact q
theorem op_shrN2 : OpR X (binaryOp .RShift) (rN fun n k => .int ((n >>> k : Nat) : Int)) := by
  intro pins s σ H x y v u Q I rx ry h
  obtain ⟨n, k, rfl, rfl, q⟩ := h
  refine op_shr pins s σ H _ _ v u Q I rx ry ⟨_, _, rfl, rfl, by omega, ?_⟩
  have e : (n : Int) / 2 ^ (k : Int).toNat = ((n >>> k : Nat) : Int) := by
    rw [Int.toNat_natCast, Nat.shiftRight_eq_div_pow, Int.natCast_ediv, Int.natCast_pow]
    rfl
  show Q (.int ((n : Int) / 2 ^ (k : Int).toNat)) H
  rw [e]
  exact q
/-- - of numbers from nought, the greater one ahead; % and // by a number above nought -/
theorem op_subN2 : OpR X (binaryOp .Sub) (fun x y H Q => ∃ n m : Nat, x = .int (n : Int) ∧ y = .int (m : Int) ∧ m ≤ n ∧ Q (.int ((n - m : Nat) : Int)) H) := op_subN
theorem op_addN2 : OpR X (binaryOp .Add) (rN fun n m => .int ((n + m : Nat) : Int)) := op_addN
theorem op_modP : OpR X (binaryOp .Mod) (fun x y H Q => ∃ i j : Int, x = .int i ∧ y = .int j ∧ 0 < j ∧ Q (.int (i % j)) H) := op_mod
end
theorem tb (n k : Nat) : (V.int ((n >>> k &&& 1 : Nat) : Int) = V.int 1) ↔ n.testBit k = true := by
  have e : n.testBit k = decide ((n >>> k &&& 1) = 1) := by
    unfold Nat.testBit
    rw [Nat.and_comm]
    have h : n >>> k &&& 1 = (n >>> k) % 2 := Nat.and_one_is_mod _
    rw [h]
    have := Nat.mod_two_eq_zero_or_one (n >>> k)
    rcases this with h | h <;> rw [h] <;> rfl
  rw [e, decide_eq_true_iff]
  constructor
  · intro h
    have := V.int.inj h
    omega
  · intro h
    rw [h]
    rfl
theorem tb0 (n k : Nat) : (V.int ((n >>> k &&& 1 : Nat) : Int) = V.int 0) ↔ n.testBit k = false := by
  have e : n.testBit k = decide ((n >>> k &&& 1) = 1) := by
    unfold Nat.testBit
    rw [Nat.and_comm]
    have h : n >>> k &&& 1 = (n >>> k) % 2 := Nat.and_one_is_mod _
    rw [h]
    have := Nat.mod_two_eq_zero_or_one (n >>> k)
    rcases this with h | h <;> rw [h] <;> rfl
  have b : n >>> k &&& 1 = 0 ∨ n >>> k &&& 1 = 1 := by
    have h : n >>> k &&& 1 = (n >>> k) % 2 := Nat.and_one_is_mod _
    rw [h]
    exact Nat.mod_two_eq_zero_or_one _
  rw [e, decide_eq_false_iff_not]
  constructor
  · intro h
    have := V.int.inj h
    omega
  · intro h
    have : n >>> k &&& 1 = 0 := by omega
    rw [this]
    rfl
/-! ## loops over range(n), n from nought -/
theorem forN {n : Nat} {g : TG} {tb : TS} {D : Ends} {σ : L2.St} {H : Hp} (Pv : Nat → L2.St → Hp → Prop) (h0 : Pv 0 σ H)
    (hs : ∀ (i : Nat) σ H, i < n → Pv i σ H → g (.int (i : Int)) σ H fun σ2 H2 => tb { D with nx := Pv (i + 1), ct := Pv (i + 1), bk := D.nx } σ2 H2) (hd : ∀ σ H, Pv n σ H → D.nx σ H) :
    ∃ W : Nat → Nat → L2.St → Hp → Prop, (∃ m, W 0 m σ H) ∧ ∀ i m σ H, W i m σ H →
      ((Itr 0 n).stop i H ∧ D.nx σ H) ∨ ((Itr 0 n).go i H ∧ ∃ N : L2.St → Hp → Prop, (∀ σ' H', N σ' H' → ∃ m', m' < m ∧ W (i + 1) m' σ' H') ∧ ∀ x H', (Itr 0 n).yld i H x H' → g x σ H' fun σ2 H2 => tb { D with nx := N, ct := N, bk := D.nx } σ2 H2) :=
  for_range (lo := 0) Pv h0 (fun i σ H hi p => by rw [Int.zero_add]; exact hs i σ H hi p) hd
theorem lcN {n : Nat} {g : TG} {tt : TT} {te : TE} {vs : List Nat} {σ : L2.St} {H1 : Hp} {D : Addr} {Qd : Hp → Prop} (Pv : Nat → Hp → Prop) (h0 : Pv 0 (upd H1 D (.lst [])))
    (hs : ∀ (i : Nat) H, i < n → Pv i H → g (.int (i : Int)) (wipe σ vs) H fun σ2 H2 => wipe σ2 vs = wipe σ vs ∧ tt σ2 H2 fun b H3 =>
      if b = true then te σ2 H3 fun y H4 => ∃ acc, H4 D = some (.lst acc) ∧ acc.length < sizeLine ∧ Pv (i + 1) (upd H4 D (.lst (acc ++ [y]))) else Pv (i + 1) H3) (hd : ∀ H, Pv n H → Qd H) :
    ∃ W : Nat → Nat → Hp → Prop, (∃ m, W 0 m (upd H1 D (.lst []))) ∧ ∀ i m H, W i m H →
      ((Itr 0 n).stop i H ∧ Qd H) ∨ ((Itr 0 n).go i H ∧ ∃ Nx : Hp → Prop, (∀ H', Nx H' → ∃ m', m' < m ∧ W (i + 1) m' H') ∧ ∀ x H', (Itr 0 n).yld i H x H' → g x (wipe σ vs) H' fun σ2 H2 => wipe σ2 vs = wipe σ vs ∧ tt σ2 H2 fun b H3 =>
        if b = true then te σ2 H3 fun y H4 => ∃ acc, H4 D = some (.lst acc) ∧ acc.length < sizeLine ∧ Nx (upd H4 D (.lst (acc ++ [y]))) else Nx H3) :=
  lc_range (lo := 0) Pv h0 (fun i H hi p => by rw [Int.zero_add]; exact hs i H hi p) hd
/-! ## heaps -/
theorem same_new {H : Hp} {p : Addr} {o : HO} (h : H p = none) : Same H (upd H p o) := fun b x e => by
  rw [upd_ne (ne_of_none e h)]
  exact e
theorem Same.at {H H' : Hp} (s : Same H H') {p : Addr} {o : HO} (h : H p = some o) : H' p = some o := s p o h
/-- a new object over H: at l, o stands in H' -/
structure Nw (H H' : Hp) (l : Addr) (o : HO) : Prop where
  no : H l = none
  same : Same H H'
  at_ : H' l = some o
theorem Nw.mk0 {H : Hp} {l : Addr} {o : HO} (h : H l = none) : Nw H (upd H l o) l o := ⟨h, same_new h, upd_same⟩
theorem Nw.put {H H' : Hp} {l : Addr} {o u : HO} (n : Nw H H' l o) : Nw H (upd H' l u) l u :=
  ⟨n.no, fun b x e => by rw [upd_ne (ne_of_none e n.no)]; exact n.same b x e, upd_same⟩
theorem Nw.more {H H' H2 : Hp} {l : Addr} {o : HO} (n : Nw H H' l o) (s : Same H' H2) : Nw H H2 l o := ⟨n.no, n.same.trans s, s _ _ n.at_⟩
theorem Nw.free {H H' : Hp} {l q : Addr} {o : HO} (n : Nw H H' l o) (h : H' q = none) : H q = none := n.same.free h
/-! ## calls -/
def OkF (P : Program) (w : World) (K : PySem.W.Frag) (mg : Str → Option Value) (base : Heap) (x : Str) (k : Nat) (ps : List Str) (sp : Sp) : Prop :=
  ∃ fd, FnOk P w K mg base (L2N.CX P w) k (He.ga K x) fd ps sp ∧ Binds K fd ps [] ∧ PySem.W.keepIn K (.ref (He.ga K x)) = true ∧ mg x = some (.ref (He.ga K x))
theorem OkF.mono {P : Program} {w : World} {K : PySem.W.Frag} {mg : Str → Option Value} {base : Heap} {x : Str} {j k : Nat} {ps : List Str} {sp : Sp} (o : OkF P w K mg base x j ps sp) (h : j ≤ k) : OkF P w K mg base x k ps sp := by
  obtain ⟨fd, F, b, kp, m⟩ := o
  exact ⟨fd, F.mono h, b, kp, m⟩
theorem OkF.imp {P : Program} {w : World} {K : PySem.W.Frag} {mg : Str → Option Value} {base : Heap} {x : Str} {k : Nat} {ps : List Str} {sp sp' : Sp} (o : OkF P w K mg base x k ps sp) (h : ∀ vs H Q E, sp' vs H Q E → sp vs H Q E) : OkF P w K mg base x k ps sp' := by
  obtain ⟨fd, F, b, kp, m⟩ := o
  exact ⟨fd, F.imp h, b, kp, m⟩
theorem passE {P : Program} {w : World} {K : PySem.W.Frag} {mg : Str → Option Value} {base : Heap} {N : List Str} {q : Str} {sc : Scope} {f : Addr} {cd : Value} {A : Around} {outer : List Env} {s : Shared} {H : Hp} {E : XK} :
    Passes (L2N.CX P w) (cxOf (L2N.CX P w) P w K mg base N q sc f cd A outer s H E) E := L2N.passes_call (L2N.takes_of rfl rfl rfl rfl) fun _ _ _ _ h => h
end Kt

set_option Elab.async false
set_option linter.all false
set_option maxRecDepth 100000
set_option maxHeartbeats 2000000
namespace Kt
open PySem PySem.Spec PyProof.Rows L2 Hx Er
section
variable {P : Program} {w : World} {K : PySem.W.Frag} {mg : Str → Option Value} {base : Heap}
/-- a module's def keeps its promise -/
theorem mkOk {x : Str} {params : Arguments} {body : List Stmt} {scope : Scope} {N ps : List Str} {k : Nat} {sp : Sp} (F : ∃ fd, FunD K x x params body scope [] [] (He.fAd K (x, none)) fd) (hm : mg x = some (.ref (He.ga K x)))
    (hb : ∀ (dV kV doc pm : Value) (an : Option Addr) (cdv ct : Value) (us : List Value), us.length = ps.length → bindArgs (PySem.W.fnOf x x params body scope .none kV doc pm an cdv ct) ⟨us, []⟩ = pure (ps.zip us))
    (S : FnScope N ps scope) (len : ∀ vs H Q E, sp vs H Q E → vs.length = ps.length)
    (hbody : ∀ (f : Addr) (cdv : Value) (A : Around) (outer : List Env) (s : Shared) (H : Hp) (vs : List V) (Q : VK) (E : XK), Room k (A.deeper (envOfC x scope s.heap.objs.size f cdv)) → sp vs H Q E →
      ∃ t, PSs (cxOf (L2N.CX P w) P w K mg base N x scope f cdv A outer s H E) body t ∧ t { nx := fun _ H' => Q .non H', rt := Q } (L2.start N vs) H) : OkF P w K mg base x (k + 1) ps sp := by
  obtain ⟨fd, G⟩ := F
  refine ⟨fd, G.ok S len (fun cdv A outer s H vs Q E hr h => hbody _ cdv A outer s H vs Q E hr h), ?_, G.kp, hm⟩
  obtain ⟨oc, od, dV, kV, doc, pm, an, cdv, ct, osl, rfl, lk, hcd, hd, hk⟩ := G.ex
  refine .all fun us hl => ?_
  have e : dV = .none := by
    rcases hd with ⟨_, h⟩ | ⟨h, _⟩
    · exact h
    · exact absurd rfl h
  subst e
  exact hb .none kV doc pm an cdv ct us hl
/-- a method -/
def OkM (P : Program) (w : World) (K : PySem.W.Frag) (mg : Str → Option Value) (base : Heap) (c m : Str) (k : Nat) (ps : List Str) (sp : Sp) : Prop :=
  ∃ fd, FnOk P w K mg base (L2N.CX P w) k (He.ma K (He.ga K c) m) fd ps sp ∧ Binds K fd ps [] ∧ Cls K (He.ga K c) ∧ Meth K (He.ga K c) m (He.ma K (He.ga K c) m)
theorem mkOkM {c m q : Str} {params : Arguments} {body : List Stmt} {scope : Scope} {N ps : List Str} {k : Nat} {sp : Sp} (F : ∃ fd, FunD K m q params body scope [] [] (He.fAd K (c, some m)) fd) (hc : Cls K (He.ga K c)) (hm : Meth K (He.ga K c) m (He.ma K (He.ga K c) m))
    (hb : ∀ (dV kV doc pm : Value) (an : Option Addr) (cdv ct : Value) (us : List Value), us.length = ps.length → bindArgs (PySem.W.fnOf m q params body scope .none kV doc pm an cdv ct) ⟨us, []⟩ = pure (ps.zip us))
    (S : FnScope N ps scope) (len : ∀ vs H Q E, sp vs H Q E → vs.length = ps.length)
    (hbody : ∀ (f : Addr) (cdv : Value) (A : Around) (outer : List Env) (s : Shared) (H : Hp) (vs : List V) (Q : VK) (E : XK), Room k (A.deeper (envOfC q scope s.heap.objs.size f cdv)) → sp vs H Q E →
      ∃ t, PSs (cxOf (L2N.CX P w) P w K mg base N q scope f cdv A outer s H E) body t ∧ t { nx := fun _ H' => Q .non H', rt := Q } (L2.start N vs) H) : OkM P w K mg base c m (k + 1) ps sp := by
  obtain ⟨fd, G⟩ := F
  refine ⟨fd, G.ok S len (fun cdv A outer s H vs Q E hr h => hbody _ cdv A outer s H vs Q E hr h), ?_, hc, hm⟩
  obtain ⟨oc, od, dV, kV, doc, pm, an, cdv, ct, osl, rfl, lk, hcd, hd, hk⟩ := G.ex
  refine .all fun us hl => ?_
  have e : dV = .none := by
    rcases hd with ⟨_, h⟩ | ⟨h, _⟩
    · exact h
    · exact absurd rfl h
  subst e
  exact hb .none kV doc pm an cdv ct us hl
end
section
variable {X : Cx} {x : Str} {k j : Nat} {ps : List Str} {sp : Sp} {E : XK} {p pos : Pos} {e : Expr} {es : List Expr} {t : TA}
/-- f(e, ..) -/
theorem cl (o : OkF X.prog X.w X.K X.mg X.base x k ps sp) (hr : Room j X.A) (ha : PA X (e :: es) t) (hx : Passes (L2N.CX X.prog X.w) X E := by first | exact passE | exact passN rfl rfl) (hk : k ≤ j := by decide) (hg : Gl X x := by rfl)
    (hdb : (x == ("__debug__" : Str)) = false := by decide) (he : starEach (e :: es) X.env = (false, eval e X.env) :: starEach es X.env := by rfl) (hpl : (backTo pos (starEach es X.env)).any (·.1) = false := by rfl) :
    PE X (.Call (.Name x p) (e :: es) [] pos) (tCall sp [] E t) := by
  obtain ⟨fd, F, b, kp, m⟩ := o
  exact pe_call F (hr.mono hk) hg m kp b .nil hx ha hdb he hpl
/-- a module's whole number -/
theorem pgi {i : Int} (hm : ∃ t, X.mg x = some (.int i t)) (hg : Gl X x := by rfl) (hdb : (x == ("__debug__" : Str)) = false := by decide) : PE X (.Name x p) (tC (.int i)) := by
  obtain ⟨t, h⟩ := hm
  exact pe_glob hg h ⟨t, rfl⟩ hdb
/-- raise x(e) -/
def OkE (P : Program) (w : World) (K : PySem.W.Frag) (mg : Str → Option Value) (base : Heap) (x f : Str) : Prop :=
  ErrK P K x [f] ∧ (∃ fd, FnOk P w K mg base (L2N.CX P w) 1 (eI K x) fd (two f) (spE1 (eC K x) f) ∧ Binds K fd (two f) []) ∧ mg x = some (.ref (eC K x))
theorem er1 {f : Str} {te : TE} {W : WX} {pos2 : Pos} (o : OkE X.prog X.w X.K X.mg X.base x f) (hr : Room j X.A) (tk : L2N.Takes X W) (hc : X.calm = true) (ha : PE X e te) (hk : 2 ≤ j := by decide) (hg : Gl X x := by rfl)
    (hdb : (x == ("__debug__" : Str)) = false := by decide) (he : starEach [e] X.env = (false, eval e X.env) :: starEach [] X.env := by rfl) (hpl : (backTo pos (starEach [] X.env)).any (·.1) = false := by rfl) :
    PS X (.Raise (some (.Call (.Name x p) [e] [] pos)) none pos2) (fun _ σ H => te σ H fun v H1 => ∃ i, v = .int i ∧ smallI i ∧ ∀ d, H1 d = none → W (.ref (eC X.K x)) (some d) σ (upd H1 d (.xd [(f, .int i)]))) := by
  obtain ⟨T, ⟨fd, F, b⟩, m⟩ := o
  exact ps_err1 T F b hc (hr.mono hk) (passN rfl rfl) tk hg m ha hdb he hpl
end
theorem tkE {P : Program} {w : World} {K : PySem.W.Frag} {mg : Str → Option Value} {base : Heap} {N : List Str} {q : Str} {sc : Scope} {f : Addr} {cd : Value} {A : Around} {outer : List Env} {s : Shared} {H : Hp} {E : XK} :
    L2N.Takes (cxOf (L2N.CX P w) P w K mg base N q sc f cd A outer s H E) (fun cls d _ H' => E cls d H') := L2N.takes_of rfl rfl rfl rfl
/-- an expression whose end is read for a post of one's own -/
theorem pe_mid {X : Cx} {e : Expr} {te : TE} (h : PE X e te) : PE X e (fun σ H Q => ∃ G : VK, te σ H G ∧ ∀ v H1, G v H1 → Q v H1) :=
  ⟨fun pins s σ H Q I ⟨_, h1, h2⟩ => thn (h.run pins s σ H _ I h1) fun _ _ ⟨v, H1, I1, r1, g⟩ => ⟨v, H1, I1, r1, h2 v H1 g⟩⟩
theorem passW {P : Program} {w : World} {K : PySem.W.Frag} {mg : Str → Option Value} {base : Heap} {N : List Str} {q : Str} {sc : Scope} {f : Addr} {cd : Value} {A : Around} {outer : List Env} {s : Shared} {H : Hp} {E : XK} :
    PassesOwn (model P w) (cxOf (L2N.CX P w) P w K mg base N q sc f cd A outer s H E).A (cxOf (L2N.CX P w) P w K mg base N q sc f cd A outer s H E).env (cxOf (L2N.CX P w) P w K mg base N q sc f cd A outer s H E).xe := passes_of rfl
theorem bitsI {i : Int} {m : Nat} : Builtin.Int.intBits i ≤ m ↔ i.natAbs < 2 ^ m := by
  unfold Builtin.Int.intBits
  by_cases h : i = 0
  · subst h
    simp
    exact Nat.pos_of_ne_zero (by simp)
  · have h1 : (i == 0) = false := by simpa using h
    have h2 : i.natAbs ≠ 0 := by omega
    rw [h1]
    simp only [Bool.false_eq_true, if_false]
    rw [← Nat.log2_lt h2]
    omega
theorem smallN {i : Int} {k : Nat} (h : i.natAbs < 2 ^ k) (h0 : 0 < k) (hk : k ≤ 1920) : smallI i := by
  have := PySem.Flt.log2_lt_of h0 h
  show i.natAbs.log2 < 1920
  omega
end Kt
namespace Kt
open PySem L2
abbrev nV (n : Nat) : V := .int (n : Int)
theorem bit_len {n : Nat} (h : n ≠ 0) : Builtin.Int.intBits ((n : Nat) : Int) = n.log2 + 1 := by
  unfold Builtin.Int.intBits
  have h1 : ((n : Int) == 0) = false := by simpa using h
  rw [h1]
  simp
theorem bit_len_pow (t : Nat) : Builtin.Int.intBits ((2 ^ t : Nat) : Int) = t + 1 := by
  rw [bit_len (Nat.ne_of_gt (Nat.two_pow_pos t)), Nat.log2_two_pow]
/-- & of a number and its negative -/
theorem and_neg (n : Nat) (h : 0 < n) : Builtin.bitAnd (n : Int) (-(n : Int)) = ((n - (n &&& (n - 1)) : Nat) : Int) := by
  unfold Builtin.bitAnd Builtin.bitNot
  have h1 : decide (0 ≤ (n : Int)) = true := by simp
  have h2 : decide (0 ≤ -(n : Int)) = false := by simp; omega
  rw [h1, h2]
  simp only
  have e1 : (-(-(n : Int)) - 1).toNat = n - 1 := by omega
  have e2 : ((n : Int)).toNat = n := by omega
  rw [e1, e2]
  have : n &&& (n - 1) ≤ n := Nat.and_le_left
  omega
end Kt

set_option Elab.async false
set_option linter.all false
set_option maxRecDepth 100000
set_option maxHeartbeats 2000000
namespace Kt
open PySem PySem.Spec PyProof.Rows L2 Hx Er
section
variable {K : PySem.W.Frag} {H : Hp} {p : Addr} {xs : List V} {j : Nat} {v y : V} {Q : VK}
theorem rdS (h : SqL K H p xs) (e : xs[j]? = some v) (q : Q v H) : rIxL K (.ref p) (nV j) H Q := ⟨p, xs, _, v, rfl, rfl, h, atI_nat e, q⟩
theorem rdV (h : H p = some (.lst xs)) (e : xs[j]? = some v) (q : Q v H) : rIxL K (.ref p) (nV j) H Q := rdS (SqL.of h) e q
theorem rdT (h : H p = some (.tup xs)) (e : xs[j]? = some v) (q : Q v H) : rIxT K (.ref p) (nV j) H Q := ⟨p, xs, _, v, rfl, rfl, SqT.of h, atI_nat e, q⟩
theorem rd0 (h : H p = some (.lst xs)) {i : Int} (e : atI xs i = some v) (q : Q v H) : rIxL K (.ref p) (.int i) H Q := ⟨p, xs, _, v, rfl, rfl, SqL.of h, e, q⟩
theorem wrV {G : Hp → Prop} (h : H p = some (.lst xs)) (hj : j < xs.length) (q : G (upd H p (.lst (xs.set j v)))) : rSetL (.ref p) (nV j) v H G := ⟨p, xs, _, j, rfl, rfl, h, by
  unfold ixN
  rw [if_pos (by omega), if_pos (by omega)]
  simp, q⟩
theorem apV (h : H p = some (.lst xs)) (hz : xs.length < 100000) (q : Q .non (upd H p (.lst (xs ++ [y])))) : rAppend (.ref p) [y] H Q := ⟨p, xs, y, rfl, rfl, h, by rw [sizeLine_eq]; omega, q⟩
end
theorem mget {xs : List Nat} {j : Nat} (h : j < xs.length) : (xs.map nV)[j]? = some (nV (xs.getD j 0)) := by
  rw [List.getElem?_map, List.getElem?_eq_getElem h, List.getD_eq_getElem?_getD, List.getElem?_eq_getElem h]
  rfl
theorem mset (xs : List Nat) (j v : Nat) : (xs.map nV).set j (nV v) = (xs.set j v).map nV := by rw [List.map_set]
theorem mapp (xs : List Nat) (v : Nat) : xs.map nV ++ [nV v] = (xs ++ [v]).map nV := by rw [List.map_append]; rfl
theorem getD_set {xs : List Nat} {i j v : Nat} (h : i < xs.length) : (xs.set i v).getD j 0 = if j = i then v else xs.getD j 0 := by
  rw [List.getD_eq_getElem?_getD, List.getD_eq_getElem?_getD, List.getElem?_set]
  by_cases c : i = j
  · subst c
    simp [h]
  · have : ¬ j = i := fun e => c e.symm
    simp [c, this]
theorem take_step {α : Type} {l : List α} {i : Nat} {x : α} (h : l[i]? = some x) : l.take (i + 1) = l.take i ++ [x] := by
  rw [List.take_add_one, h]
  rfl
theorem foldl_take {α β : Type} (f : β → α → β) (b : β) {l : List α} {i : Nat} {x : α} (h : l[i]? = some x) : (l.take (i + 1)).foldl f b = f ((l.take i).foldl f b) x := by
  rw [take_step h, List.foldl_append]
  rfl
theorem foldl_range {β : Type} (f : β → Nat → β) (b : β) (i : Nat) : (List.range (i + 1)).foldl f b = f ((List.range i).foldl f b) i := by
  rw [List.range_succ, List.foldl_append]
  rfl
/-- the pairs of numbers that a list of tuples tells -/
def PairsAt (H : Hp) (as : List Addr) (ps : List (Nat × Nat)) : Prop := as.length = ps.length ∧ ∀ (i : Nat) (a : Addr) (p : Nat × Nat), as[i]? = some a → ps[i]? = some p → H a = some (.tup [nV p.1, nV p.2])
theorem PairsAt.same {H H' : Hp} {as : List Addr} {ps : List (Nat × Nat)} (h : PairsAt H as ps) (s : Same H H') : PairsAt H' as ps := ⟨h.1, fun i a p h1 h2 => s _ _ (h.2 i a p h1 h2)⟩
/-- a list of such pairs stands at a -/
def LPairs (H : Hp) (a : Addr) (ps : List (Nat × Nat)) : Prop := ∃ as : List Addr, H a = some (.lst (as.map V.ref)) ∧ PairsAt H as ps
theorem LPairs.same {H H' : Hp} {a : Addr} {ps : List (Nat × Nat)} (h : LPairs H a ps) (s : Same H H') : LPairs H' a ps := by
  obtain ⟨as, h1, h2⟩ := h
  exact ⟨as, s _ _ h1, h2.same s⟩
theorem ref_get {as : List Addr} {i : Nat} {x : V} (h : (as.map V.ref)[i]? = some x) : ∃ a, as[i]? = some a ∧ x = .ref a := by
  rw [List.getElem?_map] at h
  cases e : as[i]? with
  | none => rw [e] at h; cases h
  | some a => rw [e] at h; exact ⟨a, rfl, (Option.some.inj h).symm⟩
theorem nat_get {xs : List Nat} {i : Nat} {x : V} (h : (xs.map nV)[i]? = some x) : ∃ n, xs[i]? = some n ∧ x = nV n := by
  rw [List.getElem?_map] at h
  cases e : xs[i]? with
  | none => rw [e] at h; cases h
  | some a => rw [e] at h; exact ⟨a, rfl, (Option.some.inj h).symm⟩
end Kt

set_option Elab.async false
set_option linter.all false
set_option maxRecDepth 100000
set_option maxHeartbeats 2000000
namespace Kt
open PySem PySem.Spec PyProof.Rows L2 Hx Er
/-- a statement that is not reached -/
theorem ps_no {X : Cx} {s : Stmt} : PS X s (fun _ _ _ => False) := ⟨fun _ _ _ _ _ _ h => False.elim h⟩
theorem lenV {K : PySem.W.Frag} {H : Hp} {p : Addr} {xs : List V} {Q : VK} (h : H p = some (.lst xs)) (q : Q (.int (xs.length : Int)) H) : ∃ p' ys, [V.ref p] = [V.ref p'] ∧ (SqL K H p' ys ∨ SqT K H p' ys) ∧ Q (.int (ys.length : Int)) H := ⟨p, xs, rfl, Or.inl (SqL.of h), q⟩
theorem nat_mem {xs : List Nat} {i n : Nat} (h : xs[i]? = some n) : n ∈ xs := List.mem_of_getElem? h
theorem getD_of {xs : List Nat} {i n : Nat} (h : xs[i]? = some n) : xs.getD i 0 = n := by
  rw [List.getD_eq_getElem?_getD, h]
  rfl
theorem get_of_lt {xs : List Nat} {i : Nat} (h : i < xs.length) : xs[i]? = some (xs.getD i 0) := by
  rw [List.getD_eq_getElem?_getD, List.getElem?_eq_getElem h]
  rfl
theorem nw_ne {H H' H2 : Hp} {l p : Addr} {o u : HO} (a : Nw H H' l o) (b : Nw H' H2 p u) : p ≠ l := fun e => by
  have h1 := b.no
  rw [e, a.at_] at h1
  cases h1
end Kt

set_option Elab.async false
set_option linter.all false
set_option maxRecDepth 100000
set_option maxHeartbeats 2000000
namespace Kt
open PySem PySem.Spec PyProof.Rows L2 Hx Er
theorem tnil {σ : L2.St} {H : Hp} {G : List V → Hp → Prop} (h : G [] H) : tNil σ H G := h
theorem putL {f : Str} {v : V} {fs : List (Str × V)} {j : Nat} (h : fs.length ≤ j) : (putF f v fs).length ≤ j + 1 := Nat.le_trans (length_putF f v fs) (Nat.succ_le_succ h)
theorem tc {v : V} {σ : L2.St} {H : Hp} {Q : VK} (h : Q v H) : tC v σ H Q := h
theorem vz {n : Nat} : nV n = V.int 0 ↔ n = 0 := by
  constructor
  · intro h
    have := V.int.inj h
    omega
  · intro h
    rw [h]
    rfl
/-- a property's getter -/
def OkP (P : Program) (w : World) (K : PySem.W.Frag) (mg : Str → Option Value) (base : Heap) (c f : Str) (k : Nat) (sp : Sp) : Prop :=
  ∃ fd, FnOk P w K mg base (L2N.CX P w) k (gA K c f) fd ["self"] sp ∧ Binds K fd ["self"] [] ∧ Cls K (He.ga K c) ∧ PropOf K (He.ga K c) f (pA K c f) (gA K c f)
theorem mkOkP {P : Program} {w : World} {K : PySem.W.Frag} {mg : Str → Option Value} {base : Heap} {c f q : Str} {params : Arguments} {body : List Stmt} {scope : Scope} {N : List Str} {k : Nat} {sp : Sp} (hP : PropOf K (He.ga K c) f (pA K c f) (gA K c f)) (hc : Cls K (He.ga K c))
    (L : ∃ oc od osl doc pm an cdv ct, K.lookup (gA K c f) = some ⟨oc, od, .func (PySem.W.fnOf f q params body scope .none .none doc pm an cdv ct), osl⟩ ∧ PySem.W.codeIn K cdv q = true)
    (hb : ∀ (doc pm : Value) (an : Option Addr) (cdv ct : Value) (us : List Value), us.length = 1 → bindArgs (PySem.W.fnOf f q params body scope .none .none doc pm an cdv ct) ⟨us, []⟩ = pure ((["self"] : List Str).zip us))
    (S : FnScope N ["self"] scope) (len : ∀ vs H Q E, sp vs H Q E → vs.length = 1)
    (hbody : ∀ (f2 : Addr) (cdv : Value) (A : Around) (outer : List Env) (s : Shared) (H : Hp) (vs : List V) (Q : VK) (E : XK), Room k (A.deeper (envOfC q scope s.heap.objs.size f2 cdv)) → sp vs H Q E →
      ∃ t, PSs (cxOf (L2N.CX P w) P w K mg base N q scope f2 cdv A outer s H E) body t ∧ t { nx := fun _ H' => Q .non H', rt := Q } (L2.start N vs) H) : OkP P w K mg base c f (k + 1) sp := by
  obtain ⟨oc, od, osl, doc, pm, an, cdv, ct, lk, hcd⟩ := L
  refine ⟨_, fn_of lk hcd S len (fun A outer s H vs Q E hr h => hbody _ _ A outer s H vs Q E hr h), .all fun us hl => hb _ _ _ _ _ us hl, hc, hP⟩
section
variable {X : Cx} {k j : Nat} {ps : List Str} {sp : Sp} {c f m : Str} {e : Expr} {es : List Expr} {ta : TE} {t : TA} {pos apos : Pos} {E : XK}
theorem clp (o : OkP X.prog X.w X.K X.mg X.base c f k sp) (hr : Room j X.A) (he : PE X e ta) (hk : k + 1 ≤ j := by decide) (hab : attributeBase e f X.env (eval e X.env) = eval e X.env := by rfl) :
    PE X (.Attribute e f pos) (tProp (He.ga X.K c) sp [] E0 ta) := by
  obtain ⟨fd, F, b, hc, hp⟩ := o
  exact pe_prop he hc hp F (hr.mono hk) b .nil (passN rfl rfl) hab
/-- o.m(e, ..) -/
theorem clm {ob : Expr} (o : OkM X.prog X.w X.K X.mg X.base c m k ps sp) (hr : Room j X.A) (he : PE X ob ta) (ha : PA X (e :: es) t) (hx : Passes (L2N.CX X.prog X.w) X E := by first | exact passE | exact passN rfl rfl) (hk : k ≤ j := by decide)
    (hst : starEach (e :: es) X.env = (false, eval e X.env) :: starEach es X.env := by rfl) (hpl : (backTo pos (starEach es X.env)).any (·.1) = false := by rfl)
    {pl : Sem Bool} (ht : eval (.Call (.Attribute ob m apos) (e :: es) [] pos) X.env = (do
      let ov ← eval ob X.env
      standAt apos.atName
      let (f, first) ← holding [ov] (getMethod ov m pl)
      callWith pos f first (backTo pos (starEach (e :: es) X.env)) (backToKw pos (keywordEach [] X.env))) := by rfl) : PE X (.Call (.Attribute ob m apos) (e :: es) [] pos) (tMeth (He.ga X.K c) m sp [] E ta t) := by
  obtain ⟨fd, F, b, hc, hm⟩ := o
  exact pe_meth he hc hm F (hr.mono hk) b .nil hx ha hst hpl ht
/-- C(e, ..) of an own class -/
def OkMk (P : Program) (w : World) (K : PySem.W.Frag) (mg : Str → Option Value) (base : Heap) (c : Str) (k : Nat) (ps : List Str) (sp : Sp) : Prop :=
  ∃ fd, FnOk P w K mg base (L2N.CX P w) k (He.ma K (He.ga K c) "__init__") fd ps sp ∧ Binds K fd ps [] ∧ Mk K (He.ga K c) (He.ma K (He.ga K c) "__init__") ∧ mg c = some (.ref (He.ga K c))
theorem mkOkMk {P : Program} {w : World} {K : PySem.W.Frag} {mg : Str → Option Value} {base : Heap} {c q : Str} {params : Arguments} {body : List Stmt} {scope : Scope} {N ps : List Str} {k : Nat} {sp : Sp} (F : ∃ fd, FunD K "__init__" q params body scope [] [] (He.fAd K (c, some "__init__")) fd)
    (M : Mk K (He.ga K c) (He.ma K (He.ga K c) "__init__")) (hg : mg c = some (.ref (He.ga K c)))
    (hb : ∀ (dV kV doc pm : Value) (an : Option Addr) (cdv ct : Value) (us : List Value), us.length = ps.length → bindArgs (PySem.W.fnOf "__init__" q params body scope .none kV doc pm an cdv ct) ⟨us, []⟩ = pure (ps.zip us))
    (S : FnScope N ps scope) (len : ∀ vs H Q E, sp vs H Q E → vs.length = ps.length)
    (hbody : ∀ (f : Addr) (cdv : Value) (A : Around) (outer : List Env) (s : Shared) (H : Hp) (vs : List V) (Q : VK) (E : XK), Room k (A.deeper (envOfC q scope s.heap.objs.size f cdv)) → sp vs H Q E →
      ∃ t, PSs (cxOf (L2N.CX P w) P w K mg base N q scope f cdv A outer s H E) body t ∧ t { nx := fun _ H' => Q .non H', rt := Q } (L2.start N vs) H) : OkMk P w K mg base c (k + 1) ps sp := by
  obtain ⟨fd, G⟩ := F
  refine ⟨fd, G.ok S len (fun cdv A outer s H vs Q E hr h => hbody _ cdv A outer s H vs Q E hr h), ?_, M, hg⟩
  obtain ⟨oc, od, dV, kV, doc, pm, an, cdv, ct, osl, rfl, lk, hcd, hd, hk⟩ := G.ex
  refine .all fun us hl => ?_
  have e : dV = .none := by
    rcases hd with ⟨_, h⟩ | ⟨h, _⟩
    · exact h
    · exact absurd rfl h
  subst e
  exact hb .none kV doc pm an cdv ct us hl
theorem clk {p : Pos} (o : OkMk X.prog X.w X.K X.mg X.base c k ps sp) (hr : Room j X.A) (ha : PA X (e :: es) t) (hx : Passes (L2N.CX X.prog X.w) X E := by first | exact passE | exact passN rfl rfl) (hk : k + 1 ≤ j := by decide) (hg : Gl X c := by rfl)
    (hdb : (c == ("__debug__" : Str)) = false := by decide) (he : starEach (e :: es) X.env = (false, eval e X.env) :: starEach es X.env := by rfl) (hpl : (backTo pos (starEach es X.env)).any (·.1) = false := by rfl) :
    PE X (.Call (.Name c p) (e :: es) [] pos) (tMake (He.ga X.K c) sp [] E t) := by
  obtain ⟨fd, F, b, M, hm⟩ := o
  exact pe_make M F (hr.mono hk) hg hm b .nil hx ha hdb he hpl
end
end Kt

set_option Elab.async false
set_option linter.all false
set_option maxRecDepth 100000
set_option maxHeartbeats 2000000
namespace Kt
open PySem PySem.Spec PyProof.Rows L2 Hx Er
/-- a statement, then the rest, with a fact of one's own between the two -/
theorem pss_cut {X : Cx} {st : Stmt} {rest : List Stmt} {t u : TS} (h1 : PS X st t) (h2 : PSs X rest u) : PSs X (st :: rest) (fun D σ H => ∃ P : L2.St → Hp → Prop, t { D with nx := P } σ H ∧ ∀ σ' H', P σ' H' → u D σ' H') := by
  refine ⟨fun pins s σ H D I h => ?_⟩
  obtain ⟨P, h, k⟩ := h
  refine wpAny_execs_cons (thn (h1.run pins s σ H { D with nx := P } I h) fun f s1 q => ?_)
  cases f with
  | next =>
    obtain ⟨σ', H', I', q⟩ := q
    exact h2.run pins s1 σ' H' D I' (k σ' H' q)
  | ret v => exact q
  | brk => exact q
  | cont => exact q
/-- an expression, with a fact of one's own on its value -/
theorem pe_cut {X : Cx} {e : Expr} {te : TE} (h : PE X e te) : PE X e (fun σ H Q => ∃ G : VK, te σ H G ∧ ∀ v H1, G v H1 → Q v H1) := pe_mid h
/-! ## the store of draws -/
structure Sto where
  s : Addr
  c : Addr
  ns : List Int
def StA (t : Sto) (H : Hp) : Prop := t.ns.length ≤ 63 ∧ H t.c = some (.lst (t.ns.map V.int)) ∧ ∃ (p : Nat) (x y z u : Int), H t.s = some (.lst [.ref t.c, nV p, .int x, .int y, .int z, .int u]) ∧ p ≤ t.ns.length ∧ (0 < y → 0 < p)
def Wl (t : Sto) (H H' : Hp) : Prop := (∀ b o, b ≠ t.s → H b = some o → H' b = some o) ∧ StA t H'
theorem StA.same {t : Sto} {H H' : Hp} (a : StA t H) (s : Same H H') : StA t H' := by
  obtain ⟨h0, h1, p, x, y, z, u, h2, h3⟩ := a
  exact ⟨h0, s _ _ h1, p, x, y, z, u, s _ _ h2, h3⟩
theorem Wl.trans {t : Sto} {H H1 H2 : Hp} (a : Wl t H H1) (b : Wl t H1 H2) : Wl t H H2 := ⟨fun q o h e => b.1 q o h (a.1 q o h e), b.2⟩
theorem Wl.refl {t : Sto} {H : Hp} (a : StA t H) : Wl t H H := ⟨fun _ _ _ h => h, a⟩
theorem Wl.of {t : Sto} {H H' : Hp} (a : StA t H) (s : Same H H') : Wl t H H' := ⟨fun q o _ e => s q o e, a.same s⟩
theorem Wl.free {t : Sto} {H H' : Hp} {q : Addr} (w : Wl t H H') (h : H' q = none) : H q = none := by
  cases e : H q with
  | none => rfl
  | some o =>
    by_cases c : q = t.s
    · obtain ⟨_, _, _, _, _, _, _, h2, _⟩ := w.2
      rw [c, h2] at h
      cases h
    · rw [w.1 q o c e] at h
      cases h
theorem StA.ne {t : Sto} {H : Hp} {l : Addr} (a : StA t H) (h : H l = none) : l ≠ t.s ∧ l ≠ t.c := by
  obtain ⟨h0, h1, p, x, y, z, u, h2, h3⟩ := a
  constructor
  · intro e
    rw [e, h2] at h
    cases h
  · intro e
    rw [e, h1] at h
    cases h
theorem StA.upd {t : Sto} {H H' : Hp} {l : Addr} {o : HO} (a : StA t H) (h : H l = none) (b : StA t H') : StA t (upd H' l o) := by
  obtain ⟨n1, n2⟩ := a.ne h
  obtain ⟨h0, h1, p, x, y, z, u, h2, h3⟩ := b
  exact ⟨h0, by rw [upd_ne (fun e => n2 e.symm)]; exact h1, p, x, y, z, u, by rw [upd_ne (fun e => n1 e.symm)]; exact h2, h3⟩
/-- a new object over H, the store drawn from -/
structure Nx (t : Sto) (H H' : Hp) (l : Addr) (o : HO) : Prop where
  no : H l = none
  wl : Wl t H H'
  at_ : H' l = some o
theorem Nx.mk0 {t : Sto} {H : Hp} {l : Addr} {o : HO} (a : StA t H) (h : H l = none) : Nx t H (upd H l o) l o := ⟨h, Wl.of a (same_new h), upd_same⟩
theorem Nx.of {t : Sto} {H H' : Hp} {l : Addr} {o : HO} (a : StA t H) (n : Nw H H' l o) : Nx t H H' l o := ⟨n.no, Wl.of a n.same, n.at_⟩
theorem Nx.put {t : Sto} {H H' : Hp} {l : Addr} {o u : HO} (a : StA t H) (n : Nx t H H' l o) : Nx t H (upd H' l u) l u :=
  ⟨n.no, ⟨fun b q hb e => by rw [upd_ne (ne_of_none e n.no)]; exact n.wl.1 b q hb e, a.upd n.no n.wl.2⟩, upd_same⟩
theorem Nx.more {t : Sto} {H H' H2 : Hp} {l : Addr} {o : HO} (a : StA t H) (n : Nx t H H' l o) (w : Wl t H' H2) : Nx t H H2 l o := ⟨n.no, n.wl.trans w, w.1 _ _ (a.ne n.no).1 n.at_⟩
theorem Nx.keep {t : Sto} {H H' : Hp} {l : Addr} {o : HO} (n : Nx t H H' l o) {b : Addr} {q : HO} (hb : b ≠ t.s) (e : H b = some q) : H' b = some q := n.wl.1 b q hb e
theorem Nx.back {t : Sto} {H0 H H' : Hp} {l : Addr} {o : HO} (w : Wl t H0 H) (n : Nx t H H' l o) : Nx t H0 H' l o := ⟨w.free n.no, w.trans n.wl, n.at_⟩
/-- numbers from nought of a remainder -/
theorem emodN (a : Int) {b : Nat} (h : 0 < b) : ∃ r : Nat, a % (b : Int) = (r : Int) ∧ r < b := by
  have h1 := Int.emod_nonneg a (show (b : Int) ≠ 0 by omega)
  have h2 := Int.emod_lt_of_pos a (show (0 : Int) < (b : Int) by omega)
  exact ⟨(a % (b : Int)).toNat, by omega, by omega⟩
end Kt
namespace Kt
open PySem PySem.Spec PyProof.Rows L2 Hx Er
theorem StA.cne {t : Sto} {H : Hp} (a : StA t H) : t.c ≠ t.s := fun e => by
  obtain ⟨h0, h1, p, x, y, z, u, h2, h3⟩ := a
  rw [e, h2] at h1
  have := HO.lst.inj (Option.some.inj h1)
  cases hn : t.ns with
  | nil => rw [hn] at this; cases this
  | cons q r => rw [hn] at this; cases this
theorem Wl.wr {t : Sto} {H H1 : Hp} (w : Wl t H H1) {p : Nat} {x y z u : Int} (hp : p ≤ t.ns.length) (hy : 0 < y → 0 < p) : Wl t H (upd H1 t.s (.lst [.ref t.c, nV p, .int x, .int y, .int z, .int u])) := by
  have n := w.2.cne
  obtain ⟨h0, h1, _⟩ := w.2
  exact ⟨fun b o hb e => by rw [upd_ne hb]; exact w.1 b o hb e, h0, by rw [upd_ne n]; exact h1, p, x, y, z, u, upd_same, hp, hy⟩
end Kt
namespace Kt
open PySem PySem.Spec PyProof.Rows L2 Hx Er
theorem perm_map_inv {α β : Type} {f : α → β} {ys zs : List β} (h : ys.Perm zs) : ∀ xs : List α, zs = xs.map f → ∃ ws : List α, ys = ws.map f ∧ ws.Perm xs := by
  induction h with
  | nil =>
    intro xs e
    cases xs with
    | nil => exact ⟨[], rfl, .nil⟩
    | cons x r => cases e
  | cons x _ ih =>
    intro xs e
    cases xs with
    | nil => cases e
    | cons z r =>
      rw [List.map_cons] at e
      obtain ⟨e1, e2⟩ := List.cons.inj e
      obtain ⟨ws, e3, p⟩ := ih r e2
      exact ⟨z :: ws, by rw [List.map_cons, e1, e3], p.cons z⟩
  | swap x y l =>
    intro xs e
    match xs, e with
    | [], e => cases e
    | [_], e => cases e
    | a :: b :: r, e =>
      rw [List.map_cons, List.map_cons] at e
      obtain ⟨e1, e2⟩ := List.cons.inj e
      obtain ⟨e3, e4⟩ := List.cons.inj e2
      exact ⟨b :: a :: r, by rw [List.map_cons, List.map_cons, e1, e3, e4], .swap a b r⟩
  | trans _ _ ih1 ih2 =>
    intro xs e
    obtain ⟨ws, e1, p1⟩ := ih2 xs e
    obtain ⟨us, e2, p2⟩ := ih1 ws e1
    exact ⟨us, e2, p2.trans p1⟩
/-- what the draws leave as it is -/
def notSto : HO → Bool
  | .lst (.ref _ :: .int _ :: _) => false
  | _ => true
theorem Wl.keep {t : Sto} {H H' : Hp} (a : StA t H) (w : Wl t H H') {b : Addr} {o : HO} (h : notSto o = true) (e : H b = some o) : H' b = some o := by
  refine w.1 b o (fun c => ?_) e
  obtain ⟨_, _, p, x, y, z, u, h2, _⟩ := a
  rw [c, h2] at e
  rw [← Option.some.inj e] at h
  cases h
theorem notSto_refs (as : List Addr) : notSto (.lst (as.map V.ref)) = true := by
  match as with
  | [] => rfl
  | [_] => rfl
  | _ :: _ :: _ => rfl
theorem notSto_nats (as : List Nat) : notSto (.lst (as.map nV)) = true := by
  match as with
  | [] => rfl
  | _ :: _ => rfl
theorem notSto_ints (as : List Int) : notSto (.lst (as.map V.int)) = true := by
  match as with
  | [] => rfl
  | _ :: _ => rfl
theorem PairsAt.mono {G G' : Hp} {as : List Addr} {ps : List (Nat × Nat)} (h : PairsAt G as ps) (m : ∀ a xs, G a = some (.tup xs) → G' a = some (.tup xs)) : PairsAt G' as ps := ⟨h.1, fun i a p h1 h2 => m _ _ (h.2 i a p h1 h2)⟩
theorem PairsAt.snoc {G : Hp} {as : List Addr} {ps : List (Nat × Nat)} (h : PairsAt G as ps) {a : Addr} {p : Nat × Nat} (e : G a = some (.tup [nV p.1, nV p.2])) : PairsAt G (as ++ [a]) (ps ++ [p]) := by
  refine ⟨by rw [List.length_append, List.length_append, h.1]; rfl, fun i b q h1 h2 => ?_⟩
  rcases Nat.lt_or_ge i as.length with c | c
  · rw [List.getElem?_append_left c] at h1
    rw [List.getElem?_append_left (h.1 ▸ c)] at h2
    exact h.2 i b q h1 h2
  · rw [List.getElem?_append_right c] at h1
    rw [List.getElem?_append_right (h.1 ▸ c), ← h.1] at h2
    match hk : i - as.length with
    | 0 =>
      rw [hk] at h1 h2
      obtain rfl := Option.some.inj h1
      obtain rfl := Option.some.inj h2
      exact e
    | k + 1 =>
      rw [hk] at h1
      cases h1
theorem Wl.tup {t : Sto} {H H' : Hp} (a : StA t H) (w : Wl t H H') : ∀ b xs, H b = some (.tup xs) → H' b = some (.tup xs) := fun _ _ e => w.keep a rfl e
theorem upd_tup {G : Hp} {l : Addr} {ys : List V} {o : HO} (hl : G l = some (.lst ys)) : ∀ b xs, G b = some (.tup xs) → upd G l o b = some (.tup xs) := fun b xs e => by
  rw [upd_ne (fun c => by rw [c, hl] at e; cases e)]
  exact e
/-- pairs in another order -/
theorem PairsAt.perm {G : Hp} {as bs : List Addr} (h : bs.Perm as) : ∀ {ps : List (Nat × Nat)}, PairsAt G as ps → ∃ qs, qs.Perm ps ∧ PairsAt G bs qs := by
  intro ps hp
  have hz : (as.zip ps).map (·.1) = as := List.map_fst_zip (by rw [hp.1]; exact Nat.le_refl _)
  have hz2 : (as.zip ps).map (·.2) = ps := List.map_snd_zip (by rw [hp.1]; exact Nat.le_refl _)
  obtain ⟨ws, e1, pm⟩ := perm_map_inv h (as.zip ps) hz.symm
  refine ⟨ws.map (·.2), ?_, ?_⟩
  · have := pm.map (·.2)
    rw [hz2] at this
    exact this
  · refine ⟨by rw [e1, List.length_map, List.length_map], fun i b q h1 h2 => ?_⟩
    rw [e1, List.getElem?_map] at h1
    rw [List.getElem?_map] at h2
    cases hw : ws[i]? with
    | none => rw [hw] at h1; cases h1
    | some x =>
      rw [hw] at h1 h2
      obtain rfl := Option.some.inj h1
      obtain rfl := Option.some.inj h2
      have hm : x ∈ as.zip ps := pm.mem_iff.mp (List.mem_of_getElem? hw)
      obtain ⟨j, hj⟩ := List.getElem?_of_mem hm
      rw [List.getElem?_zip_eq_some] at hj
      exact hp.2 j x.1 x.2 hj.1 hj.2
end Kt
namespace Kt
open PySem PySem.Spec PyProof.Rows L2 Hx Er
/-- two lists, item by item -/
def Al2 {α β : Type} (R : α → β → Prop) (as : List α) (bs : List β) : Prop := as.length = bs.length ∧ ∀ (i : Nat) a b, as[i]? = some a → bs[i]? = some b → R a b
theorem Al2.nil {α β : Type} {R : α → β → Prop} : Al2 R [] [] := ⟨rfl, fun _ _ _ h => nomatch h⟩
theorem Al2.mono {α β : Type} {R S : α → β → Prop} {as : List α} {bs : List β} (h : Al2 R as bs) (m : ∀ a b, R a b → S a b) : Al2 S as bs := ⟨h.1, fun i a b h1 h2 => m _ _ (h.2 i a b h1 h2)⟩
theorem Al2.snoc {α β : Type} {R : α → β → Prop} {as : List α} {ps : List β} (h : Al2 R as ps) {a : α} {p : β} (e : R a p) : Al2 R (as ++ [a]) (ps ++ [p]) := by
  refine ⟨by rw [List.length_append, List.length_append, h.1]; rfl, fun i b q h1 h2 => ?_⟩
  rcases Nat.lt_or_ge i as.length with c | c
  · rw [List.getElem?_append_left c] at h1
    rw [List.getElem?_append_left (h.1 ▸ c)] at h2
    exact h.2 i b q h1 h2
  · rw [List.getElem?_append_right c] at h1
    rw [List.getElem?_append_right (h.1 ▸ c), ← h.1] at h2
    match hk : i - as.length with
    | 0 =>
      rw [hk] at h1 h2
      obtain rfl := Option.some.inj h1
      obtain rfl := Option.some.inj h2
      exact e
    | k + 1 =>
      rw [hk] at h1
      cases h1
end Kt

set_option Elab.async false
set_option linter.all false
set_option maxRecDepth 100000
set_option maxHeartbeats 2000000
namespace Kt
open PySem PySem.Spec PyProof.Rows L2 Hx Er
theorem rep_cps (a : Array Nat) (n : Nat) : ((List.replicate n a).foldl (· ++ ·) #[]).toList = (List.replicate n a.toList).flatten := by
  have h : ∀ (n : Nat) (b : Array Nat), ((List.replicate n a).foldl (· ++ ·) b).toList = b.toList ++ (List.replicate n a.toList).flatten := by
    intro n
    induction n with
    | zero => intro b; simp
    | succ n ih =>
      intro b
      rw [List.replicate_succ, List.foldl_cons, ih, List.replicate_succ, List.flatten_cons, Array.toList_append, List.append_assoc]
  rw [h]
  rfl
theorem rep_one (n : Nat) (c : Nat) : (List.replicate n [c]).flatten = List.replicate n c := by
  induction n with
  | zero => rfl
  | succ n ih => rw [List.replicate_succ, List.flatten_cons, ih, List.replicate_succ]; rfl
/-- a text of one sign, k times -/
theorem op_mul0 {X : Cx} : OpR X (binaryOp .Mult) (fun x y H Q => ∃ (a : Str) (c k : Nat), x = .str a ∧ y = .int (k : Int) ∧ a.cps = #[c] ∧ k ≤ 10000 ∧ ∀ z : Str, z.cps.toList = List.replicate k c → Q (.str z) H) := by
  intro pins s σ H x y v u Q I rx ry h
  obtain ⟨a, c, k, rfl, rfl, ha, hk, q⟩ := h
  obtain ⟨t, rfl⟩ := rx
  obtain ⟨t', rfl⟩ := ry
  have hl : a.length = 1 := by
    show a.cps.size = 1
    rw [ha]
    rfl
  refine P.mul_str (x := a) (n := (k : Int)) ?_ (fun h1 h2 => ?_) (fun h1 h2 => ?_) ?_
  · have e1 : ¬ ((k : Int) < -(2 ^ 63 : Int)) := by omega
    have e2 : ¬ ((k : Int) ≥ 2 ^ 63) := by omega
    rw [decide_eq_false e1, decide_eq_false e2]
    rfl
  · rw [hl]
    have hd : (2 ^ 63 - 1 : Int) / (k : Int) ≥ 1 := by
      rw [ge_iff_le, Int.le_ediv_iff_mul_le (by omega)]
      omega
    omega
  · rw [hl]
    show decide (1 * ((k : Int)).toNat > sizeLine) = false
    rw [decide_eq_false_iff_not, sizeLine_eq]
    omega
  · by_cases h1 : (k : Int) < 1
    · rw [if_pos h1]
      have k0 : k = 0 := by omega
      exact ⟨by decide, .str Str.empty, H, I.tok _, ⟨_, rfl⟩, q Str.empty (by rw [k0]; rfl)⟩
    · rw [if_neg h1]
      by_cases h2 : ((k : Int) == 1 || a.length == 0) = true
      · rw [if_pos h2]
        have k1 : k = 1 := by
          rw [hl] at h2
          simp at h2
          omega
        exact ⟨.str a, H, I, ⟨_, rfl⟩, q a (by rw [k1, ha]; rfl)⟩
      · rw [if_neg h2]
        have e : (⟨(List.replicate ((k : Int)).toNat a.cps).foldl (· ++ ·) #[]⟩ : Str).cps.toList = List.replicate k c := by
          show ((List.replicate ((k : Int)).toNat a.cps).foldl (· ++ ·) #[]).toList = _
          rw [rep_cps, ha]
          show (List.replicate ((k : Int)).toNat [c]).flatten = _
          rw [rep_one]
          rfl
        refine ⟨?_, .str _, H, I.tok _, ⟨_, rfl⟩, q _ e⟩
        have hz := congrArg List.length e
        rw [List.length_replicate, Array.length_toList] at hz
        show Array.size _ ≤ _
        rw [hz, sizeLine_eq]
        omega
theorem digits_zero (k : Nat) : ∀ m : Nat, (List.replicate k 48).foldl (fun acc c => acc * 10 + (c - 48)) m = m * 10 ^ k := by
  induction k with
  | zero => intro m; simp
  | succ k ih =>
    intro m
    rw [List.replicate_succ, List.foldl_cons, ih, Nat.pow_succ]
    show (m * 10 + 0) * 10 ^ k = _
    rw [Nat.add_zero, Nat.mul_assoc, Nat.mul_comm 10]
/-- int("1" + "0" * k) -/
theorem int_far {z : Str} {k : Nat} (hz : z.cps.toList = 49 :: List.replicate k 48) (hk : k ≤ 600) : PySem.intText? z = some ((10 ^ k : Nat) : Int) ∧ z.length ≤ 640 := by
  have hl : z.length = k + 1 := by
    show z.cps.size = _
    rw [← Array.length_toList, hz, List.length_cons, List.length_replicate]
  refine ⟨?_, by omega⟩
  rw [PySem.intText_digits ?_ ?_ (by omega)]
  · congr 2
    rw [hz]
    show List.foldl (fun (acc c : Nat) => acc * 10 + (c - 48)) 0 (49 :: List.replicate k 48) = _
    rw [List.foldl_cons, digits_zero]
    simp
  · rw [hz]
    intro c hc
    rcases List.mem_cons.mp hc with h | h
    · omega
    · have := (List.mem_replicate.mp h).2
      omega
  · rw [hz]
    exact List.cons_ne_nil _ _
end Kt
namespace Kt
open PySem PySem.Spec PyProof.Rows L2 Hx Er
/-- a module's def keeps its promise; its code object is known -/
theorem mkOkT {P : Program} {w : World} {K : PySem.W.Frag} {mg : Str → Option Value} {base : Heap} {x : Str} {params : Arguments} {body : List Stmt} {scope : Scope} {N ps : List Str} {k : Nat} {sp : Sp} (F : ∃ fd, FunD K x x params body scope [] [] (He.fAd K (x, none)) fd) (hm : mg x = some (.ref (He.ga K x)))
    (hb : ∀ (dV kV doc pm : Value) (an : Option Addr) (cdv ct : Value) (us : List Value), us.length = ps.length → bindArgs (PySem.W.fnOf x x params body scope .none kV doc pm an cdv ct) ⟨us, []⟩ = pure (ps.zip us))
    (S : FnScope N ps scope) (len : ∀ vs H Q E, sp vs H Q E → vs.length = ps.length)
    (hbody : ∀ (f : Addr) (A : Around) (outer : List Env) (s : Shared) (H : Hp) (vs : List V) (Q : VK) (E : XK), Room k (A.deeper (envOfC x scope s.heap.objs.size f (.ref (He.cT K (x, none)).1))) → sp vs H Q E →
      ∃ t, PSs (cxOf (L2N.CX P w) P w K mg base N x scope f (.ref (He.cT K (x, none)).1) A outer s H E) body t ∧ t { nx := fun _ H' => Q .non H', rt := Q } (L2.start N vs) H) : OkF P w K mg base x (k + 1) ps sp := by
  obtain ⟨fd, G⟩ := F
  obtain ⟨oc, od, dV, kV, doc, pm, an, cdv, ct, osl, rfl, lk, hcd, hd, hk⟩ := G.ex
  obtain ⟨c, rfl⟩ := He.codeIn_ref hcd
  have hc : He.codeOf K (x, none) = c := He.codeOf_eq lk rfl
  subst hc
  refine ⟨_, fn_of lk hcd S len (fun A outer s H vs Q E hr h => hbody _ A outer s H vs Q E hr h), ?_, G.kp, hm⟩
  refine .all fun us hl => ?_
  have e : dV = .none := by
    rcases hd with ⟨_, h⟩ | ⟨h, _⟩
    · exact h
    · exact absurd rfl h
  subst e
  exact hb .none kV doc pm an _ ct us hl
theorem passL {X : Cx} {A : Around} {outer : List Env} {s : Shared} {H : Hp} {E : XK} {sc : Scope} {f c : Addr} : Passes (L2N.CX X.prog X.w) (Lg.lamC (L2N.CX X.prog X.w) X A outer s H E sc f c) E := L2N.passes_call (L2N.takes_of rfl rfl rfl rfl) fun _ _ _ _ h => h
theorem FnP_or {P : Program} {w : World} {K : PySem.W.Frag} {mg : Str → Option Value} {base : Heap} {CX : CXT} {k : Nat} {f : Addr} {fd : FuncData} {ps : List Str} {s1 s2 : Addr → Value → Option Addr → Sp} (F1 : FnP P w K mg base CX k f fd ps s1) (F2 : FnP P w K mg base CX k f fd ps s2) :
    FnP P w K mg base CX k f fd ps (fun a c d vs H Q E => s1 a c d vs H Q E ∨ s2 a c d vs H Q E) :=
  ⟨fun a c d vs H Q E h => h.elim (F1.len a c d vs H Q E) (F2.len a c d vs H Q E), fun A outer s H args us vs Q E p c d h1 h2 h3 h4 h5 h6 h7 h8 => h8.elim (F1.run A outer s H args us vs Q E p c d h1 h2 h3 h4 h5 h6 h7) (F2.run A outer s H args us vs Q E p c d h1 h2 h3 h4 h5 h6 h7)⟩
end Kt

set_option Elab.async false
set_option linter.all false
set_option maxRecDepth 100000
set_option maxHeartbeats 2000000
namespace Kt
open PySem PySem.Spec PyProof.Rows L2 Hx Er
def pd1 (p : Nat × Nat) : PyData := .tuple [.int (p.1 : Int), .int (p.2 : Int)]
def pd (ps : List (Nat × Nat)) : PyData := .list (ps.map pd1)
theorem pd_can : ∀ ps : List (Nat × Nat), PyData.canLayAll0 (ps.map pd1) = true
  | [] => rfl
  | p :: r => by simp [PyData.canLayAll0, PyData.canLay0, pd1, pd_can r]
theorem pd_depth : ∀ ps : List (Nat × Nat), PyData.depthAll (ps.map pd1) ≤ 1
  | [] => by simp [PyData.depthAll]
  | p :: r => by
    have := pd_depth r
    simp [PyData.depthAll, PyData.depth, pd1]
    omega
theorem pd_shaped (ps : List (Nat × Nat)) : SeqAt.shaped (pd ps) = true := by
  have := pd_depth ps
  have e : SeqAt.shaped (pd ps) = (PyData.canLayAll0 (ps.map pd1) && decide (PyData.depthAll (ps.map pd1) + 1 ≤ 64)) := by
    unfold SeqAt.shaped pd
    simp only [PyData.canLay0, PyData.depth]
    rfl
  rw [e, pd_can]
  exact decide_eq_true (by omega)
theorem pd_eq : ∀ ps : List (Nat × Nat), PyData.eqvAll (ps.map pd1) (ps.map pd1) = true
  | [] => by simp [PyData.eqvAll]
  | p :: r => by simp [PyData.eqvAll, PyData.eqv, pd1, pd_eq r]
theorem pd_eqv (ps : List (Nat × Nat)) : PyData.eqv (pd ps) (pd ps) = true := by
  unfold pd
  simp only [PyData.eqv, pd_eq]
theorem dp_all {K : PySem.W.Frag} {H : Hp} : ∀ (as : List Addr) (ps : List (Nat × Nat)), PairsAt H as ps → DpAll K H (as.map V.ref) (ps.map pd1)
  | [], [], _ => .nil
  | [], _ :: _, h => by cases h.1
  | _ :: _, [], h => by cases h.1
  | a :: as, p :: ps, h => .cons (.tup (SqT.of (h.2 0 a p rfl rfl)) (.cons (.int _) (.cons (.int _) .nil))) (dp_all as ps ⟨by simpa using h.1, fun i b q h1 h2 => h.2 (i + 1) b q (by simpa using h1) (by simpa using h2)⟩)
end Kt

set_option Elab.async false
set_option linter.all false
set_option maxRecDepth 100000
set_option maxHeartbeats 2000000
namespace Q
open PySem PySem.Spec PyProof.Rows L2 Hx Er Kt
def topS (i : Nat) : Stmt := PySem.Challenge.pw_onecodestands_k69_codes_in_the_middle.main.body.getD i (.Pass ⟨0, 0, 0, 0⟩)
abbrev s_wall : Stmt := topS 0
abbrev s_BadOrder___init__ : Stmt := inClass (topS 3) 0
abbrev s_BadLot___init__ : Stmt := inClass (topS 4) 0
abbrev s_NoLine___init__ : Stmt := inClass (topS 5) 0
abbrev s_NoStation___init__ : Stmt := inClass (topS 6) 0
abbrev s_NoDrive___init__ : Stmt := inClass (topS 7) 0
abbrev s_TwiceCode___init__ : Stmt := inClass (topS 8) 0
abbrev s_NotGood___init__ : Stmt := inClass (topS 9) 0
abbrev s_NoLeader___init__ : Stmt := inClass (topS 10) 0
abbrev s_Nobody___init__ : Stmt := inClass (topS 11) 0
abbrev s_TooEarly___init__ : Stmt := inClass (topS 12) 0
abbrev s_NoRank___init__ : Stmt := inClass (topS 13) 0
abbrev s_NoStep___init__ : Stmt := inClass (topS 14) 0
abbrev s_NoBeat___init__ : Stmt := inClass (topS 15) 0
abbrev s_NoOrder___init__ : Stmt := inClass (topS 16) 0
abbrev s_BadWish___init__ : Stmt := inClass (topS 17) 0
abbrev s_BadRow___init__ : Stmt := inClass (topS 18) 0
abbrev s_BadLevels___init__ : Stmt := inClass (topS 19) 0
abbrev s_BadChain___init__ : Stmt := inClass (topS 20) 0
abbrev s_BadParts___init__ : Stmt := inClass (topS 21) 0
abbrev s_BadPlan___init__ : Stmt := inClass (topS 22) 0
abbrev s_BadWord___init__ : Stmt := inClass (topS 23) 0
abbrev s_BadText___init__ : Stmt := inClass (topS 24) 0
abbrev s_TooMany___init__ : Stmt := inClass (topS 25) 0
abbrev s_BadSize___init__ : Stmt := inClass (topS 26) 0
abbrev s_check_lot : Stmt := topS 29
abbrev s_members : Stmt := topS 30
abbrev s_check_code : Stmt := topS 32
abbrev s_check_codes : Stmt := topS 33
abbrev s_beats : Stmt := topS 34
abbrev s_refuse_lot : Stmt := topS 36
abbrev s_refuse_lines : Stmt := topS 38
abbrev s_refuse_ends : Stmt := topS 39
abbrev s_codes_between : Stmt := topS 40
abbrev s_middle_codes : Stmt := topS 41
abbrev s_check_pairs : Stmt := topS 44
abbrev s_closed_uppers : Stmt := topS 45
abbrev s_turned : Stmt := topS 46
abbrev s_row_of : Stmt := topS 47
abbrev s_depths_of : Stmt := topS 48
abbrev s_joined : Stmt := topS 49
abbrev s_Order___init__ : Stmt := inClass (topS 50) 1
abbrev s_Order_n : Stmt := inClass (topS 50) 2
abbrev s_Order_pairs : Stmt := inClass (topS 50) 3
abbrev s_Order_covers : Stmt := inClass (topS 50) 4
abbrev s_Order_row : Stmt := inClass (topS 50) 5
abbrev s_Order_all_lines : Stmt := inClass (topS 50) 6
abbrev s_Order_depth : Stmt := inClass (topS 50) 7
abbrev s_Order_check_line : Stmt := inClass (topS 50) 8
abbrev s_Order_check_lines : Stmt := inClass (topS 50) 9
abbrev s_Order_up : Stmt := inClass (topS 50) 10
abbrev s_Order_down : Stmt := inClass (topS 50) 11
abbrev s_Order_above : Stmt := inClass (topS 50) 12
abbrev s_Order_depth_of : Stmt := inClass (topS 50) 13
abbrev s_Order_level : Stmt := inClass (topS 50) 14
abbrev s_Order_tops : Stmt := inClass (topS 50) 15
abbrev s_Order_bottoms : Stmt := inClass (topS 50) 16
abbrev s_Order_adding : Stmt := inClass (topS 50) 17
abbrev s_Order_only : Stmt := inClass (topS 50) 18
abbrev s_Order_renamed : Stmt := inClass (topS 50) 19
abbrev s_Order_from_levels : Stmt := inClass (topS 50) 20
abbrev s_Order___add__ : Stmt := inClass (topS 50) 21
abbrev s_Order___mul__ : Stmt := inClass (topS 50) 22
abbrev s_Order___eq__ : Stmt := inClass (topS 50) 23
abbrev s_Order___contains__ : Stmt := inClass (topS 50) 24
abbrev s_Order___iter__ : Stmt := inClass (topS 50) 25
abbrev s_law_mix : Stmt := topS 52
abbrev s_law_store : Stmt := topS 53
abbrev s_law_take : Stmt := topS 54
abbrev s_law_mixed : Stmt := topS 55
abbrev s_law_bits : Stmt := topS 56
abbrev s_law_less : Stmt := topS 57
abbrev s_law_ups : Stmt := topS 58
abbrev s_law_downs : Stmt := topS 59
abbrev s_law_beats : Stmt := topS 60
abbrev s_law_strewn : Stmt := topS 61
abbrev s_law_equal : Stmt := topS 62
abbrev s_law_beyond : Stmt := topS 63
abbrev s_law_sublot : Stmt := topS 64
abbrev s_law_risen : Stmt := topS 65
abbrev s_law_turned : Stmt := topS 66
abbrev s_law_asks : Stmt := topS 67
abbrev s_law_two_codes : Stmt := topS 68
abbrev s_law_on_the_way : Stmt := topS 69
abbrev s_law_one_world : Stmt := topS 70
abbrev s_law_middle : Stmt := topS 71
abbrev s_law_refused : Stmt := topS 72
abbrev s_law_beats_told : Stmt := topS 73
abbrev s_law_order_told : Stmt := topS 74
abbrev s_law : Stmt := topS 75
def d_check_lot : He.DefD := ⟨("check_lot", none), "check_lot", "check_lot", defArgs s_check_lot, defBody s_check_lot, defScope s_check_lot, [], []⟩
def d_members : He.DefD := ⟨("members", none), "members", "members", defArgs s_members, defBody s_members, defScope s_members, [], []⟩
def d_check_code : He.DefD := ⟨("check_code", none), "check_code", "check_code", defArgs s_check_code, defBody s_check_code, defScope s_check_code, [], []⟩
def d_check_codes : He.DefD := ⟨("check_codes", none), "check_codes", "check_codes", defArgs s_check_codes, defBody s_check_codes, defScope s_check_codes, [], []⟩
def d_beats : He.DefD := ⟨("beats", none), "beats", "beats", defArgs s_beats, defBody s_beats, defScope s_beats, [], []⟩
def d_refuse_lot : He.DefD := ⟨("refuse_lot", none), "refuse_lot", "refuse_lot", defArgs s_refuse_lot, defBody s_refuse_lot, defScope s_refuse_lot, [], []⟩
def d_refuse_lines : He.DefD := ⟨("refuse_lines", none), "refuse_lines", "refuse_lines", defArgs s_refuse_lines, defBody s_refuse_lines, defScope s_refuse_lines, [], []⟩
def d_refuse_ends : He.DefD := ⟨("refuse_ends", none), "refuse_ends", "refuse_ends", defArgs s_refuse_ends, defBody s_refuse_ends, defScope s_refuse_ends, [], []⟩
def d_codes_between : He.DefD := ⟨("codes_between", none), "codes_between", "codes_between", defArgs s_codes_between, defBody s_codes_between, defScope s_codes_between, [], []⟩
def d_middle_codes : He.DefD := ⟨("middle_codes", none), "middle_codes", "middle_codes", defArgs s_middle_codes, defBody s_middle_codes, defScope s_middle_codes, [], []⟩
def d_check_pairs : He.DefD := ⟨("check_pairs", none), "check_pairs", "check_pairs", defArgs s_check_pairs, defBody s_check_pairs, defScope s_check_pairs, [], []⟩
def d_closed_uppers : He.DefD := ⟨("closed_uppers", none), "closed_uppers", "closed_uppers", defArgs s_closed_uppers, defBody s_closed_uppers, defScope s_closed_uppers, [], []⟩
def d_turned : He.DefD := ⟨("turned", none), "turned", "turned", defArgs s_turned, defBody s_turned, defScope s_turned, [], []⟩
def d_row_of : He.DefD := ⟨("row_of", none), "row_of", "row_of", defArgs s_row_of, defBody s_row_of, defScope s_row_of, [], []⟩
def d_depths_of : He.DefD := ⟨("depths_of", none), "depths_of", "depths_of", defArgs s_depths_of, defBody s_depths_of, defScope s_depths_of, [], []⟩
def d_Order___init__ : He.DefD := ⟨("Order", some "__init__"), "__init__", "Order.__init__", defArgs s_Order___init__, defBody s_Order___init__, defScope s_Order___init__, [], []⟩
def d_Order_check_lines : He.DefD := ⟨("Order", some "check_lines"), "check_lines", "Order.check_lines", defArgs s_Order_check_lines, defBody s_Order_check_lines, defScope s_Order_check_lines, [], []⟩
def d_Order_tops : He.DefD := ⟨("Order", some "tops"), "tops", "Order.tops", defArgs s_Order_tops, defBody s_Order_tops, defScope s_Order_tops, [], []⟩
def d__law_mix : He.DefD := ⟨("_law_mix", none), "_law_mix", "_law_mix", defArgs s_law_mix, defBody s_law_mix, defScope s_law_mix, [], []⟩
def d__law_store : He.DefD := ⟨("_law_store", none), "_law_store", "_law_store", defArgs s_law_store, defBody s_law_store, defScope s_law_store, [], []⟩
def d__law_take : He.DefD := ⟨("_law_take", none), "_law_take", "_law_take", defArgs s_law_take, defBody s_law_take, defScope s_law_take, [], []⟩
def d__law_mixed : He.DefD := ⟨("_law_mixed", none), "_law_mixed", "_law_mixed", defArgs s_law_mixed, defBody s_law_mixed, defScope s_law_mixed, [], []⟩
def d__law_bits : He.DefD := ⟨("_law_bits", none), "_law_bits", "_law_bits", defArgs s_law_bits, defBody s_law_bits, defScope s_law_bits, [], []⟩
def d__law_less : He.DefD := ⟨("_law_less", none), "_law_less", "_law_less", defArgs s_law_less, defBody s_law_less, defScope s_law_less, [], []⟩
def d__law_ups : He.DefD := ⟨("_law_ups", none), "_law_ups", "_law_ups", defArgs s_law_ups, defBody s_law_ups, defScope s_law_ups, [], []⟩
def d__law_downs : He.DefD := ⟨("_law_downs", none), "_law_downs", "_law_downs", defArgs s_law_downs, defBody s_law_downs, defScope s_law_downs, [], []⟩
def d__law_beats : He.DefD := ⟨("_law_beats", none), "_law_beats", "_law_beats", defArgs s_law_beats, defBody s_law_beats, defScope s_law_beats, [], []⟩
def d__law_strewn : He.DefD := ⟨("_law_strewn", none), "_law_strewn", "_law_strewn", defArgs s_law_strewn, defBody s_law_strewn, defScope s_law_strewn, [], []⟩
def d__law_equal : He.DefD := ⟨("_law_equal", none), "_law_equal", "_law_equal", defArgs s_law_equal, defBody s_law_equal, defScope s_law_equal, [], []⟩
def d__law_beyond : He.DefD := ⟨("_law_beyond", none), "_law_beyond", "_law_beyond", defArgs s_law_beyond, defBody s_law_beyond, defScope s_law_beyond, [], []⟩
def d__law_sublot : He.DefD := ⟨("_law_sublot", none), "_law_sublot", "_law_sublot", defArgs s_law_sublot, defBody s_law_sublot, defScope s_law_sublot, [], []⟩
def d__law_risen : He.DefD := ⟨("_law_risen", none), "_law_risen", "_law_risen", defArgs s_law_risen, defBody s_law_risen, defScope s_law_risen, [], []⟩
def d__law_turned : He.DefD := ⟨("_law_turned", none), "_law_turned", "_law_turned", defArgs s_law_turned, defBody s_law_turned, defScope s_law_turned, [], []⟩
def d__law_asks : He.DefD := ⟨("_law_asks", none), "_law_asks", "_law_asks", defArgs s_law_asks, defBody s_law_asks, defScope s_law_asks, [], []⟩
def d__law_two_codes : He.DefD := ⟨("_law_two_codes", none), "_law_two_codes", "_law_two_codes", defArgs s_law_two_codes, defBody s_law_two_codes, defScope s_law_two_codes, [], []⟩
def d__law_on_the_way : He.DefD := ⟨("_law_on_the_way", none), "_law_on_the_way", "_law_on_the_way", defArgs s_law_on_the_way, defBody s_law_on_the_way, defScope s_law_on_the_way, [], []⟩
def d__law_one_world : He.DefD := ⟨("_law_one_world", none), "_law_one_world", "_law_one_world", defArgs s_law_one_world, defBody s_law_one_world, defScope s_law_one_world, [], []⟩
def d__law_middle : He.DefD := ⟨("_law_middle", none), "_law_middle", "_law_middle", defArgs s_law_middle, defBody s_law_middle, defScope s_law_middle, [], []⟩
def d__law_refused : He.DefD := ⟨("_law_refused", none), "_law_refused", "_law_refused", defArgs s_law_refused, defBody s_law_refused, defScope s_law_refused, [], []⟩
def d__law_beats_told : He.DefD := ⟨("_law_beats_told", none), "_law_beats_told", "_law_beats_told", defArgs s_law_beats_told, defBody s_law_beats_told, defScope s_law_beats_told, [], []⟩
def d__law_order_told : He.DefD := ⟨("_law_order_told", none), "_law_order_told", "_law_order_told", defArgs s_law_order_told, defBody s_law_order_told, defScope s_law_order_told, [], []⟩
def d_law : He.DefD := ⟨("law", none), "law", "law", defArgs s_law, defBody s_law, defScope s_law, [], []⟩
def fn0 : List He.DefD := [d_check_lot,
  d_members,
  d_check_code,
  d_check_codes,
  d_beats,
  d_refuse_lot,
  d_refuse_lines,
  d_refuse_ends,
  d_codes_between,
  d_middle_codes,
  d_check_pairs,
  d_closed_uppers,
  d_turned,
  d_row_of,
  d_depths_of,
  d_Order___init__,
  d_Order_check_lines,
  d_Order_tops,
  d__law_mix,
  d__law_store,
  d__law_take,
  d__law_mixed,
  d__law_bits,
  d__law_less,
  d__law_ups]
def fn1 : List He.DefD := [d__law_downs,
  d__law_beats,
  d__law_strewn,
  d__law_equal,
  d__law_beyond,
  d__law_sublot,
  d__law_risen,
  d__law_turned,
  d__law_asks,
  d__law_two_codes,
  d__law_on_the_way,
  d__law_one_world,
  d__law_middle,
  d__law_refused,
  d__law_beats_told,
  d__law_order_told,
  d_law]
def fn : List He.DefD := fn0 ++ fn1
def fa0 : List He.Fa := [.glo "check_lot",
  .glo "members",
  .glo "check_code",
  .glo "check_codes",
  .glo "beats",
  .glo "refuse_lot",
  .glo "refuse_lines",
  .glo "refuse_ends",
  .glo "codes_between",
  .glo "middle_codes",
  .glo "check_pairs",
  .glo "closed_uppers",
  .glo "turned",
  .glo "row_of",
  .glo "depths_of",
  .glo "_law_mix",
  .glo "_law_store",
  .glo "_law_take",
  .glo "_law_mixed",
  .glo "_law_bits",
  .glo "_law_less",
  .glo "_law_ups",
  .glo "_law_downs",
  .glo "_law_beats",
  .glo "_law_strewn"]
def fa1 : List He.Fa := [.glo "_law_equal",
  .glo "_law_beyond",
  .glo "_law_sublot",
  .glo "_law_risen",
  .glo "_law_turned",
  .glo "_law_asks",
  .glo "_law_two_codes",
  .glo "_law_on_the_way",
  .glo "_law_one_world",
  .glo "_law_middle",
  .glo "_law_refused",
  .glo "_law_beats_told",
  .glo "_law_order_told",
  .glo "law",
  .free "len",
  .free "range",
  .free "int",
  .free "abs",
  .free "max",
  .free "isinstance",
  .free "list",
  .free "bool",
  .free "str",
  .free "tuple",
  .free "ValueError"]
def fa2 : List He.Fa := [.free "super",
  .int "MOST_BITS" 64,
  .int "MOST_PAIRS" 300,
  .glo "Order",
  .cls "Order",
  .mkr "Order",
  .meth "Order" "check_lines",
  .meth "Order" "tops",
  .noat "Order" "many_lines",
  .noat "Order" "upper_lots",
  .noat "Order" "lower_lots",
  .noat "Order" "row_lines",
  .noat "Order" "line_depths",
  .glo "BusError",
  .glo "BadOrder",
  .glo "BadLot",
  .glo "NoLine",
  .glo "NoStation",
  .glo "NoDrive",
  .glo "TwiceCode",
  .glo "NotGood",
  .glo "NoLeader",
  .glo "Nobody",
  .glo "TooEarly",
  .glo "NoRank"]
def fa3 : List He.Fa := [.glo "NoStep",
  .glo "NoBeat",
  .glo "NoOrder",
  .glo "BadWish",
  .glo "BadRow",
  .glo "BadLevels",
  .glo "BadChain",
  .glo "BadParts",
  .glo "BadPlan",
  .glo "BadWord",
  .glo "BadText",
  .glo "TooMany",
  .glo "BadSize",
  .exm "BadLot" "BusError" true,
  .exm "TooMany" "BusError" true]
def fa : List He.Fa := fa0 ++ fa1 ++ fa2 ++ fa3
def u_Order_n : Yh.FnE := { adr := fun K => gA K "Order" "n", name := "n", qual := "Order.n", params := defArgs s_Order_n, body := defBody s_Order_n, scope := defScope s_Order_n }
def u_Order_all_lines : Yh.FnE := { adr := fun K => gA K "Order" "all_lines", name := "all_lines", qual := "Order.all_lines", params := defArgs s_Order_all_lines, body := defBody s_Order_all_lines, scope := defScope s_Order_all_lines }
def u_BadLot : Yh.FnE := { adr := fun K => eI K "BadLot", name := "__init__", qual := "BadLot.__init__", params := defArgs s_BadLot___init__, body := defBody s_BadLot___init__, scope := defScope s_BadLot___init__, clo := true }
def u_TooMany : Yh.FnE := { adr := fun K => eI K "TooMany", name := "__init__", qual := "TooMany.__init__", params := defArgs s_TooMany___init__, body := defBody s_TooMany___init__, scope := defScope s_TooMany___init__, clo := true }
def fx0 : List Yh.FnE := [u_Order_n,
  u_Order_all_lines,
  u_BadLot,
  u_TooMany]
def fx : List Yh.FnE := fx0
def tf0 : List He.Defn := [("_law_refused", none),
  ("_law_order_told", none)]
def tf : List He.Defn := tf0
def ad0 : List Addr := [3,
  2,
  545,
  552,
  559,
  566,
  573,
  580,
  587,
  594,
  601,
  608,
  615,
  620,
  625,
  632,
  637,
  642,
  656,
  716,
  758,
  845,
  852,
  859,
  866,
  871,
  878,
  883,
  888,
  895,
  902,
  907,
  914,
  921,
  926,
  931,
  938,
  945,
  952,
  957]
def ad1 : List Addr := [962,
  967,
  974,
  981,
  986,
  31,
  53,
  74,
  95,
  116,
  137,
  158,
  179,
  200,
  221,
  242,
  263,
  284,
  305,
  326,
  347,
  368,
  389,
  410,
  431,
  452,
  473,
  494,
  515,
  536,
  834,
  664,
  694,
  663,
  693,
  71,
  512,
  544,
  551,
  558]
def ad2 : List Addr := [565,
  572,
  579,
  586,
  593,
  600,
  607,
  614,
  619,
  624,
  631,
  636,
  641,
  655,
  715,
  757,
  844,
  851,
  858,
  865,
  870,
  877,
  882,
  887,
  894,
  901,
  906,
  913,
  920,
  925,
  930,
  937,
  944,
  951,
  956,
  961,
  966,
  973,
  980,
  985]
def ad3 : List Addr := [662,
  692,
  70,
  59,
  511,
  500,
  30,
  52,
  73,
  94,
  115,
  136,
  157,
  178,
  199,
  220,
  241,
  262,
  283,
  304,
  325,
  346,
  367,
  388,
  409,
  430,
  451,
  472,
  493,
  514,
  535,
  833]
def ad : List Addr := ad0 ++ ad1 ++ ad2 ++ ad3
def errs0 : List Str := ["BadOrder",
  "BadLot",
  "NoLine",
  "NoStation",
  "NoDrive",
  "TwiceCode",
  "NotGood",
  "NoLeader",
  "Nobody",
  "TooEarly",
  "NoRank",
  "NoStep",
  "NoBeat",
  "NoOrder",
  "BadWish",
  "BadRow",
  "BadLevels",
  "BadChain",
  "BadParts",
  "BadPlan",
  "BadWord",
  "BadText",
  "TooMany",
  "BadSize"]
def errs : List Str := errs0
def kitsB (K : PySem.W.Frag) (c : Str) : Bool := errs.all fun d => decide (PySem.W.kitOne K (.ref (He.ga K c)) (.ref (He.ga K d)) = some (decide (d = c)))
def file : Str := "/claim/cut.py"
def ex (K : PySem.W.Frag) : Bool := (errKB file K "BadLot" ["lot"]) && (kitsB K "BadLot") && (decide (PySem.W.kitOne K (.ref (He.ga K "BadLot")) (.type "ValueError") = some true)) && (errKB file K "TooMany" ["limit"]) && (kitsB K "TooMany") && (decide (PySem.W.kitOne K (.ref (He.ga K "TooMany")) (.type "ValueError") = some true)) && (propB K "Order" "n") && (propB K "Order" "all_lines") && (ccB K "Order" "LINES" 24) && (decide (¬(He.cT K ("_law_refused", none)).2 = (He.cT K ("_law_order_told", none)).2))
def names0 : List PySem.Str := ["_wall",
  "__name__",
  "BusError",
  "BadOrder",
  "BadLot",
  "NoLine",
  "NoStation",
  "NoDrive",
  "TwiceCode",
  "NotGood",
  "NoLeader",
  "Nobody",
  "TooEarly",
  "NoRank",
  "NoStep",
  "NoBeat",
  "NoOrder",
  "BadWish",
  "BadRow",
  "BadLevels",
  "BadChain",
  "BadParts",
  "BadPlan",
  "BadWord",
  "BadText"]
def names1 : List PySem.Str := ["TooMany",
  "BadSize",
  "MOST_BITS",
  "check_lot",
  "members",
  "check_code",
  "check_codes",
  "beats",
  "refuse_lot",
  "refuse_lines",
  "refuse_ends",
  "codes_between",
  "middle_codes",
  "MOST_PAIRS",
  "check_pairs",
  "closed_uppers",
  "turned",
  "row_of",
  "depths_of",
  "joined",
  "Order",
  "_law_mix",
  "_law_store",
  "_law_take",
  "_law_mixed"]
def names2 : List PySem.Str := ["_law_bits",
  "_law_less",
  "_law_ups",
  "_law_downs",
  "_law_beats",
  "_law_strewn",
  "_law_equal",
  "_law_beyond",
  "_law_sublot",
  "_law_risen",
  "_law_turned",
  "_law_asks",
  "_law_two_codes",
  "_law_on_the_way",
  "_law_one_world",
  "_law_middle",
  "_law_refused",
  "_law_beats_told",
  "_law_order_told"]
def names : List PySem.Str := names0 ++ names1 ++ names2
abbrev R : PySem.W.OpenRow := PySem.W.OpenLaw.row PySem.Challenge.rw_onecodestands_k69_codes_in_the_middle
abbrev pw : Program := PySem.Challenge.pw_onecodestands_k69_codes_in_the_middle
abbrev hk : PySem.W.Hook := Yh.yhook ad fa fn fx tf ex
def ob (s : PySem.W.SharedT) : Yh.Yal := Yh.yobs ad fa fn fx tf ex (HandSHeadRun.getT s)
theorem ob_eq (s : PySem.W.SharedT) : ob s = hk.obs s.abs := Yh.yobs_eq (HandSHeadRun.getT_eq s)
structure Txt (K : PySem.W.Frag) (mg : Str → Option Value) : Prop where
  F_check_lot : ∃ fd, FunD K "check_lot" "check_lot" (defArgs s_check_lot) (defBody s_check_lot) (defScope s_check_lot) [] [] (He.fAd K ("check_lot", none)) fd
  F_members : ∃ fd, FunD K "members" "members" (defArgs s_members) (defBody s_members) (defScope s_members) [] [] (He.fAd K ("members", none)) fd
  F_check_code : ∃ fd, FunD K "check_code" "check_code" (defArgs s_check_code) (defBody s_check_code) (defScope s_check_code) [] [] (He.fAd K ("check_code", none)) fd
  F_check_codes : ∃ fd, FunD K "check_codes" "check_codes" (defArgs s_check_codes) (defBody s_check_codes) (defScope s_check_codes) [] [] (He.fAd K ("check_codes", none)) fd
  F_beats : ∃ fd, FunD K "beats" "beats" (defArgs s_beats) (defBody s_beats) (defScope s_beats) [] [] (He.fAd K ("beats", none)) fd
  F_refuse_lot : ∃ fd, FunD K "refuse_lot" "refuse_lot" (defArgs s_refuse_lot) (defBody s_refuse_lot) (defScope s_refuse_lot) [] [] (He.fAd K ("refuse_lot", none)) fd
  F_refuse_lines : ∃ fd, FunD K "refuse_lines" "refuse_lines" (defArgs s_refuse_lines) (defBody s_refuse_lines) (defScope s_refuse_lines) [] [] (He.fAd K ("refuse_lines", none)) fd
  F_refuse_ends : ∃ fd, FunD K "refuse_ends" "refuse_ends" (defArgs s_refuse_ends) (defBody s_refuse_ends) (defScope s_refuse_ends) [] [] (He.fAd K ("refuse_ends", none)) fd
  F_codes_between : ∃ fd, FunD K "codes_between" "codes_between" (defArgs s_codes_between) (defBody s_codes_between) (defScope s_codes_between) [] [] (He.fAd K ("codes_between", none)) fd
  F_middle_codes : ∃ fd, FunD K "middle_codes" "middle_codes" (defArgs s_middle_codes) (defBody s_middle_codes) (defScope s_middle_codes) [] [] (He.fAd K ("middle_codes", none)) fd
  F_check_pairs : ∃ fd, FunD K "check_pairs" "check_pairs" (defArgs s_check_pairs) (defBody s_check_pairs) (defScope s_check_pairs) [] [] (He.fAd K ("check_pairs", none)) fd
  F_closed_uppers : ∃ fd, FunD K "closed_uppers" "closed_uppers" (defArgs s_closed_uppers) (defBody s_closed_uppers) (defScope s_closed_uppers) [] [] (He.fAd K ("closed_uppers", none)) fd
  F_turned : ∃ fd, FunD K "turned" "turned" (defArgs s_turned) (defBody s_turned) (defScope s_turned) [] [] (He.fAd K ("turned", none)) fd
  F_row_of : ∃ fd, FunD K "row_of" "row_of" (defArgs s_row_of) (defBody s_row_of) (defScope s_row_of) [] [] (He.fAd K ("row_of", none)) fd
  F_depths_of : ∃ fd, FunD K "depths_of" "depths_of" (defArgs s_depths_of) (defBody s_depths_of) (defScope s_depths_of) [] [] (He.fAd K ("depths_of", none)) fd
  F_Order___init__ : ∃ fd, FunD K "__init__" "Order.__init__" (defArgs s_Order___init__) (defBody s_Order___init__) (defScope s_Order___init__) [] [] (He.fAd K ("Order", some "__init__")) fd
  F_Order_check_lines : ∃ fd, FunD K "check_lines" "Order.check_lines" (defArgs s_Order_check_lines) (defBody s_Order_check_lines) (defScope s_Order_check_lines) [] [] (He.fAd K ("Order", some "check_lines")) fd
  F_Order_tops : ∃ fd, FunD K "tops" "Order.tops" (defArgs s_Order_tops) (defBody s_Order_tops) (defScope s_Order_tops) [] [] (He.fAd K ("Order", some "tops")) fd
  F__law_mix : ∃ fd, FunD K "_law_mix" "_law_mix" (defArgs s_law_mix) (defBody s_law_mix) (defScope s_law_mix) [] [] (He.fAd K ("_law_mix", none)) fd
  F__law_store : ∃ fd, FunD K "_law_store" "_law_store" (defArgs s_law_store) (defBody s_law_store) (defScope s_law_store) [] [] (He.fAd K ("_law_store", none)) fd
  F__law_take : ∃ fd, FunD K "_law_take" "_law_take" (defArgs s_law_take) (defBody s_law_take) (defScope s_law_take) [] [] (He.fAd K ("_law_take", none)) fd
  F__law_mixed : ∃ fd, FunD K "_law_mixed" "_law_mixed" (defArgs s_law_mixed) (defBody s_law_mixed) (defScope s_law_mixed) [] [] (He.fAd K ("_law_mixed", none)) fd
  F__law_bits : ∃ fd, FunD K "_law_bits" "_law_bits" (defArgs s_law_bits) (defBody s_law_bits) (defScope s_law_bits) [] [] (He.fAd K ("_law_bits", none)) fd
  F__law_less : ∃ fd, FunD K "_law_less" "_law_less" (defArgs s_law_less) (defBody s_law_less) (defScope s_law_less) [] [] (He.fAd K ("_law_less", none)) fd
  F__law_ups : ∃ fd, FunD K "_law_ups" "_law_ups" (defArgs s_law_ups) (defBody s_law_ups) (defScope s_law_ups) [] [] (He.fAd K ("_law_ups", none)) fd
  F__law_downs : ∃ fd, FunD K "_law_downs" "_law_downs" (defArgs s_law_downs) (defBody s_law_downs) (defScope s_law_downs) [] [] (He.fAd K ("_law_downs", none)) fd
  F__law_beats : ∃ fd, FunD K "_law_beats" "_law_beats" (defArgs s_law_beats) (defBody s_law_beats) (defScope s_law_beats) [] [] (He.fAd K ("_law_beats", none)) fd
  F__law_strewn : ∃ fd, FunD K "_law_strewn" "_law_strewn" (defArgs s_law_strewn) (defBody s_law_strewn) (defScope s_law_strewn) [] [] (He.fAd K ("_law_strewn", none)) fd
  F__law_equal : ∃ fd, FunD K "_law_equal" "_law_equal" (defArgs s_law_equal) (defBody s_law_equal) (defScope s_law_equal) [] [] (He.fAd K ("_law_equal", none)) fd
  F__law_beyond : ∃ fd, FunD K "_law_beyond" "_law_beyond" (defArgs s_law_beyond) (defBody s_law_beyond) (defScope s_law_beyond) [] [] (He.fAd K ("_law_beyond", none)) fd
  F__law_sublot : ∃ fd, FunD K "_law_sublot" "_law_sublot" (defArgs s_law_sublot) (defBody s_law_sublot) (defScope s_law_sublot) [] [] (He.fAd K ("_law_sublot", none)) fd
  F__law_risen : ∃ fd, FunD K "_law_risen" "_law_risen" (defArgs s_law_risen) (defBody s_law_risen) (defScope s_law_risen) [] [] (He.fAd K ("_law_risen", none)) fd
  F__law_turned : ∃ fd, FunD K "_law_turned" "_law_turned" (defArgs s_law_turned) (defBody s_law_turned) (defScope s_law_turned) [] [] (He.fAd K ("_law_turned", none)) fd
  F__law_asks : ∃ fd, FunD K "_law_asks" "_law_asks" (defArgs s_law_asks) (defBody s_law_asks) (defScope s_law_asks) [] [] (He.fAd K ("_law_asks", none)) fd
  F__law_two_codes : ∃ fd, FunD K "_law_two_codes" "_law_two_codes" (defArgs s_law_two_codes) (defBody s_law_two_codes) (defScope s_law_two_codes) [] [] (He.fAd K ("_law_two_codes", none)) fd
  F__law_on_the_way : ∃ fd, FunD K "_law_on_the_way" "_law_on_the_way" (defArgs s_law_on_the_way) (defBody s_law_on_the_way) (defScope s_law_on_the_way) [] [] (He.fAd K ("_law_on_the_way", none)) fd
  F__law_one_world : ∃ fd, FunD K "_law_one_world" "_law_one_world" (defArgs s_law_one_world) (defBody s_law_one_world) (defScope s_law_one_world) [] [] (He.fAd K ("_law_one_world", none)) fd
  F__law_middle : ∃ fd, FunD K "_law_middle" "_law_middle" (defArgs s_law_middle) (defBody s_law_middle) (defScope s_law_middle) [] [] (He.fAd K ("_law_middle", none)) fd
  F__law_refused : ∃ fd, FunD K "_law_refused" "_law_refused" (defArgs s_law_refused) (defBody s_law_refused) (defScope s_law_refused) [] [] (He.fAd K ("_law_refused", none)) fd
  F__law_beats_told : ∃ fd, FunD K "_law_beats_told" "_law_beats_told" (defArgs s_law_beats_told) (defBody s_law_beats_told) (defScope s_law_beats_told) [] [] (He.fAd K ("_law_beats_told", none)) fd
  F__law_order_told : ∃ fd, FunD K "_law_order_told" "_law_order_told" (defArgs s_law_order_told) (defBody s_law_order_told) (defScope s_law_order_told) [] [] (He.fAd K ("_law_order_told", none)) fd
  F_law : ∃ fd, FunD K "law" "law" (defArgs s_law) (defBody s_law) (defScope s_law) [] [] (He.fAd K ("law", none)) fd
  g_check_lot : mg "check_lot" = some (.ref (He.ga K "check_lot"))
  g_members : mg "members" = some (.ref (He.ga K "members"))
  g_check_code : mg "check_code" = some (.ref (He.ga K "check_code"))
  g_check_codes : mg "check_codes" = some (.ref (He.ga K "check_codes"))
  g_beats : mg "beats" = some (.ref (He.ga K "beats"))
  g_refuse_lot : mg "refuse_lot" = some (.ref (He.ga K "refuse_lot"))
  g_refuse_lines : mg "refuse_lines" = some (.ref (He.ga K "refuse_lines"))
  g_refuse_ends : mg "refuse_ends" = some (.ref (He.ga K "refuse_ends"))
  g_codes_between : mg "codes_between" = some (.ref (He.ga K "codes_between"))
  g_middle_codes : mg "middle_codes" = some (.ref (He.ga K "middle_codes"))
  g_check_pairs : mg "check_pairs" = some (.ref (He.ga K "check_pairs"))
  g_closed_uppers : mg "closed_uppers" = some (.ref (He.ga K "closed_uppers"))
  g_turned : mg "turned" = some (.ref (He.ga K "turned"))
  g_row_of : mg "row_of" = some (.ref (He.ga K "row_of"))
  g_depths_of : mg "depths_of" = some (.ref (He.ga K "depths_of"))
  g__law_mix : mg "_law_mix" = some (.ref (He.ga K "_law_mix"))
  g__law_store : mg "_law_store" = some (.ref (He.ga K "_law_store"))
  g__law_take : mg "_law_take" = some (.ref (He.ga K "_law_take"))
  g__law_mixed : mg "_law_mixed" = some (.ref (He.ga K "_law_mixed"))
  g__law_bits : mg "_law_bits" = some (.ref (He.ga K "_law_bits"))
  g__law_less : mg "_law_less" = some (.ref (He.ga K "_law_less"))
  g__law_ups : mg "_law_ups" = some (.ref (He.ga K "_law_ups"))
  g__law_downs : mg "_law_downs" = some (.ref (He.ga K "_law_downs"))
  g__law_beats : mg "_law_beats" = some (.ref (He.ga K "_law_beats"))
  g__law_strewn : mg "_law_strewn" = some (.ref (He.ga K "_law_strewn"))
  g__law_equal : mg "_law_equal" = some (.ref (He.ga K "_law_equal"))
  g__law_beyond : mg "_law_beyond" = some (.ref (He.ga K "_law_beyond"))
  g__law_sublot : mg "_law_sublot" = some (.ref (He.ga K "_law_sublot"))
  g__law_risen : mg "_law_risen" = some (.ref (He.ga K "_law_risen"))
  g__law_turned : mg "_law_turned" = some (.ref (He.ga K "_law_turned"))
  g__law_asks : mg "_law_asks" = some (.ref (He.ga K "_law_asks"))
  g__law_two_codes : mg "_law_two_codes" = some (.ref (He.ga K "_law_two_codes"))
  g__law_on_the_way : mg "_law_on_the_way" = some (.ref (He.ga K "_law_on_the_way"))
  g__law_one_world : mg "_law_one_world" = some (.ref (He.ga K "_law_one_world"))
  g__law_middle : mg "_law_middle" = some (.ref (He.ga K "_law_middle"))
  g__law_refused : mg "_law_refused" = some (.ref (He.ga K "_law_refused"))
  g__law_beats_told : mg "_law_beats_told" = some (.ref (He.ga K "_law_beats_told"))
  g__law_order_told : mg "_law_order_told" = some (.ref (He.ga K "_law_order_told"))
  g_law : mg "law" = some (.ref (He.ga K "law"))
  z_len : mg "len" = none
  z_range : mg "range" = none
  z_int : mg "int" = none
  z_abs : mg "abs" = none
  z_max : mg "max" = none
  z_isinstance : mg "isinstance" = none
  z_list : mg "list" = none
  z_bool : mg "bool" = none
  z_str : mg "str" = none
  z_tuple : mg "tuple" = none
  z_ValueError : mg "ValueError" = none
  z_super : mg "super" = none
  i_MOST_BITS : ∃ t, mg "MOST_BITS" = some (.int 64 t)
  i_MOST_PAIRS : ∃ t, mg "MOST_PAIRS" = some (.int 300 t)
  g_Order : mg "Order" = some (.ref (He.ga K "Order"))
  c_Order : Cls K (He.ga K "Order")
  k_Order : Mk K (He.ga K "Order") (He.ma K (He.ga K "Order") "__init__")
  m_Order_check_lines : Meth K (He.ga K "Order") "check_lines" (He.ma K (He.ga K "Order") "check_lines")
  m_Order_tops : Meth K (He.ga K "Order") "tops" (He.ma K (He.ga K "Order") "tops")
  n_Order_many_lines : NoAttr K (He.ga K "Order") "many_lines"
  n_Order_upper_lots : NoAttr K (He.ga K "Order") "upper_lots"
  n_Order_lower_lots : NoAttr K (He.ga K "Order") "lower_lots"
  n_Order_row_lines : NoAttr K (He.ga K "Order") "row_lines"
  n_Order_line_depths : NoAttr K (He.ga K "Order") "line_depths"
  g_BusError : mg "BusError" = some (.ref (He.ga K "BusError"))
  g_BadOrder : mg "BadOrder" = some (.ref (He.ga K "BadOrder"))
  g_BadLot : mg "BadLot" = some (.ref (He.ga K "BadLot"))
  g_NoLine : mg "NoLine" = some (.ref (He.ga K "NoLine"))
  g_NoStation : mg "NoStation" = some (.ref (He.ga K "NoStation"))
  g_NoDrive : mg "NoDrive" = some (.ref (He.ga K "NoDrive"))
  g_TwiceCode : mg "TwiceCode" = some (.ref (He.ga K "TwiceCode"))
  g_NotGood : mg "NotGood" = some (.ref (He.ga K "NotGood"))
  g_NoLeader : mg "NoLeader" = some (.ref (He.ga K "NoLeader"))
  g_Nobody : mg "Nobody" = some (.ref (He.ga K "Nobody"))
  g_TooEarly : mg "TooEarly" = some (.ref (He.ga K "TooEarly"))
  g_NoRank : mg "NoRank" = some (.ref (He.ga K "NoRank"))
  g_NoStep : mg "NoStep" = some (.ref (He.ga K "NoStep"))
  g_NoBeat : mg "NoBeat" = some (.ref (He.ga K "NoBeat"))
  g_NoOrder : mg "NoOrder" = some (.ref (He.ga K "NoOrder"))
  g_BadWish : mg "BadWish" = some (.ref (He.ga K "BadWish"))
  g_BadRow : mg "BadRow" = some (.ref (He.ga K "BadRow"))
  g_BadLevels : mg "BadLevels" = some (.ref (He.ga K "BadLevels"))
  g_BadChain : mg "BadChain" = some (.ref (He.ga K "BadChain"))
  g_BadParts : mg "BadParts" = some (.ref (He.ga K "BadParts"))
  g_BadPlan : mg "BadPlan" = some (.ref (He.ga K "BadPlan"))
  g_BadWord : mg "BadWord" = some (.ref (He.ga K "BadWord"))
  g_BadText : mg "BadText" = some (.ref (He.ga K "BadText"))
  g_TooMany : mg "TooMany" = some (.ref (He.ga K "TooMany"))
  g_BadSize : mg "BadSize" = some (.ref (He.ga K "BadSize"))
  x_BadLot : PySem.W.exmOne K (.ref (He.ga K "BadLot")) (.ref (He.ga K "BusError")) = some true
  x_TooMany : PySem.W.exmOne K (.ref (He.ga K "TooMany")) (.ref (He.ga K "BusError")) = some true
  E_BadLot : ErrK pw K "BadLot" ["lot"]
  K_BadLot : ∀ d ∈ errs, PySem.W.kitOne K (.ref (He.ga K "BadLot")) (.ref (He.ga K d)) = some (decide (d = ("BadLot" : Str)))
  V_BadLot : PySem.W.kitOne K (.ref (He.ga K "BadLot")) (.type "ValueError") = some true
  L_BadLot : ∃ oc od osl doc pm an cdv ct, K.lookup (eI K "BadLot") = some ⟨oc, od, .func (PySem.W.fnX "__init__" "BadLot.__init__" (defArgs s_BadLot___init__) (defBody s_BadLot___init__) (defScope s_BadLot___init__) (Yh.cloL true (Yh.cellA K (eI K "BadLot"))) .none .none doc pm an cdv ct), osl⟩ ∧ PySem.W.codeIn K cdv "BadLot.__init__" = true
  E_TooMany : ErrK pw K "TooMany" ["limit"]
  K_TooMany : ∀ d ∈ errs, PySem.W.kitOne K (.ref (He.ga K "TooMany")) (.ref (He.ga K d)) = some (decide (d = ("TooMany" : Str)))
  V_TooMany : PySem.W.kitOne K (.ref (He.ga K "TooMany")) (.type "ValueError") = some true
  L_TooMany : ∃ oc od osl doc pm an cdv ct, K.lookup (eI K "TooMany") = some ⟨oc, od, .func (PySem.W.fnX "__init__" "TooMany.__init__" (defArgs s_TooMany___init__) (defBody s_TooMany___init__) (defScope s_TooMany___init__) (Yh.cloL true (Yh.cellA K (eI K "TooMany"))) .none .none doc pm an cdv ct), osl⟩ ∧ PySem.W.codeIn K cdv "TooMany.__init__" = true
  P_Order_n : PropOf K (He.ga K "Order") "n" (pA K "Order" "n") (gA K "Order" "n")
  L_Order_n : ∃ oc od osl doc pm an cdv ct, K.lookup (gA K "Order" "n") = some ⟨oc, od, .func (PySem.W.fnOf "n" "Order.n" (defArgs s_Order_n) (defBody s_Order_n) (defScope s_Order_n) .none .none doc pm an cdv ct), osl⟩ ∧ PySem.W.codeIn K cdv "Order.n" = true
  P_Order_all_lines : PropOf K (He.ga K "Order") "all_lines" (pA K "Order" "all_lines") (gA K "Order" "all_lines")
  L_Order_all_lines : ∃ oc od osl doc pm an cdv ct, K.lookup (gA K "Order" "all_lines") = some ⟨oc, od, .func (PySem.W.fnOf "all_lines" "Order.all_lines" (defArgs s_Order_all_lines) (defBody s_Order_all_lines) (defScope s_Order_all_lines) .none .none doc pm an cdv ct), osl⟩ ∧ PySem.W.codeIn K cdv "Order.all_lines" = true
  CC_Order_LINES : ClX.CRead K (He.ga K "Order") (.type "type") ∧ ∃ u, ClX.CVal K (He.ga K "Order") (.type "type") "LINES" (.int 24) u
  tab_ne0 : ¬(He.cT K ("_law_refused", none)).2 = (He.cT K ("_law_order_told", none)).2
theorem txt_of {K : PySem.W.Frag} {h : Heap} {mg : Str → Option Value} (X : K.In h) (G : h.Ns mainGlobals mg) (c : Yh.Says fa fn fx tf ex h K) : Txt K mg := ⟨c.d.def_ 0 (d := d_check_lot) rfl,
  c.d.def_ 1 (d := d_members) rfl,
  c.d.def_ 2 (d := d_check_code) rfl,
  c.d.def_ 3 (d := d_check_codes) rfl,
  c.d.def_ 4 (d := d_beats) rfl,
  c.d.def_ 5 (d := d_refuse_lot) rfl,
  c.d.def_ 6 (d := d_refuse_lines) rfl,
  c.d.def_ 7 (d := d_refuse_ends) rfl,
  c.d.def_ 8 (d := d_codes_between) rfl,
  c.d.def_ 9 (d := d_middle_codes) rfl,
  c.d.def_ 10 (d := d_check_pairs) rfl,
  c.d.def_ 11 (d := d_closed_uppers) rfl,
  c.d.def_ 12 (d := d_turned) rfl,
  c.d.def_ 13 (d := d_row_of) rfl,
  c.d.def_ 14 (d := d_depths_of) rfl,
  c.d.def_ 15 (d := d_Order___init__) rfl,
  c.d.def_ 16 (d := d_Order_check_lines) rfl,
  c.d.def_ 17 (d := d_Order_tops) rfl,
  c.d.def_ 18 (d := d__law_mix) rfl,
  c.d.def_ 19 (d := d__law_store) rfl,
  c.d.def_ 20 (d := d__law_take) rfl,
  c.d.def_ 21 (d := d__law_mixed) rfl,
  c.d.def_ 22 (d := d__law_bits) rfl,
  c.d.def_ 23 (d := d__law_less) rfl,
  c.d.def_ 24 (d := d__law_ups) rfl,
  c.d.def_ 25 (d := d__law_downs) rfl,
  c.d.def_ 26 (d := d__law_beats) rfl,
  c.d.def_ 27 (d := d__law_strewn) rfl,
  c.d.def_ 28 (d := d__law_equal) rfl,
  c.d.def_ 29 (d := d__law_beyond) rfl,
  c.d.def_ 30 (d := d__law_sublot) rfl,
  c.d.def_ 31 (d := d__law_risen) rfl,
  c.d.def_ 32 (d := d__law_turned) rfl,
  c.d.def_ 33 (d := d__law_asks) rfl,
  c.d.def_ 34 (d := d__law_two_codes) rfl,
  c.d.def_ 35 (d := d__law_on_the_way) rfl,
  c.d.def_ 36 (d := d__law_one_world) rfl,
  c.d.def_ 37 (d := d__law_middle) rfl,
  c.d.def_ 38 (d := d__law_refused) rfl,
  c.d.def_ 39 (d := d__law_beats_told) rfl,
  c.d.def_ 40 (d := d__law_order_told) rfl,
  c.d.def_ 41 (d := d_law) rfl,
  He.glo_ok X G (c.d.fact 0 (f := .glo "check_lot") rfl),
  He.glo_ok X G (c.d.fact 1 (f := .glo "members") rfl),
  He.glo_ok X G (c.d.fact 2 (f := .glo "check_code") rfl),
  He.glo_ok X G (c.d.fact 3 (f := .glo "check_codes") rfl),
  He.glo_ok X G (c.d.fact 4 (f := .glo "beats") rfl),
  He.glo_ok X G (c.d.fact 5 (f := .glo "refuse_lot") rfl),
  He.glo_ok X G (c.d.fact 6 (f := .glo "refuse_lines") rfl),
  He.glo_ok X G (c.d.fact 7 (f := .glo "refuse_ends") rfl),
  He.glo_ok X G (c.d.fact 8 (f := .glo "codes_between") rfl),
  He.glo_ok X G (c.d.fact 9 (f := .glo "middle_codes") rfl),
  He.glo_ok X G (c.d.fact 10 (f := .glo "check_pairs") rfl),
  He.glo_ok X G (c.d.fact 11 (f := .glo "closed_uppers") rfl),
  He.glo_ok X G (c.d.fact 12 (f := .glo "turned") rfl),
  He.glo_ok X G (c.d.fact 13 (f := .glo "row_of") rfl),
  He.glo_ok X G (c.d.fact 14 (f := .glo "depths_of") rfl),
  He.glo_ok X G (c.d.fact 15 (f := .glo "_law_mix") rfl),
  He.glo_ok X G (c.d.fact 16 (f := .glo "_law_store") rfl),
  He.glo_ok X G (c.d.fact 17 (f := .glo "_law_take") rfl),
  He.glo_ok X G (c.d.fact 18 (f := .glo "_law_mixed") rfl),
  He.glo_ok X G (c.d.fact 19 (f := .glo "_law_bits") rfl),
  He.glo_ok X G (c.d.fact 20 (f := .glo "_law_less") rfl),
  He.glo_ok X G (c.d.fact 21 (f := .glo "_law_ups") rfl),
  He.glo_ok X G (c.d.fact 22 (f := .glo "_law_downs") rfl),
  He.glo_ok X G (c.d.fact 23 (f := .glo "_law_beats") rfl),
  He.glo_ok X G (c.d.fact 24 (f := .glo "_law_strewn") rfl),
  He.glo_ok X G (c.d.fact 25 (f := .glo "_law_equal") rfl),
  He.glo_ok X G (c.d.fact 26 (f := .glo "_law_beyond") rfl),
  He.glo_ok X G (c.d.fact 27 (f := .glo "_law_sublot") rfl),
  He.glo_ok X G (c.d.fact 28 (f := .glo "_law_risen") rfl),
  He.glo_ok X G (c.d.fact 29 (f := .glo "_law_turned") rfl),
  He.glo_ok X G (c.d.fact 30 (f := .glo "_law_asks") rfl),
  He.glo_ok X G (c.d.fact 31 (f := .glo "_law_two_codes") rfl),
  He.glo_ok X G (c.d.fact 32 (f := .glo "_law_on_the_way") rfl),
  He.glo_ok X G (c.d.fact 33 (f := .glo "_law_one_world") rfl),
  He.glo_ok X G (c.d.fact 34 (f := .glo "_law_middle") rfl),
  He.glo_ok X G (c.d.fact 35 (f := .glo "_law_refused") rfl),
  He.glo_ok X G (c.d.fact 36 (f := .glo "_law_beats_told") rfl),
  He.glo_ok X G (c.d.fact 37 (f := .glo "_law_order_told") rfl),
  He.glo_ok X G (c.d.fact 38 (f := .glo "law") rfl),
  He.free_ok X G (c.d.fact 39 (f := .free "len") rfl),
  He.free_ok X G (c.d.fact 40 (f := .free "range") rfl),
  He.free_ok X G (c.d.fact 41 (f := .free "int") rfl),
  He.free_ok X G (c.d.fact 42 (f := .free "abs") rfl),
  He.free_ok X G (c.d.fact 43 (f := .free "max") rfl),
  He.free_ok X G (c.d.fact 44 (f := .free "isinstance") rfl),
  He.free_ok X G (c.d.fact 45 (f := .free "list") rfl),
  He.free_ok X G (c.d.fact 46 (f := .free "bool") rfl),
  He.free_ok X G (c.d.fact 47 (f := .free "str") rfl),
  He.free_ok X G (c.d.fact 48 (f := .free "tuple") rfl),
  He.free_ok X G (c.d.fact 49 (f := .free "ValueError") rfl),
  He.free_ok X G (c.d.fact 50 (f := .free "super") rfl),
  He.int_ok X G (c.d.fact 51 (f := .int "MOST_BITS" 64) rfl),
  He.int_ok X G (c.d.fact 52 (f := .int "MOST_PAIRS" 300) rfl),
  He.glo_ok X G (c.d.fact 53 (f := .glo "Order") rfl),
  He.cls_ok (c.d.fact 54 (f := .cls "Order") rfl),
  He.mkr_ok (c.d.fact 55 (f := .mkr "Order") rfl),
  He.meth_ok (c.d.fact 56 (f := .meth "Order" "check_lines") rfl),
  He.meth_ok (c.d.fact 57 (f := .meth "Order" "tops") rfl),
  He.noat_ok (c.d.fact 58 (f := .noat "Order" "many_lines") rfl),
  He.noat_ok (c.d.fact 59 (f := .noat "Order" "upper_lots") rfl),
  He.noat_ok (c.d.fact 60 (f := .noat "Order" "lower_lots") rfl),
  He.noat_ok (c.d.fact 61 (f := .noat "Order" "row_lines") rfl),
  He.noat_ok (c.d.fact 62 (f := .noat "Order" "line_depths") rfl),
  He.glo_ok X G (c.d.fact 63 (f := .glo "BusError") rfl),
  He.glo_ok X G (c.d.fact 64 (f := .glo "BadOrder") rfl),
  He.glo_ok X G (c.d.fact 65 (f := .glo "BadLot") rfl),
  He.glo_ok X G (c.d.fact 66 (f := .glo "NoLine") rfl),
  He.glo_ok X G (c.d.fact 67 (f := .glo "NoStation") rfl),
  He.glo_ok X G (c.d.fact 68 (f := .glo "NoDrive") rfl),
  He.glo_ok X G (c.d.fact 69 (f := .glo "TwiceCode") rfl),
  He.glo_ok X G (c.d.fact 70 (f := .glo "NotGood") rfl),
  He.glo_ok X G (c.d.fact 71 (f := .glo "NoLeader") rfl),
  He.glo_ok X G (c.d.fact 72 (f := .glo "Nobody") rfl),
  He.glo_ok X G (c.d.fact 73 (f := .glo "TooEarly") rfl),
  He.glo_ok X G (c.d.fact 74 (f := .glo "NoRank") rfl),
  He.glo_ok X G (c.d.fact 75 (f := .glo "NoStep") rfl),
  He.glo_ok X G (c.d.fact 76 (f := .glo "NoBeat") rfl),
  He.glo_ok X G (c.d.fact 77 (f := .glo "NoOrder") rfl),
  He.glo_ok X G (c.d.fact 78 (f := .glo "BadWish") rfl),
  He.glo_ok X G (c.d.fact 79 (f := .glo "BadRow") rfl),
  He.glo_ok X G (c.d.fact 80 (f := .glo "BadLevels") rfl),
  He.glo_ok X G (c.d.fact 81 (f := .glo "BadChain") rfl),
  He.glo_ok X G (c.d.fact 82 (f := .glo "BadParts") rfl),
  He.glo_ok X G (c.d.fact 83 (f := .glo "BadPlan") rfl),
  He.glo_ok X G (c.d.fact 84 (f := .glo "BadWord") rfl),
  He.glo_ok X G (c.d.fact 85 (f := .glo "BadText") rfl),
  He.glo_ok X G (c.d.fact 86 (f := .glo "TooMany") rfl),
  He.glo_ok X G (c.d.fact 87 (f := .glo "BadSize") rfl),
  He.exm_ok (c.d.fact 88 (f := .exm "BadLot" "BusError" true) rfl),
  He.exm_ok (c.d.fact 89 (f := .exm "TooMany" "BusError" true) rfl),
  errK_ok (P := pw) ((He.ba (He.ba (He.ba (He.ba (He.ba (He.ba (He.ba (He.ba (He.ba c.e).1).1).1).1).1).1).1).1).1) (by decide +kernel),
  fun d hd => of_decide_eq_true (List.all_eq_true.mp ((He.ba (He.ba (He.ba (He.ba (He.ba (He.ba (He.ba (He.ba (He.ba c.e).1).1).1).1).1).1).1).1).2) d hd),
  of_decide_eq_true ((He.ba (He.ba (He.ba (He.ba (He.ba (He.ba (He.ba (He.ba c.e).1).1).1).1).1).1).1).2),
  c.fnx (d := u_BadLot) (List.mem_of_getElem? (i := 2) rfl),
  errK_ok (P := pw) ((He.ba (He.ba (He.ba (He.ba (He.ba (He.ba (He.ba c.e).1).1).1).1).1).1).2) (by decide +kernel),
  fun d hd => of_decide_eq_true (List.all_eq_true.mp ((He.ba (He.ba (He.ba (He.ba (He.ba (He.ba c.e).1).1).1).1).1).2) d hd),
  of_decide_eq_true ((He.ba (He.ba (He.ba (He.ba (He.ba c.e).1).1).1).1).2),
  c.fnx (d := u_TooMany) (List.mem_of_getElem? (i := 3) rfl),
  propB_ok ((He.ba (He.ba (He.ba (He.ba c.e).1).1).1).2),
  c.fnx (d := u_Order_n) (List.mem_of_getElem? (i := 0) rfl),
  propB_ok ((He.ba (He.ba (He.ba c.e).1).1).2),
  c.fnx (d := u_Order_all_lines) (List.mem_of_getElem? (i := 1) rfl),
  ccB_ok ((He.ba (He.ba c.e).1).2),
  of_decide_eq_true ((He.ba c.e).2)⟩
end Q

set_option Elab.async false
set_option linter.all false
set_option maxRecDepth 100000
set_option maxHeartbeats 0
namespace Q
open PySem PySem.Spec PyProof.Rows L2
theorem run (w : World) : HandSHeadRun.RunEq R (PySem.W.view R.prog [75]) hk ob 10000 names w := by
  intro os
  kernel_rfl
end Q

/-! Plain Lean: lots as numbers from nought, their bits. -/
namespace Mb
/-- the bits of a lot below m, ascending -/
def bitsTo (m n : Nat) : List Nat := (List.range m).filter fun b => n.testBit b
theorem mem_bitsTo {m n b : Nat} : b ∈ bitsTo m n ↔ b < m ∧ n.testBit b = true := by
  unfold bitsTo
  rw [List.mem_filter, List.mem_range]
theorem bitsTo_succ (m n : Nat) : bitsTo (m + 1) n = bitsTo m n ++ (if n.testBit m then [m] else []) := by
  unfold bitsTo
  rw [List.range_succ, List.filter_append]
  cases h : n.testBit m <;> simp [h]
theorem tb_lt {n k b : Nat} (h : n < 2 ^ k) (hb : n.testBit b = true) : b < k := by
  by_cases c : b < k
  · exact c
  · have : n < 2 ^ b := Nat.lt_of_lt_of_le h (Nat.pow_le_pow_right (by decide) (by omega))
    rw [Nat.testBit_lt_two_pow this] at hb
    cases hb
theorem bitsTo_eq {n k m : Nat} (h : n < 2 ^ k) (hm : k ≤ m) : bitsTo m n = bitsTo k n := by
  induction m with
  | zero =>
    have : k = 0 := by omega
    subst this
    rfl
  | succ m ih =>
    by_cases c : k = m + 1
    · subst c; rfl
    · rw [bitsTo_succ, ih (by omega)]
      have : n.testBit m = false := by
        cases e : n.testBit m with
        | false => rfl
        | true =>
          have := tb_lt h e
          omega
      rw [this]
      simp
/-- the bits from t on -/
def bitsFrom (t m n : Nat) : List Nat := (List.range m).filter fun b => decide (t ≤ b) && n.testBit b
/-- n without its least bit -/
theorem low {n : Nat} (h : 0 < n) : ∃ t, n.testBit t = true ∧ (∀ b, b < t → n.testBit b = false) ∧ n - (n &&& (n - 1)) = 2 ^ t ∧ ∀ b, (n &&& (n - 1)).testBit b = (n.testBit b && decide (b ≠ t)) := by
  induction n using Nat.strongRecOn with
  | _ n ih =>
    by_cases ho : n % 2 = 1
    · refine ⟨0, ?_, fun b hb => absurd hb (Nat.not_lt_zero _), ?_, fun b => ?_⟩
      · rw [Nat.testBit_zero, ho]; rfl
      · have : n &&& (n - 1) = n - 1 := by
          apply Nat.eq_of_testBit_eq
          intro i
          rw [Nat.testBit_and]
          cases i with
          | zero =>
            rw [Nat.testBit_zero, Nat.testBit_zero]
            have : (n - 1) % 2 = 0 := by omega
            rw [this]; simp
          | succ i =>
            rw [Nat.testBit_succ, Nat.testBit_succ]
            have : (n - 1) / 2 = n / 2 := by omega
            rw [this]; simp
        rw [this]
        show n - (n - 1) = 1
        omega
      · rw [Nat.testBit_and]
        cases b with
        | zero =>
          rw [Nat.testBit_zero, Nat.testBit_zero]
          have : (n - 1) % 2 = 0 := by omega
          rw [this]; simp
        | succ b =>
          rw [Nat.testBit_succ, Nat.testBit_succ]
          have : (n - 1) / 2 = n / 2 := by omega
          rw [this]; simp
    · obtain ⟨t, h1, h2, h3, h4⟩ := ih (n / 2) (by omega) (by omega)
      have hd : (n - 1) / 2 = n / 2 - 1 := by omega
      have ha : (n &&& (n - 1)) = 2 * (n / 2 &&& (n / 2 - 1)) := by
        apply Nat.eq_of_testBit_eq
        intro i
        cases i with
        | zero =>
          rw [Nat.testBit_and, Nat.testBit_zero, Nat.testBit_zero, Nat.testBit_zero]
          have : n % 2 = 0 := by omega
          rw [this]
          have : (2 * (n / 2 &&& (n / 2 - 1))) % 2 = 0 := by omega
          rw [this]
          simp
        | succ i =>
          rw [Nat.testBit_and, Nat.testBit_succ, Nat.testBit_succ, Nat.testBit_succ, hd]
          have : 2 * (n / 2 &&& (n / 2 - 1)) / 2 = (n / 2 &&& (n / 2 - 1)) := by omega
          rw [this, Nat.testBit_and]
      refine ⟨t + 1, ?_, fun b hb => ?_, ?_, fun b => ?_⟩
      · rw [Nat.testBit_succ]; exact h1
      · cases b with
        | zero =>
          rw [Nat.testBit_zero]
          have : n % 2 = 0 := by omega
          rw [this]; rfl
        | succ b =>
          rw [Nat.testBit_succ]
          exact h2 b (by omega)
      · rw [ha, Nat.pow_succ]
        have : (n / 2 &&& (n / 2 - 1)) ≤ n / 2 := Nat.and_le_left
        omega
      · rw [ha]
        cases b with
        | zero =>
          rw [Nat.testBit_zero, Nat.testBit_zero]
          have : n % 2 = 0 := by omega
          rw [this]
          have : (2 * (n / 2 &&& (n / 2 - 1))) % 2 = 0 := by omega
          rw [this]
          simp
        | succ b =>
          rw [Nat.testBit_succ, Nat.testBit_succ]
          have : 2 * (n / 2 &&& (n / 2 - 1)) / 2 = (n / 2 &&& (n / 2 - 1)) := by omega
          rw [this, h4]
          simp
theorem bits_cons {m n t : Nat} (ht : n.testBit t = true) (hm : t < m) (hl : ∀ b, b < t → n.testBit b = false) (n' : Nat) (h' : ∀ b, n'.testBit b = (n.testBit b && decide (b ≠ t))) : bitsTo m n = t :: bitsTo m n' := by
  induction m with
  | zero => omega
  | succ m ih =>
    rw [bitsTo_succ, bitsTo_succ]
    by_cases c : t = m
    · subst c
      have z1 : bitsTo t n = [] := by
        rw [List.eq_nil_iff_forall_not_mem]
        intro b hb
        obtain ⟨h1, h2⟩ := mem_bitsTo.mp hb
        rw [hl b h1] at h2
        cases h2
      have z2 : bitsTo t n' = [] := by
        rw [List.eq_nil_iff_forall_not_mem]
        intro b hb
        obtain ⟨h1, h2⟩ := mem_bitsTo.mp hb
        rw [h', hl b h1] at h2
        cases h2
      have z3 : n'.testBit t = false := by rw [h']; simp
      rw [z1, z2, ht, z3]
      rfl
    · rw [ih (by omega)]
      have : n'.testBit m = n.testBit m := by
        rw [h']
        have : decide (m ≠ t) = true := by simp; omega
        rw [this, Bool.and_true]
      rw [this]
      rfl
/-- the bits of a lot of at most 64 bits -/
abbrev bits (n : Nat) : List Nat := bitsTo 64 n
theorem bits_zero : bits 0 = [] := by
  rw [List.eq_nil_iff_forall_not_mem]
  intro b hb
  have := (mem_bitsTo.mp hb).2
  rw [Nat.zero_testBit] at this
  cases this
theorem bits_len (n : Nat) : (bits n).length ≤ 64 := by
  have : ∀ m, (bitsTo m n).length ≤ m := fun m => by
    unfold bitsTo
    exact Nat.le_trans (List.length_filter_le _ _) (by rw [List.length_range]; exact Nat.le_refl _)
  exact this 64
theorem and_lt {n : Nat} (h : 0 < n) : n &&& (n - 1) < n := by
  have := Nat.and_le_right (n := n) (m := n - 1)
  omega
end Mb
namespace Mb
theorem bits_next {n t : Nat} (ht : n.testBit t = true) (hm : t < 64) (hl : ∀ b, b < t → n.testBit b = false) (n' : Nat) (h' : ∀ b, n'.testBit b = (n.testBit b && decide (b ≠ t))) : bits n = t :: bits n' := bits_cons ht hm hl n' h'
theorem mem_bits {n b : Nat} (h : n < 2 ^ 64) : b ∈ bits n ↔ n.testBit b = true := by
  rw [mem_bitsTo]
  exact ⟨fun h => h.2, fun hb => ⟨tb_lt h hb, hb⟩⟩
end Mb

/-! Plain Lean: the closure of pairs, as the program and the law reckon it. -/
namespace Mu
open Mb
def put (u : List Nat) (p : Nat × Nat) : List Nat := u.set p.2 (u.getD p.2 0 ||| 2 ^ p.1)
def wStep (m : Nat) (u : List Nat) (l : Nat) : List Nat := if (u.getD l 0).testBit m then u.set l (u.getD l 0 ||| u.getD m 0) else u
def wRow (n : Nat) (u : List Nat) (m : Nat) : List Nat := (List.range n).foldl (wStep m) u
def ups0 (n : Nat) (ps : List (Nat × Nat)) : List Nat := ps.foldl put (List.replicate n 0)
def ups (n : Nat) (ps : List (Nat × Nat)) : List Nat := (List.range n).foldl (wRow n) (ups0 n ps)
theorem put_len (u : List Nat) (p : Nat × Nat) : (put u p).length = u.length := List.length_set ..
theorem wStep_len (m : Nat) (u : List Nat) (l : Nat) : (wStep m u l).length = u.length := by
  unfold wStep
  split
  · exact List.length_set ..
  · rfl
theorem foldl_len {α : Type} (f : List Nat → α → List Nat) (h : ∀ u a, (f u a).length = u.length) : ∀ (l : List α) (u : List Nat), (l.foldl f u).length = u.length
  | [], _ => rfl
  | a :: l, u => by rw [List.foldl_cons, foldl_len f h l, h]
theorem wRow_len (n : Nat) (u : List Nat) (m : Nat) : (wRow n u m).length = u.length := foldl_len _ (wStep_len m) _ _
theorem ups0_len (n : Nat) (ps : List (Nat × Nat)) : (ups0 n ps).length = n := by
  unfold ups0
  rw [foldl_len _ put_len, List.length_replicate]
theorem ups_len (n : Nat) (ps : List (Nat × Nat)) : (ups n ps).length = n := by
  unfold ups
  rw [foldl_len _ (wRow_len n), ups0_len]
end Mu
namespace Mu
open Mb
/-- the lowers told by the uppers -/
def dRow (u d : List Nat) (l : Nat) : List Nat := (bits (u.getD l 0)).foldl (fun d x => put d (l, x)) d
def downs (u : List Nat) : List Nat := (List.range u.length).foldl (dRow u) (List.replicate u.length 0)
theorem dRow_len (u d : List Nat) (l : Nat) : (dRow u d l).length = d.length := foldl_len _ (fun d x => put_len d (l, x)) _ _
theorem downs_len (u : List Nat) : (downs u).length = u.length := by
  unfold downs
  rw [foldl_len _ (dRow_len u), List.length_replicate]
end Mu
namespace Mu
open Mb
def AllLt (n : Nat) (u : List Nat) : Prop := ∀ x ∈ u, x < 2 ^ n
theorem AllLt.getD {n : Nat} {u : List Nat} (h : AllLt n u) (j : Nat) : u.getD j 0 < 2 ^ n := by
  rw [List.getD_eq_getElem?_getD]
  cases e : u[j]? with
  | none => exact Nat.two_pow_pos n
  | some x => exact h x (List.mem_of_getElem? e)
theorem AllLt.set {n : Nat} {u : List Nat} (h : AllLt n u) {j v : Nat} (hv : v < 2 ^ n) : AllLt n (u.set j v) := fun x hx => by
  rcases List.mem_or_eq_of_mem_set hx with h1 | h1
  · exact h x h1
  · rw [h1]
    exact hv
theorem put_lt {n : Nat} {u : List Nat} (h : AllLt n u) {p : Nat × Nat} (hp : p.1 < n) : AllLt n (put u p) :=
  h.set (Nat.or_lt_two_pow (h.getD _) (Nat.pow_lt_pow_right (by decide) hp))
theorem wStep_lt {n : Nat} {u : List Nat} (h : AllLt n u) (m l : Nat) : AllLt n (wStep m u l) := by
  unfold wStep
  split
  · exact h.set (Nat.or_lt_two_pow (h.getD _) (h.getD _))
  · exact h
theorem foldl_inv {α β : Type} {P : β → Prop} (f : β → α → β) : ∀ (l : List α) (b : β), P b → (∀ b a, a ∈ l → P b → P (f b a)) → P (l.foldl f b)
  | [], _, h, _ => h
  | a :: l, b, h, k => by
    rw [List.foldl_cons]
    exact foldl_inv f l (f b a) (k b a List.mem_cons_self h) fun b' a' ha => k b' a' (List.mem_cons_of_mem _ ha)
theorem ups0_lt {n : Nat} {ps : List (Nat × Nat)} (hb : ∀ p ∈ ps, p.1 < n ∧ p.2 < n) : AllLt n (ups0 n ps) :=
  foldl_inv _ _ _ (fun x hx => by rw [(List.mem_replicate.mp hx).2]; exact Nat.two_pow_pos n) fun _ a ha h => put_lt h (hb a ha).1
theorem ups_lt {n : Nat} {ps : List (Nat × Nat)} (hb : ∀ p ∈ ps, p.1 < n ∧ p.2 < n) : AllLt n (ups n ps) :=
  foldl_inv _ _ _ (ups0_lt hb) fun u m _ h => foldl_inv _ _ _ h fun u' l _ h' => wStep_lt h' m l
end Mu

/-! Plain Lean: lots as sets of bits. -/
namespace Mu
open Mb
theorem or_and_add (a b : Nat) : (a ||| b) + (a &&& b) = a + b := by
  induction a using Nat.strongRecOn generalizing b with
  | _ a ih =>
    by_cases ha : a = 0
    · subst ha; simp
    · have d1 := Nat.div_add_mod a 2
      have d2 := Nat.div_add_mod b 2
      have i := ih (a / 2) (by omega) (b / 2)
      have o1 : (a ||| b) / 2 = a / 2 ||| b / 2 := Nat.or_div_two
      have o3 : (a &&& b) / 2 = a / 2 &&& b / 2 := Nat.and_div_two
      have m1 : (a ||| b) % 2 + (a &&& b) % 2 = a % 2 + b % 2 := by
        have q1 : a % 2 = 0 ∨ a % 2 = 1 := by omega
        have q2 : b % 2 = 0 ∨ b % 2 = 1 := by omega
        have t1 : (a ||| b) % 2 = a % 2 ||| b % 2 := Nat.or_mod_two_pow (n := 1)
        have t3 : (a &&& b) % 2 = a % 2 &&& b % 2 := Nat.and_mod_two_pow (n := 1)
        rw [t1, t3]
        rcases q1 with q1 | q1 <;> rcases q2 with q2 | q2 <;> rw [q1, q2] <;> rfl
      have d3 := Nat.div_add_mod (a ||| b) 2
      have d4 := Nat.div_add_mod (a &&& b) 2
      omega
/-- a without d, d within a -/
theorem sub_xor {a d : Nat} (h : d &&& a = d) : a - d = a ^^^ d := by
  have e := Kt.and_add_or a d
  have e2 := or_and_add a d
  rw [Nat.and_comm, h] at e e2
  omega
theorem sub_bit {a d : Nat} (h : d &&& a = d) (y : Nat) : (a - d).testBit y = (a.testBit y && !d.testBit y) := by
  rw [sub_xor h, Nat.testBit_xor]
  have := congrArg (fun z => z.testBit y) h
  simp only [Nat.testBit_and] at this
  cases h1 : a.testBit y <;> cases h2 : d.testBit y <;> simp_all
theorem less_bit (a b y : Nat) : (a - (a &&& b)).testBit y = (a.testBit y && !b.testBit y) := by
  rw [sub_bit (by rw [Nat.and_comm, ← Nat.and_assoc, Nat.and_self]), Nat.testBit_and]
  cases a.testBit y <;> cases b.testBit y <;> rfl
theorem and_pow_zero {a x : Nat} (h : a.testBit x = false) : a &&& 2 ^ x = 0 := by
  apply Nat.eq_of_testBit_eq
  intro i
  rw [Nat.testBit_and, Nat.testBit_two_pow, Nat.zero_testBit]
  by_cases c : x = i
  · subst c
    rw [h]
    rfl
  · rw [decide_eq_false c, Bool.and_false]
theorem add_or {a x : Nat} (h : a.testBit x = false) : a + 2 ^ x = a ||| 2 ^ x := by
  have := or_and_add a (2 ^ x)
  rw [and_pow_zero h] at this
  omega
/-- a line laid, its lowers taken -/
def rise (ds : List Nat) (cd x : Nat) : Nat := cd + 2 ^ x - ds.getD x 0
theorem sub_of_and {d a : Nat} (h : d &&& a = d) (b : Nat) : d &&& (a ||| b) = d := by
  apply Nat.eq_of_testBit_eq
  intro i
  have := congrArg (fun z => z.testBit i) h
  simp only [Nat.testBit_and] at this
  rw [Nat.testBit_and, Nat.testBit_or]
  cases h1 : d.testBit i <;> simp_all
theorem rise_bit {ds : List Nat} {cd x : Nat} (h : cd.testBit x = false) (hd : ds.getD x 0 &&& cd = ds.getD x 0) (y : Nat) : (rise ds cd x).testBit y = ((cd.testBit y || decide (x = y)) && !(ds.getD x 0).testBit y) := by
  unfold rise
  rw [add_or h, sub_bit (sub_of_and hd _), Nat.testBit_or, Nat.testBit_two_pow]
theorem rise_lt {ds : List Nat} {cd x n : Nat} (h : cd.testBit x = false) (hc : cd < 2 ^ n) (hx : x < n) : rise ds cd x < 2 ^ n := by
  unfold rise
  rw [add_or h]
  exact Nat.lt_of_le_of_lt (Nat.sub_le _ _) (Nat.or_lt_two_pow hc (Nat.pow_lt_pow_right (by decide) hx))
end Mu

set_option Elab.async false
set_option linter.all false
set_option maxRecDepth 100000
set_option maxHeartbeats 2000000
namespace Q
open PySem PySem.Spec PyProof.Rows L2 Hx Er Kt
section
variable {w : World} {K : PySem.W.Frag} {mg : Str → Option Value} {base : Heap}
/-! ### errors -/
theorem e_BadLot (T : Txt K mg) : OkE pw w K mg base "BadLot" "lot" := by
  refine ⟨T.E_BadLot, ?_, T.g_BadLot⟩
  refine fnE1 T.E_BadLot (by simp) T.L_BadLot ⟨rfl, rfl, rfl, by decide +kernel, rfl, by decide +kernel, by decide +kernel, by decide +kernel, rfl, rfl⟩ rfl rfl (fun _ _ _ _ _ _ _ _ us hl => match us, hl with | [_, _], _ => rfl) (fun _ _ _ _ => rfl) (fun _ _ _ _ => rfl) (fun _ => rfl) (fun _ => rfl) (by decide) (by decide) (fun X hN hS => ?_)
  refine ⟨_, pe_joined (.cons (pe_fmt (pe_var (i := 1) (by rw [hN]; rfl) (by rw [hS]; exact Or.inl rfl) (by decide) (by decide))) (.cons pe_str .nil)), fun σ i hσ hi H Q k => ?_⟩
  have z := int_text_len_1921 hi
  refine ⟨.int i, hσ, Or.inr ⟨i, rfl, hi, _, rfl, ?_, _, rfl, ?_, k _⟩⟩
  · rw [Str.length_append, sizeLine_eq]
    show 0 + _ ≤ _
    omega
  · rw [Str.length_append, Str.length_append, sizeLine_eq]
    show 0 + _ + 22 ≤ _
    omega
end
end Q

set_option Elab.async false
set_option linter.all false
set_option maxRecDepth 100000
set_option maxHeartbeats 2000000
namespace Q
open PySem PySem.Spec PyProof.Rows L2 Hx Er Kt Mb
section
variable {w : World} {K : PySem.W.Frag} {mg : Str → Option Value} {base : Heap}
/-! ### lots -/
theorem sc_check_lot : FnScope ["lot"] ["lot"] (defScope s_check_lot) := ⟨rfl, rfl, rfl, by decide +kernel, rfl, by decide +kernel, by decide +kernel⟩
def spChk (K : PySem.W.Frag) : Sp := fun vs H Q E => ∃ i : Int, vs = [.int i] ∧ smallI i ∧ (0 ≤ i ∧ i < 2 ^ 64 → Q .non H) ∧
  (¬(0 ≤ i ∧ i < 2 ^ 64) → ∀ d, H d = none → E (.ref (eC K "BadLot")) (some d) (upd H d (.xd [("lot", .int i)])))
theorem check_lot_ok (T : Txt K mg) : OkF pw w K mg base "check_lot" 3 ["lot"] (spChk K) := by
  refine mkOk (k := 2) T.F_check_lot T.g_check_lot (fun _ _ _ _ _ _ _ us hl => match us, hl with | [_], _ => rfl) sc_check_lot (fun vs H Q E h => ?_) (fun f cdv A outer s H vs Q E hr h => ?_)
  · obtain ⟨i, rfl, _⟩ := h
    rfl
  · obtain ⟨i, rfl, sm, k1, k2⟩ := h
    refine ⟨_, (pss_one (ps_if (PW.pt (pw_or (pt_cmpR op_lt (pv 0) pe_int (nomark _)) (pw_or1 (pt_cmpR op_gt (pe_bits (pv 0)) (pgi T.i_MOST_BITS) (nomark _))))) (pss_one (er1 (e_BadLot T) hr tkE rfl (pv 0))) pss_nil)), ?_⟩
    refine ⟨_, rfl, _, _, rfl, rfl, _, rfl, ?_⟩
    refine iteD (fun h => ?_) (fun h => ?_)
    · refine ⟨_, rfl, i, rfl, sm, k2 (by omega)⟩
    · refine ⟨_, rfl, _, rfl, _, _, rfl, rfl, _, rfl, ?_⟩
      have e : Builtin.Int.intBits i ≤ 64 ↔ i.natAbs < 2 ^ 64 := bitsI
      refine iteD (fun h2 => ?_) (fun h2 => ?_)
      · refine ⟨_, rfl, i, rfl, sm, k2 (by omega)⟩
      · exact k1 (by omega)
theorem sc_members : FnScope ["lot", "found", "left", "least"] ["lot"] (defScope s_members) := ⟨rfl, rfl, rfl, by decide +kernel, rfl, by decide +kernel, by decide +kernel⟩
def spMem : Sp := fun vs H Q _ => ∃ n : Nat, vs = [nV n] ∧ n < 2 ^ 64 ∧ ∀ H' p, Nw H H' p (.lst ((bits n).map nV)) → Q (.ref p) H'
theorem members_ok (T : Txt K mg) : OkF pw w K mg base "members" 4 ["lot"] spMem := by
  have G_check_lot := check_lot_ok (w := w) (base := base) T
  refine mkOk (k := 3) T.F_members T.g_members (fun _ _ _ _ _ _ _ us hl => match us, hl with | [_], _ => rfl) sc_members (fun vs H Q E h => ?_) (fun f cdv A outer s H vs Q E hr h => ?_)
  · obtain ⟨n, rfl, _⟩ := h
    rfl
  · obtain ⟨n, rfl, hn, k⟩ := h
    refine ⟨_, (pss_cons (ps_expr (cl G_check_lot hr (pa_cons (pv 0) pa_nil)))
      (pss_cons (ps_set (i := 1) sc_members.nd rfl (Or.inl rfl) (pe_lst pa_nil))
      (pss_cons (ps_set (i := 2) sc_members.nd rfl (Or.inl rfl) (pv 0))
      (pss_cons (ps_while passW (pt_cmpR op_gt (pv 2) pe_int (nomark _))
      (pss_cons (ps_set (i := 3) sc_members.nd rfl (Or.inl rfl) (pe_op op_and (pv 2) (pe_un un_neg (pv 2))))
      (pss_cons (ps_expr (pe_bm PySem.F.plainAttrs_list PySem.F.slot_list_append PySem.F.type_list_append mt_append (pv 1) (pa_cons (pe_op op_sub (pe_bits (pv 3)) pe_int) pa_nil)))
      (pss_one (ps_set (i := 2) sc_members.nd rfl (Or.inl rfl) (pe_op op_sub (pv 2) (pv 3)))))))
      (pss_one (ps_ret (pv 1))))))), ?_⟩
    refine ⟨_, rfl, (n : Int), rfl, smallN (k := 64) (by omega) (by decide) (by decide), fun _ => ?_, fun h => absurd (⟨by omega, by omega⟩ : 0 ≤ (n : Int) ∧ (n : Int) < 2 ^ 64) h⟩
    refine ⟨Nat.zero_le _, fun l hl => ?_⟩
    refine ⟨_, rfl, ?_⟩
    refine while_by (fun σ H' => ∃ (m : Nat) (xs : List Nat) (y : Option V), σ = [some (nV n), some (.ref l), some (nV m), y] ∧ Nw H H' l (.lst (xs.map nV)) ∧ bits n = xs ++ bits m ∧ m < 2 ^ 64)
      (fun σ _ => match σ with | [_, _, some (.int m), _] => m.toNat | _ => 0) ⟨n, [], none, rfl, Nw.mk0 hl, rfl, hn⟩ ?_ ?_
    · rintro σ H1 ⟨m, xs, y, rfl, nw, eb, hm⟩
      refine ⟨_, rfl, _, _, rfl, rfl, _, rfl, ?_⟩
      refine iteD (fun h => ?_) (fun h => ?_)
      · have m0 : 0 < m := by omega
        obtain ⟨t, b1, b2, b3, b4⟩ := low m0
        have le := and_lt m0
        have t64 := tb_lt hm b1
        refine ⟨_, rfl, _, rfl, _, rfl, _, _, rfl, rfl, ?_⟩
        refine (show gName 3 (.int (Builtin.bitAnd (m : Int) (-(m : Int)))) [some (nV n), some (.ref l), some (nV m), y] H1 _ from ?_)
        rw [and_neg m m0, b3]
        refine ⟨.ref l, rfl, Or.inl ⟨rfl, _, SqL.of nw.at_⟩, _, rfl, _, rfl, _, _, rfl, rfl, l, _, _, rfl, rfl, nw.at_, ?_, ?_⟩
        · have z := bits_len n
          rw [eb, List.length_append] at z
          rw [List.length_map, sizeLine_eq]
          omega
        · refine ⟨_, rfl, _, rfl, _, _, rfl, rfl, ?_⟩
          have e1 : ((m : Int) - ((2 ^ t : Nat) : Int)) = ((m &&& (m - 1) : Nat) : Int) := by omega
          have e2 : ((Builtin.Int.intBits ((2 ^ t : Nat) : Int) : Nat) : Int) - 1 = (t : Int) := by
            rw [bit_len_pow]
            omega
          refine ⟨⟨m &&& (m - 1), xs ++ [t], some (nV (2 ^ t)), ?_, ?_, ?_, by omega⟩, ?_⟩
          · show [some (nV n), some (V.ref l), some (V.int ((m : Int) - ((2 ^ t : Nat) : Int))), some (nV (2 ^ t))] = _
            rw [e1]
          · rw [List.map_append]
            show Nw H (upd H1 l (.lst (xs.map nV ++ [.int (((Builtin.Int.intBits ((2 ^ t : Nat) : Int) : Nat) : Int) - 1)]))) l _
            rw [e2]
            exact nw.put
          · rw [eb, bits_next b1 t64 b2 _ b4, List.append_assoc]
            rfl
          · show ((m : Int) - ((2 ^ t : Nat) : Int)).toNat < ((m : Nat) : Int).toNat
            omega
      · have m0 : m = 0 := by omega
        subst m0
        rw [bits_zero, List.append_nil] at eb
        refine ⟨_, rfl, k _ _ ?_⟩
        rw [eb]
        exact nw
    · intro σ H1 Q1 Q2 hq h
      obtain ⟨v, e1, i, j, e2, e3, b, e4, q⟩ := h
      exact ⟨v, e1, i, j, e2, e3, b, e4, hq _ _ q⟩
end
end Q

set_option Elab.async false
set_option linter.all false
set_option maxRecDepth 100000
set_option maxHeartbeats 2000000
namespace Q
open PySem PySem.Spec PyProof.Rows L2 Hx Er Kt Mb Mu
section
variable {w : World} {K : PySem.W.Frag} {mg : Str → Option Value} {base : Heap}
theorem sc_closed_uppers : FnScope ["n", "pairs", "uppers", "line", "upper", "lower", "middle"] ["n", "pairs"] (defScope s_closed_uppers) := ⟨rfl, rfl, rfl, by decide +kernel, rfl, by decide +kernel, by decide +kernel⟩
def spUps : Sp := fun vs H Q _ => ∃ (n : Nat) (a : Addr) (ps : List (Nat × Nat)), vs = [nV n, .ref a] ∧ n ≤ 64 ∧ LPairs H a ps ∧ (∀ p ∈ ps, p.1 < n ∧ p.2 < n) ∧ ∀ H' p, Nw H H' p (.lst ((ups n ps).map nV)) → Q (.ref p) H'
theorem closed_uppers_ok (T : Txt K mg) : OkF pw w K mg base "closed_uppers" 4 ["n", "pairs"] spUps := by
  refine mkOk (k := 3) T.F_closed_uppers T.g_closed_uppers (fun _ _ _ _ _ _ _ us hl => match us, hl with | [_, _], _ => rfl) sc_closed_uppers (fun vs H Q E h => ?_) (fun f cdv A outer s H vs Q E hr h => ?_)
  · obtain ⟨n, a, ps, rfl, _⟩ := h
    rfl
  · obtain ⟨n, a, ps, rfl, hn, hp, hb, k⟩ := h
    refine ⟨_, (pss_cons (ps_setLc (i := 2) (own := [("line", 3)]) rfl sc_closed_uppers.nd rfl rfl (sw_true rfl rfl rfl (by decide +kernel)) (pi_range1 (by rfl) T.z_range (pa_cons (pv 0) pa_nil)) (blkOk_by (N := ["n", "pairs", "uppers", "line", "upper", "lower", "middle"]) (sc := defScope s_closed_uppers) (by decide +kernel)) (fun _ _ _ _ _ => (pg_name (i := 3) sc_closed_uppers.nd rfl (Or.inl rfl))) (fun _ _ _ _ _ => pts_nil) (fun _ _ _ _ _ => pe_int))
      (pss_cons (ps_for passW rfl (pi_list (pv 1)) (pg_tup rfl (pgs_cons (pg_name (i := 4) sc_closed_uppers.nd rfl (Or.inl rfl)) (pgs_cons (pg_name (i := 5) sc_closed_uppers.nd rfl (Or.inl rfl)) pgs_nil)))
      (pss_one (ps_asg (pe_op op_orN (pe_ix ix_list (pv 2) (pv 5) (fun _ _ => rfl)) (pe_op op_shl1 pe_int (pv 4))) (pg_sub (pv 2) (pv 5) set_list))))
      (pss_cons (ps_for passW rfl (pi_range1 (by rfl) T.z_range (pa_cons (pv 0) pa_nil)) (pg_name (i := 6) sc_closed_uppers.nd rfl (Or.inl rfl))
      (pss_one (ps_for passW rfl (pi_range1 (by rfl) T.z_range (pa_cons (pv 0) pa_nil)) (pg_name (i := 3) sc_closed_uppers.nd rfl (Or.inl rfl))
      (pss_one (ps_if (pt_cmpR op_eq (pe_op op_andN (pe_op op_shrN2 (pe_ix ix_list (pv 2) (pv 3) (fun _ _ => rfl)) (pv 6)) pe_int) pe_int (nomark _)) (pss_one (ps_asg (pe_op op_orN (pe_ix ix_list (pv 2) (pv 3) (fun _ _ => rfl)) (pe_ix ix_list (pv 2) (pv 6) (fun _ _ => rfl))) (pg_sub (pv 2) (pv 3) set_list))) pss_nil)))))
      (pss_one (ps_ret (pv 2)))))), ?_⟩
    -- uppers = [0 for line in range(n)]
    refine ⟨_, rfl, _, rfl, by omega, by omega, fun l hl => ?_⟩
    refine lcN (n := n) (fun i G => Nw H G l (.lst ((List.replicate i 0).map nV))) (Nw.mk0 hl) (fun i G hi nw => ?_) (fun G nw => ?_)
    · refine ⟨rfl, _, nw.at_, by rw [List.length_map, List.length_replicate, sizeLine_eq]; omega, ?_⟩
      rw [List.replicate_succ']
      exact (mapp (List.replicate i 0) 0) ▸ nw.put
    · -- the pairs
      obtain ⟨as, ha, hq⟩ := hp
      refine ⟨_, rfl, a, rfl, ⟨_, SqL.of (nw.same _ _ ha)⟩, ?_⟩
      refine for_list (K := K) (a := a) (xs := as.map V.ref) (fun i σ G => ∃ y3 y4 y5, σ = [some (nV n), some (.ref a), some (.ref l), y3, y4, y5, none] ∧ Nw H G l (.lst (((ps.take i).foldl put (List.replicate n 0)).map nV)))
        ⟨_, _, _, rfl, nw⟩ (fun i σ G _ ⟨_, _, _, _, z⟩ => SqL.of (z.same _ _ ha)) ?_ ?_
      · rintro i x σ G hi ⟨y3, y4, y5, rfl, nw⟩
        obtain ⟨b, hb1, rfl⟩ := ref_get hi
        have hlt : i < ps.length := by
          rw [← hq.1]
          exact (List.getElem?_eq_some_iff.mp hb1).1
        have hpi : ps[i]? = some ps[i] := List.getElem?_eq_getElem hlt
        obtain ⟨u1, u2⟩ := hb ps[i] (List.getElem_mem hlt)
        have hbt := nw.same _ _ (hq.2 i b ps[i] hb1 hpi)
        refine ⟨b, _, rfl, SqT.of hbt, rfl, _, _, rfl, _, _, rfl, rfl, ?_⟩
        have ul : ((ps.take i).foldl put (List.replicate n 0)).length = n := by rw [foldl_len _ put_len, List.length_replicate]
        have g5 := mget (xs := (ps.take i).foldl put (List.replicate n 0)) (j := ps[i].2) (by omega)
        refine ⟨_, rfl, _, rfl, rdV nw.at_ g5 ⟨_, rfl, _, rfl, rfl, by omega, _, _, rfl, rfl, ?_⟩⟩
        refine ⟨_, rfl, _, rfl, wrV nw.at_ (by rw [List.length_map]; omega) ?_⟩
        rw [mset]
        refine ⟨_, _, _, rfl, ?_⟩
        rw [foldl_take _ _ hpi]
        exact nw.put
      · rintro σ G ⟨y3, y4, y5, rfl, nw⟩
        rw [List.length_map, hq.1, List.take_length] at nw
        -- the closure
        refine ⟨_, rfl, _, rfl, by omega, by omega, ?_⟩
        refine forN (n := n) (fun m σ G => ∃ y3 y4 y5 y6, σ = [some (nV n), some (.ref a), some (.ref l), y3, y4, y5, y6] ∧ Nw H G l (.lst (((List.range m).foldl (wRow n) (ups0 n ps)).map nV))) ⟨_, _, _, _, rfl, nw⟩ ?_ ?_
        · rintro m σ G hm ⟨y3, y4, y5, y6, rfl, nw⟩
          refine ⟨_, rfl, _, rfl, by omega, by omega, ?_⟩
          have ul0 : ((List.range m).foldl (wRow n) (ups0 n ps)).length = n := by rw [foldl_len _ (wRow_len n), ups0_len]
          refine forN (n := n) (fun j σ G => ∃ y3 y4 y5, σ = [some (nV n), some (.ref a), some (.ref l), y3, y4, y5, some (nV m)] ∧ Nw H G l (.lst (((List.range j).foldl (wStep m) ((List.range m).foldl (wRow n) (ups0 n ps))).map nV))) ⟨_, _, _, rfl, nw⟩ ?_ ?_
          · rintro j σ G hj ⟨y3, y4, y5, rfl, nw⟩
            have ul : ((List.range j).foldl (wStep m) ((List.range m).foldl (wRow n) (ups0 n ps))).length = n := by rw [foldl_len _ (wStep_len m), ul0]
            have g3 := mget (xs := (List.range j).foldl (wStep m) ((List.range m).foldl (wRow n) (ups0 n ps))) (j := j) (by omega)
            have g6 := mget (xs := (List.range j).foldl (wStep m) ((List.range m).foldl (wRow n) (ups0 n ps))) (j := m) (by omega)
            refine ⟨_, rfl, _, rfl, rdV nw.at_ g3 ⟨_, rfl, _, _, rfl, rfl, _, 1, rfl, rfl, rfl, _, rfl, ?_⟩⟩
            refine iteD (fun c => ?_) (fun c => ?_)
            · have c' := (tb _ _).mp c
              refine ⟨_, rfl, _, rfl, rdV nw.at_ g3 ⟨_, rfl, _, rfl, rdV nw.at_ g6 ⟨_, _, rfl, rfl, ?_⟩⟩⟩
              refine ⟨_, rfl, _, rfl, wrV nw.at_ (by rw [List.length_map]; omega) ?_⟩
              rw [mset]
              refine ⟨_, _, _, rfl, ?_⟩
              rw [foldl_range, wStep, if_pos c']
              exact nw.put
            · have c' : ¬ _ := fun h => c ((tb _ _).mpr h)
              refine ⟨_, _, _, rfl, ?_⟩
              rw [foldl_range, wStep, if_neg c']
              exact nw
          · rintro σ G ⟨y3, y4, y5, rfl, nw⟩
            refine ⟨_, _, _, _, rfl, ?_⟩
            rw [foldl_range]
            exact nw
        · rintro σ G ⟨y3, y4, y5, y6, rfl, nw⟩
          exact ⟨_, rfl, k _ _ nw⟩
end
end Q

set_option Elab.async false
set_option linter.all false
set_option maxRecDepth 100000
set_option maxHeartbeats 2000000
namespace Q
open PySem PySem.Spec PyProof.Rows L2 Hx Er Kt Mb Mu
section
variable {w : World} {K : PySem.W.Frag} {mg : Str → Option Value} {base : Heap}
theorem sc_turned : FnScope ["uppers", "lowers", "line", "upper"] ["uppers"] (defScope s_turned) := ⟨rfl, rfl, rfl, by decide +kernel, rfl, by decide +kernel, by decide +kernel⟩
def spTurn : Sp := fun vs H Q _ => ∃ (a : Addr) (us : List Nat), vs = [.ref a] ∧ H a = some (.lst (us.map nV)) ∧ us.length ≤ 64 ∧ (∀ u ∈ us, u < 2 ^ us.length) ∧ ∀ H' p, Nw H H' p (.lst ((downs us).map nV)) → Q (.ref p) H'
theorem small_row {us : List Nat} (hz : us.length ≤ 64) (hb : ∀ u ∈ us, u < 2 ^ us.length) {i : Nat} (hi : i < us.length) : us.getD i 0 < 2 ^ 64 ∧ ∀ x ∈ bits (us.getD i 0), x < us.length := by
  have h1 := hb _ (nat_mem (get_of_lt hi))
  have h2 : us.getD i 0 < 2 ^ 64 := Nat.lt_of_lt_of_le h1 (Nat.pow_le_pow_right (by decide) hz)
  exact ⟨h2, fun x hx => tb_lt h1 ((mem_bits h2).mp hx)⟩
theorem turned_ok (T : Txt K mg) : OkF pw w K mg base "turned" 5 ["uppers"] spTurn := by
  have G_members := members_ok (w := w) (base := base) T
  refine mkOk (k := 4) T.F_turned T.g_turned (fun _ _ _ _ _ _ _ us hl => match us, hl with | [_], _ => rfl) sc_turned (fun vs H Q E h => ?_) (fun f cdv A outer s H vs Q E hr h => ?_)
  · obtain ⟨a, us, rfl, _⟩ := h
    rfl
  · obtain ⟨a, us, rfl, ha, hz, hb, k⟩ := h
    refine ⟨_, (pss_cons (ps_setLc (i := 1) (own := [("line", 2)]) rfl sc_turned.nd rfl rfl (sw_true rfl rfl rfl (by decide +kernel)) (pi_list (pv 0)) (blkOk_by (N := ["uppers", "lowers", "line", "upper"]) (sc := defScope s_turned) (by decide +kernel)) (fun _ _ _ _ _ => (pg_name (i := 2) sc_turned.nd rfl (Or.inl rfl))) (fun _ _ _ _ _ => pts_nil) (fun _ _ _ _ _ => pe_int))
      (pss_cons (ps_for passW rfl (pi_range1 (by rfl) T.z_range (pa_cons (pe_callB call_len_seq (by rfl) T.z_len PySem.boot_len (pa_cons (pv 0) pa_nil)) pa_nil)) (pg_name (i := 2) sc_turned.nd rfl (Or.inl rfl))
      (pss_one (ps_for passW rfl (pi_list (cl G_members hr (pa_cons (pe_ix ix_list (pv 0) (pv 2) (fun _ _ => rfl)) pa_nil))) (pg_name (i := 3) sc_turned.nd rfl (Or.inl rfl))
      (pss_one (ps_asg (pe_op op_orN (pe_ix ix_list (pv 1) (pv 3) (fun _ _ => rfl)) (pe_op op_shl1 pe_int (pv 2))) (pg_sub (pv 1) (pv 3) set_list))))))
      (pss_one (ps_ret (pv 1))))), ?_⟩
    refine ⟨_, rfl, a, rfl, ⟨_, SqL.of ha⟩, fun l hl => ?_⟩
    refine lc_list (K := K) (a := a) (xs := us.map nV) (fun i G => Nw H G l (.lst ((List.replicate i 0).map nV))) (Nw.mk0 hl) (fun i G _ nw => SqL.of (nw.same _ _ ha)) (fun i x G hi nw => ?_) (fun G nw => ?_)
    · have hlt := (List.getElem?_eq_some_iff.mp hi).1
      rw [List.length_map] at hlt
      refine ⟨rfl, _, nw.at_, by rw [List.length_map, List.length_replicate, sizeLine_eq]; omega, ?_⟩
      rw [List.replicate_succ']
      exact (mapp (List.replicate i 0) 0) ▸ nw.put
    · rw [List.length_map] at nw
      refine ⟨_, rfl, a, _, rfl, Or.inl (SqL.of (nw.same _ _ ha)), _, rfl, by rw [List.length_map]; omega, by rw [List.length_map]; omega, ?_⟩
      refine forN (n := (us.map nV).length) (fun i σ G => ∃ y2 y3, σ = [some (.ref a), some (.ref l), y2, y3] ∧ Nw H G l (.lst (((List.range i).foldl (dRow us) (List.replicate us.length 0)).map nV))) ⟨_, _, rfl, nw⟩ ?_ ?_
      · rintro i σ G hi ⟨y2, y3, rfl, nw⟩
        rw [List.length_map] at hi
        obtain ⟨s1, s2⟩ := small_row hz hb hi
        have ul0 : ((List.range i).foldl (dRow us) (List.replicate us.length 0)).length = us.length := by rw [foldl_len _ (dRow_len us), List.length_replicate]
        refine ⟨_, rfl, _, rfl, rdV (nw.same _ _ ha) (mget hi) ⟨_, rfl, s1, fun H2 p np => ⟨p, rfl, ⟨_, SqL.of np.at_⟩, ?_⟩⟩⟩
        refine for_list (K := K) (a := p) (xs := (bits (us.getD i 0)).map nV) (fun j σ G2 => ∃ y3, σ = [some (.ref a), some (.ref l), some (nV i), y3] ∧ G2 p = some (.lst ((bits (us.getD i 0)).map nV)) ∧ Nw H G2 l (.lst ((((bits (us.getD i 0)).take j).foldl (fun d x => put d (i, x)) ((List.range i).foldl (dRow us) (List.replicate us.length 0))).map nV)))
          ⟨_, rfl, np.at_, nw.more np.same⟩ (fun j σ G2 _ ⟨_, _, z, _⟩ => SqL.of z) ?_ ?_
        · rintro j x σ G2 hj ⟨y3, rfl, hp, nv⟩
          obtain ⟨m, hm, rfl⟩ := nat_get hj
          have m1 := s2 m (nat_mem hm)
          have ul : (((bits (us.getD i 0)).take j).foldl (fun d x => put d (i, x)) ((List.range i).foldl (dRow us) (List.replicate us.length 0))).length = us.length := by rw [foldl_len _ (fun d x => put_len d (i, x)), ul0]
          refine ⟨_, rfl, _, rfl, rdV nv.at_ (mget (by omega)) ⟨_, rfl, _, rfl, rfl, by omega, _, _, rfl, rfl, ?_⟩⟩
          refine ⟨_, rfl, _, rfl, wrV nv.at_ (by rw [List.length_map]; omega) ?_⟩
          rw [mset]
          refine ⟨_, rfl, ?_, ?_⟩
          · rw [upd_ne (nw_ne nw np)]
            exact hp
          · rw [foldl_take _ _ hm]
            exact nv.put
        · rintro σ G2 ⟨y3, rfl, hp, nv⟩
          rw [List.length_map, List.take_length] at nv
          refine ⟨_, _, rfl, ?_⟩
          rw [foldl_range]
          exact nv
      · rintro σ G ⟨y2, y3, rfl, nw⟩
        rw [List.length_map] at nw
        exact ⟨_, rfl, k _ _ nw⟩
end
end Q

set_option Elab.async false
set_option linter.all false
set_option maxRecDepth 100000
set_option maxHeartbeats 2000000
namespace Q
open PySem PySem.Spec PyProof.Rows L2 Hx Er Kt Mb Mu
section
variable {w : World} {K : PySem.W.Frag} {mg : Str → Option Value} {base : Heap}
theorem sc_row_of : FnScope ["lowers", "row", "taken", "spare", "line"] ["lowers"] (defScope s_row_of) := ⟨rfl, rfl, rfl, by decide +kernel, rfl, by decide +kernel, by decide +kernel⟩
def spRow : Sp := fun vs H Q _ => ∃ (a : Addr) (ls : List Nat), vs = [.ref a] ∧ H a = some (.lst (ls.map nV)) ∧ ls.length ≤ 64 ∧ ∀ H' p (xs : List Nat), xs.length ≤ ls.length → (∀ x ∈ xs, x < ls.length) → Nw H H' p (.lst (xs.map nV)) → Q (.ref p) H'
theorem row_of_ok (T : Txt K mg) : OkF pw w K mg base "row_of" 5 ["lowers"] spRow := by
  refine mkOk (k := 4) T.F_row_of T.g_row_of (fun _ _ _ _ _ _ _ us hl => match us, hl with | [_], _ => rfl) sc_row_of (fun vs H Q E h => ?_) (fun f cdv A outer s H vs Q E hr h => ?_)
  · obtain ⟨a, us, rfl, _⟩ := h
    rfl
  · obtain ⟨a, ls, rfl, ha, hz, k⟩ := h
    refine ⟨_, (pss_cons (ps_set (i := 1) sc_row_of.nd rfl (Or.inl rfl) (pe_lst pa_nil))
      (pss_cons (ps_set (i := 2) sc_row_of.nd rfl (Or.inl rfl) pe_int)
      (pss_cons (ps_for passW rfl (pi_range1 (by rfl) T.z_range (pa_cons (pe_callB call_len_seq (by rfl) T.z_len PySem.boot_len (pa_cons (pv 0) pa_nil)) pa_nil)) (pg_name (i := 3) sc_row_of.nd rfl (Or.inl rfl))
      (pss_one (ps_for passW rfl (pi_range1 (by rfl) T.z_range (pa_cons (pe_callB call_len_seq (by rfl) T.z_len PySem.boot_len (pa_cons (pv 0) pa_nil)) pa_nil)) (pg_name (i := 4) sc_row_of.nd rfl (Or.inl rfl))
      (pss_one (ps_if (PW.pt (pw_and (pt_cmpR op_eq (pe_op op_andN (pe_op op_shrN2 (pv 2) (pv 4)) pe_int) pe_int (nomark _)) (pw_and1 (pt_cmpR op_eq (pe_op op_andN (pe_ix ix_list (pv 0) (pv 4) (fun _ _ => rfl)) (pv 2)) (pe_ix ix_list (pv 0) (pv 4) (fun _ _ => rfl)) (nomark _))))) (pss_cons (ps_expr (pe_bm PySem.F.plainAttrs_list PySem.F.slot_list_append PySem.F.type_list_append mt_append (pv 1) (pa_cons (pv 4) pa_nil)))
      (pss_cons (ps_set (i := 2) sc_row_of.nd rfl (Or.inl rfl) (pe_op op_orN (pv 2) (pe_op op_shl1 pe_int (pv 4))))
      (pss_one ps_break))) pss_nil)))))
      (pss_one (ps_ret (pv 1)))))), ?_⟩
    refine ⟨Nat.zero_le _, fun l hl => ?_⟩
    refine ⟨_, rfl, a, _, rfl, Or.inl (SqL.of (same_new hl _ _ ha)), _, rfl, by rw [List.length_map]; omega, by rw [List.length_map]; omega, ?_⟩
    refine forN (n := (ls.map nV).length) (fun i σ G => ∃ (t : Nat) (xs : List Nat) (y3 y4 : Option V), σ = [some (.ref a), some (.ref l), some (nV t), y3, y4] ∧ Nw H G l (.lst (xs.map nV)) ∧ xs.length ≤ i ∧ ∀ x ∈ xs, x < ls.length) ⟨0, [], _, _, rfl, Nw.mk0 hl, Nat.le_refl _, (fun _ h => nomatch h)⟩ ?_ ?_
    · rintro i σ G hi ⟨t, xs, y3, y4, rfl, nw, hx, hm⟩
      rw [List.length_map] at hi
      refine ⟨_, rfl, a, _, rfl, Or.inl (SqL.of (nw.same _ _ ha)), _, rfl, by rw [List.length_map]; omega, by rw [List.length_map]; omega, ?_⟩
      refine forN (n := (ls.map nV).length) (fun j σ G => ∃ y3 y4, σ = [some (.ref a), some (.ref l), some (nV t), y3, y4] ∧ Nw H G l (.lst (xs.map nV))) ⟨_, _, rfl, nw⟩ ?_ ?_
      · rintro j σ G hj ⟨y3, y4, rfl, nw⟩
        rw [List.length_map] at hj
        have hg := mget (xs := ls) hj
        have hs := nw.same _ _ ha
        have next : ∃ z3 z4, ([some (.ref a), some (.ref l), some (nV t), y3, some (nV j)] : L2.St) = [some (.ref a), some (.ref l), some (nV t), z3, z4] ∧ Nw H G l (.lst (xs.map nV)) := ⟨_, _, rfl, nw⟩
        refine ⟨_, rfl, _, rfl, _, _, rfl, rfl, _, 1, rfl, rfl, rfl, _, rfl, ?_⟩
        refine iteD (fun _ => ?_) (fun _ => next)
        refine ⟨_, rfl, _, rfl, rdV hs hg ⟨_, rfl, _, _, rfl, rfl, _, rfl, _, rfl, rdV hs hg ⟨rfl, _, rfl, ?_⟩⟩⟩
        refine iteD (fun _ => ?_) (fun _ => next)
        refine ⟨.ref l, rfl, Or.inl ⟨rfl, _, SqL.of nw.at_⟩, _, rfl, l, _, _, rfl, rfl, nw.at_, by rw [List.length_map, sizeLine_eq]; omega, ?_⟩
        refine ⟨_, rfl, _, rfl, _, rfl, rfl, by omega, _, _, rfl, rfl, ?_⟩
        refine ⟨_, xs ++ [j], _, _, rfl, ?_, ?_, ?_⟩
        · exact mapp xs j ▸ nw.put
        · rw [List.length_append]
          exact Nat.succ_le_succ hx
        · intro x h
          rcases List.mem_append.mp h with h | h
          · exact hm x h
          · rw [List.mem_singleton.mp h]
            exact hj
      · rintro σ G ⟨y3, y4, rfl, nw⟩
        exact ⟨t, xs, _, _, rfl, nw, by omega, hm⟩
    · rintro σ G ⟨t, xs, y3, y4, rfl, nw, hx, hm⟩
      rw [List.length_map] at hx
      exact ⟨_, rfl, k _ _ _ hx hm nw⟩
theorem sc_depths_of : FnScope ["uppers", "row", "depths", "line", "upper"] ["uppers", "row"] (defScope s_depths_of) := ⟨rfl, rfl, rfl, by decide +kernel, rfl, by decide +kernel, by decide +kernel⟩
def spDep : Sp := fun vs H Q _ => ∃ (a r : Addr) (us xs : List Nat), vs = [.ref a, .ref r] ∧ H a = some (.lst (us.map nV)) ∧ H r = some (.lst (xs.map nV)) ∧ us.length ≤ 64 ∧ xs.length ≤ 64 ∧ (∀ u ∈ us, u < 2 ^ us.length) ∧ (∀ x ∈ xs, x < us.length) ∧ ∀ H' p (ds : List Nat), Nw H H' p (.lst (ds.map nV)) → Q (.ref p) H'
theorem depths_of_ok (T : Txt K mg) : OkF pw w K mg base "depths_of" 5 ["uppers", "row"] spDep := by
  have G_members := members_ok (w := w) (base := base) T
  refine mkOk (k := 4) T.F_depths_of T.g_depths_of (fun _ _ _ _ _ _ _ us hl => match us, hl with | [_, _], _ => rfl) sc_depths_of (fun vs H Q E h => ?_) (fun f cdv A outer s H vs Q E hr h => ?_)
  · obtain ⟨a, r, us, xs, rfl, _⟩ := h
    rfl
  · obtain ⟨a, r, us, xs, rfl, ha, hrr, hz, hzx, hb, hbx, k⟩ := h
    refine ⟨_, (pss_cons (ps_setLc (i := 2) (own := [("line", 3)]) rfl sc_depths_of.nd rfl rfl (sw_true rfl rfl rfl (by decide +kernel)) (pi_list (pv 0)) (blkOk_by (N := ["uppers", "row", "depths", "line", "upper"]) (sc := defScope s_depths_of) (by decide +kernel)) (fun _ _ _ _ _ => (pg_name (i := 3) sc_depths_of.nd rfl (Or.inl rfl))) (fun _ _ _ _ _ => pts_nil) (fun _ _ _ _ _ => pe_int))
      (pss_cons (ps_for passW rfl (pi_list (pe_revL (pv 1))) (pg_name (i := 3) sc_depths_of.nd rfl (Or.inl rfl))
      (pss_one (ps_for passW rfl (pi_list (cl G_members hr (pa_cons (pe_ix ix_list (pv 0) (pv 3) (fun _ _ => rfl)) pa_nil))) (pg_name (i := 4) sc_depths_of.nd rfl (Or.inl rfl))
      (pss_one (ps_if (pt_cmpR op_ge (pe_ix ix_list (pv 2) (pv 4) (fun _ _ => rfl)) (pe_ix ix_list (pv 2) (pv 3) (fun _ _ => rfl)) (nomark _)) (pss_one (ps_asg (pe_op op_add (pe_ix ix_list (pv 2) (pv 4) (fun _ _ => rfl)) pe_int) (pg_sub (pv 2) (pv 3) set_list))) pss_nil)))))
      (pss_one (ps_ret (pv 2))))), ?_⟩
    refine ⟨_, rfl, a, rfl, ⟨_, SqL.of ha⟩, fun l hl => ?_⟩
    refine lc_list (K := K) (a := a) (xs := us.map nV) (fun i G => Nw H G l (.lst ((List.replicate i 1).map nV))) (Nw.mk0 hl) (fun i G _ nw => SqL.of (nw.same _ _ ha)) (fun i x G hi nw => ?_) (fun G nw => ?_)
    · have hlt := (List.getElem?_eq_some_iff.mp hi).1
      rw [List.length_map] at hlt
      refine ⟨rfl, _, nw.at_, by rw [List.length_map, List.length_replicate, sizeLine_eq]; omega, ?_⟩
      rw [List.replicate_succ']
      exact (mapp (List.replicate i 1) 1) ▸ nw.put
    · rw [List.length_map] at nw
      refine ⟨_, rfl, r, _, rfl, SqL.of (nw.same _ _ hrr), fun q hq => ⟨q, rfl, ⟨_, SqL.of upd_same⟩, ?_⟩⟩
      rw [← List.map_reverse]
      have nq : Nw G (upd G q (.lst (xs.reverse.map nV))) q (.lst (xs.reverse.map nV)) := Nw.mk0 hq
      have ql := nw_ne nw nq
      refine for_list (K := K) (a := q) (xs := xs.reverse.map nV) (fun i σ G => ∃ (ds : List Nat) (y3 y4 : Option V), σ = [some (.ref a), some (.ref r), some (.ref l), y3, y4] ∧ G q = some (.lst (xs.reverse.map nV)) ∧ ds.length = us.length ∧ Nw H G l (.lst (ds.map nV))) ⟨_, _, _, rfl, nq.at_, List.length_replicate, nw.more nq.same⟩ (fun i σ G _ ⟨_, _, _, _, z, _⟩ => SqL.of z) ?_ ?_
      · rintro i x σ G hi ⟨ds, y3, y4, rfl, hqq, hd, nw⟩
        obtain ⟨x, hx, rfl⟩ := nat_get hi
        have x1 := hbx x (List.mem_reverse.mp (nat_mem hx))
        obtain ⟨s1, s2⟩ := small_row hz hb x1
        refine ⟨_, rfl, _, rfl, rdV (nw.same _ _ ha) (mget x1) ⟨_, rfl, s1, fun H2 p np => ⟨p, rfl, ⟨_, SqL.of np.at_⟩, ?_⟩⟩⟩
        refine for_list (K := K) (a := p) (xs := (bits (us.getD x 0)).map nV) (fun j σ G2 => ∃ (ds : List Nat) (y4 : Option V), σ = [some (.ref a), some (.ref r), some (.ref l), some (nV x), y4] ∧ G2 q = some (.lst (xs.reverse.map nV)) ∧ G2 p = some (.lst ((bits (us.getD x 0)).map nV)) ∧ ds.length = us.length ∧ Nw H G2 l (.lst (ds.map nV))) ⟨_, _, rfl, np.same _ _ hqq, np.at_, hd, nw.more np.same⟩ (fun j σ G2 _ ⟨_, _, _, _, z, _⟩ => SqL.of z) ?_ ?_
        · rintro j m σ G2 hj ⟨ds, y4, rfl, hqq, hp, hd, nv⟩
          obtain ⟨m, hm, rfl⟩ := nat_get hj
          have m1 := s2 m (nat_mem hm)
          refine ⟨_, rfl, _, rfl, rdV nv.at_ (mget (by omega)) ⟨_, rfl, _, rfl, rdV nv.at_ (mget (by omega)) ⟨_, _, rfl, rfl, _, rfl, ?_⟩⟩⟩
          refine iteD (fun _ => ?_) (fun _ => ⟨ds, _, rfl, hqq, hp, hd, nv⟩)
          refine ⟨_, rfl, _, rfl, rdV nv.at_ (mget (by omega)) ⟨_, _, rfl, rfl, ?_⟩⟩
          refine ⟨_, rfl, _, rfl, wrV nv.at_ (by rw [List.length_map]; omega) ?_⟩
          refine ⟨ds.set x (ds.getD m 0 + 1), _, rfl, ?_, ?_, ?_, ?_⟩
          · rw [upd_ne ql]
            exact hqq
          · rw [upd_ne (nw_ne nw np)]
            exact hp
          · rw [List.length_set]
            exact hd
          · rw [← mset]
            exact nv.put
        · rintro σ G2 ⟨ds, y4, rfl, hqq, hp, hd, nv⟩
          exact ⟨ds, _, _, rfl, hqq, hd, nv⟩
      · rintro σ G ⟨ds, y3, y4, rfl, hqq, hd, nw⟩
        exact ⟨_, rfl, k _ _ _ nw⟩
theorem sc_check_pairs : FnScope ["n", "pairs", "upper", "lower"] ["n", "pairs"] (defScope s_check_pairs) := ⟨rfl, rfl, rfl, by decide +kernel, rfl, by decide +kernel, by decide +kernel⟩
def spPairs : Sp := fun vs H Q _ => ∃ (n : Nat) (a : Addr) (ps : List (Nat × Nat)), vs = [nV n, .ref a] ∧ LPairs H a ps ∧ ps.length ≤ 300 ∧ (∀ p ∈ ps, p.1 < n ∧ p.2 < n) ∧ Q .non H
theorem check_pairs_ok (T : Txt K mg) : OkF pw w K mg base "check_pairs" 3 ["n", "pairs"] spPairs := by
  refine mkOk (k := 2) T.F_check_pairs T.g_check_pairs (fun _ _ _ _ _ _ _ us hl => match us, hl with | [_, _], _ => rfl) sc_check_pairs (fun vs H Q E h => ?_) (fun f cdv A outer s H vs Q E hr h => ?_)
  · obtain ⟨n, a, ps, rfl, _⟩ := h
    rfl
  · obtain ⟨n, a, ps, rfl, ⟨as, ha, hq⟩, hl, hb, k⟩ := h
    refine ⟨_, (pss_cons (ps_if (pt_cmpR op_gt (pe_callB call_len_seq (by rfl) T.z_len PySem.boot_len (pa_cons (pv 1) pa_nil)) (pgi T.i_MOST_PAIRS) (nomark _)) (pss_one ps_no) pss_nil)
      (pss_one (ps_for passW rfl (pi_list (pv 1)) (pg_tup rfl (pgs_cons (pg_name (i := 2) sc_check_pairs.nd rfl (Or.inl rfl)) (pgs_cons (pg_name (i := 3) sc_check_pairs.nd rfl (Or.inl rfl)) pgs_nil)))
      (pss_cons (ps_if (PW.pt (pw_or (pt_cmpR op_lt (pv 2) pe_int (nomark _)) (pw_or1 (pt_cmpR op_ge (pv 2) (pv 0) (nomark _))))) (pss_one ps_no) pss_nil)
      (pss_one (ps_if (PW.pt (pw_or (pt_cmpR op_lt (pv 3) pe_int (nomark _)) (pw_or1 (pt_cmpR op_ge (pv 3) (pv 0) (nomark _))))) (pss_one ps_no) pss_nil)))))), ?_⟩
    refine ⟨_, rfl, a, _, rfl, Or.inl (SqL.of ha), _, _, rfl, rfl, _, rfl, ?_⟩
    rw [List.length_map, hq.1]
    refine iteD (fun h => absurd h (by omega)) (fun _ => ?_)
    refine ⟨_, rfl, a, rfl, ⟨_, SqL.of ha⟩, ?_⟩
    refine for_list (K := K) (a := a) (xs := as.map V.ref) (fun i σ G => ∃ y3 y4, σ = [some (nV n), some (.ref a), y3, y4] ∧ G = H) ⟨_, _, rfl, rfl⟩ (fun i σ G _ ⟨_, _, _, e⟩ => by rw [e]; exact SqL.of ha) ?_ ?_
    · rintro i x σ G hi ⟨y3, y4, rfl, rfl⟩
      obtain ⟨b, hb1, rfl⟩ := ref_get hi
      have hlt : i < ps.length := by
        rw [← hq.1]
        exact (List.getElem?_eq_some_iff.mp hb1).1
      have hpi : ps[i]? = some ps[i] := List.getElem?_eq_getElem hlt
      obtain ⟨u1, u2⟩ := hb ps[i] (List.getElem_mem hlt)
      refine ⟨b, _, rfl, SqT.of (hq.2 i b ps[i] hb1 hpi), rfl, _, _, rfl, _, _, rfl, rfl, ?_⟩
      refine ⟨_, rfl, _, _, rfl, rfl, _, rfl, ?_⟩
      refine iteD (fun h => absurd h (by omega)) (fun _ => ?_)
      refine ⟨_, rfl, _, rfl, _, _, rfl, rfl, _, rfl, ?_⟩
      refine iteD (fun h => absurd h (by omega)) (fun _ => ?_)
      refine ⟨_, rfl, _, _, rfl, rfl, _, rfl, ?_⟩
      refine iteD (fun h => absurd h (by omega)) (fun _ => ?_)
      refine ⟨_, rfl, _, rfl, _, _, rfl, rfl, _, rfl, ?_⟩
      refine iteD (fun h => absurd h (by omega)) (fun _ => ?_)
      exact ⟨_, _, rfl, rfl⟩
    · rintro σ G ⟨y3, y4, rfl, rfl⟩
      exact k
end
end Q

set_option Elab.async false
set_option linter.all false
set_option maxRecDepth 100000
set_option maxHeartbeats 2000000
namespace Q
open PySem PySem.Spec PyProof.Rows L2 Hx Er Kt Mb Mu
section
variable {w : World} {K : PySem.W.Frag} {mg : Str → Option Value} {base : Heap}
theorem e_TooMany (T : Txt K mg) : OkE pw w K mg base "TooMany" "limit" := by
  refine ⟨T.E_TooMany, ?_, T.g_TooMany⟩
  refine fnE1 T.E_TooMany (by simp) T.L_TooMany ⟨rfl, rfl, rfl, by decide +kernel, rfl, by decide +kernel, by decide +kernel, by decide +kernel, rfl, rfl⟩ rfl rfl (fun _ _ _ _ _ _ _ _ us hl => match us, hl with | [_, _], _ => rfl) (fun _ _ _ _ => rfl) (fun _ _ _ _ => rfl) (fun _ => rfl) (fun _ => rfl) (by decide) (by decide) (fun X hN hS => ?_)
  refine ⟨_, pe_joined (.cons pe_str (.cons (pe_fmt (pe_var (i := 1) (by rw [hN]; rfl) (by rw [hS]; exact Or.inl rfl) (by decide) (by decide))) .nil)), fun σ i hσ hi H Q k => ?_⟩
  have z := int_text_len_1921 hi
  refine ⟨_, rfl, ?_, .int i, hσ, Or.inr ⟨i, rfl, hi, _, rfl, ?_, k _⟩⟩
  · rw [Str.length_append, sizeLine_eq]
    show 0 + 13 ≤ _
    omega
  · rw [Str.length_append, Str.length_append, sizeLine_eq]
    show 0 + 13 + _ ≤ _
    omega
/-! ### orders -/
def ordF (n : Nat) (u l r d : Addr) : List (Str × V) := [("many_lines", nV n), ("upper_lots", .ref u), ("lower_lots", .ref l), ("row_lines", .ref r), ("line_depths", .ref d)]
def OrdAt (K : PySem.W.Frag) (H : Hp) (o : Addr) (n : Nat) (us : List Nat) : Prop := ∃ dx u l r d, H o = some (.ins (He.ga K "Order") dx (ordF n u l r d)) ∧ H u = some (.lst (us.map nV))
/-- .. its list of uppers at an address of a kind -/
def OrdAtF (F : Addr → Prop) (K : PySem.W.Frag) (H : Hp) (o : Addr) (n : Nat) (us : List Nat) : Prop := ∃ dx u l r d, F u ∧ H o = some (.ins (He.ga K "Order") dx (ordF n u l r d)) ∧ H u = some (.lst (us.map nV))
theorem OrdAtF.ord {F : Addr → Prop} {H : Hp} {o : Addr} {n : Nat} {us : List Nat} (h : OrdAtF F K H o n us) : OrdAt K H o n us := by
  obtain ⟨dx, u, l, r, d, _, h1, h2⟩ := h
  exact ⟨dx, u, l, r, d, h1, h2⟩
theorem OrdAtF.imp {F F' : Addr → Prop} {H : Hp} {o : Addr} {n : Nat} {us : List Nat} (h : OrdAtF F K H o n us) (i : ∀ u, F u → F' u) : OrdAtF F' K H o n us := by
  obtain ⟨dx, u, l, r, d, h0, h1, h2⟩ := h
  exact ⟨dx, u, l, r, d, i u h0, h1, h2⟩
theorem OrdAtF.same {F : Addr → Prop} {H H' : Hp} {o : Addr} {n : Nat} {us : List Nat} (h : OrdAtF F K H o n us) (s : Same H H') : OrdAtF F K H' o n us := by
  obtain ⟨dx, u, l, r, d, h0, h1, h2⟩ := h
  exact ⟨dx, u, l, r, d, h0, s _ _ h1, s _ _ h2⟩
theorem OrdAtF.upd {F : Addr → Prop} {H : Hp} {o a : Addr} {n : Nat} {us : List Nat} {xs : List V} {q : HO} (h : OrdAtF F K H o n us) (ha : H a = some (.lst xs)) (hn : ¬F a) : OrdAtF F K (upd H a q) o n us := by
  obtain ⟨dx, u, l, r, d, h0, h1, h2⟩ := h
  refine ⟨dx, u, l, r, d, h0, ?_, ?_⟩
  · rw [upd_ne (fun e => by rw [e, ha] at h1; cases h1)]
    exact h1
  · rw [upd_ne (fun e => hn (by rw [← e]; exact h0))]
    exact h2
theorem OrdAt.same {H H' : Hp} {o : Addr} {n : Nat} {us : List Nat} (h : OrdAt K H o n us) (s : Same H H') : OrdAt K H' o n us := by
  obtain ⟨dx, u, l, r, d, h1, h2⟩ := h
  exact ⟨dx, u, l, r, d, s _ _ h1, s _ _ h2⟩
def spN (K : PySem.W.Frag) : Sp := fun vs H Q _ => ∃ (o : Addr) (n : Nat) (us : List Nat), vs = [.ref o] ∧ OrdAt K H o n us ∧ Q (nV n) H
theorem sc_Order_n : FnScope ["self"] ["self"] (defScope s_Order_n) := ⟨rfl, rfl, rfl, by decide +kernel, rfl, by decide +kernel, by decide +kernel⟩
theorem p_n (T : Txt K mg) : OkP pw w K mg base "Order" "n" 1 (spN K) := by
  refine mkOkP (k := 0) T.P_Order_n T.c_Order T.L_Order_n (fun _ _ _ _ _ us hl => match us, hl with | [_], _ => rfl) sc_Order_n (fun vs H Q E h => ?_) (fun f cdv A outer s H vs Q E hr h => ?_)
  · obtain ⟨o, n, us, rfl, _⟩ := h
    rfl
  · obtain ⟨o, n, us, rfl, ⟨dx, u, l, r, d, h1, h2⟩, k⟩ := h
    refine ⟨_, (pss_one (ps_ret (pe_fld (pv 0) rfl))), ?_⟩
    exact ⟨_, rfl, o, _, dx, _, _, rfl, h1, T.c_Order, T.n_Order_many_lines, rfl, k⟩
def spAll (K : PySem.W.Frag) : Sp := fun vs H Q _ => ∃ (o : Addr) (n : Nat) (us : List Nat), vs = [.ref o] ∧ OrdAt K H o n us ∧ n ≤ 64 ∧ Q (nV (2 ^ n - 1)) H
theorem sc_Order_all_lines : FnScope ["self"] ["self"] (defScope s_Order_all_lines) := ⟨rfl, rfl, rfl, by decide +kernel, rfl, by decide +kernel, by decide +kernel⟩
theorem p_all (T : Txt K mg) : OkP pw w K mg base "Order" "all_lines" 1 (spAll K) := by
  refine mkOkP (k := 0) T.P_Order_all_lines T.c_Order T.L_Order_all_lines (fun _ _ _ _ _ us hl => match us, hl with | [_], _ => rfl) sc_Order_all_lines (fun vs H Q E h => ?_) (fun f cdv A outer s H vs Q E hr h => ?_)
  · obtain ⟨o, n, us, rfl, _⟩ := h
    rfl
  · obtain ⟨o, n, us, rfl, ⟨dx, u, l, r, d, h1, h2⟩, hn, k⟩ := h
    refine ⟨_, (pss_one (ps_ret (pe_op op_sub (pe_op op_shl1 pe_int (pe_fld (pv 0) rfl)) pe_int))), ?_⟩
    refine ⟨_, rfl, o, _, dx, _, _, rfl, h1, T.c_Order, T.n_Order_many_lines, rfl, n, rfl, rfl, by omega, _, _, rfl, rfl, ?_⟩
    have e : ((2 ^ n : Nat) : Int) - 1 = ((2 ^ n - 1 : Nat) : Int) := by
      have := Nat.two_pow_pos n
      omega
    show Q (.int (((2 ^ n : Nat) : Int) - 1)) H
    rw [e]
    exact k
theorem sc_Order_check_lines : FnScope ["self", "lot"] ["self", "lot"] (defScope s_Order_check_lines) := ⟨rfl, rfl, rfl, by decide +kernel, rfl, by decide +kernel, by decide +kernel⟩
def spCL (K : PySem.W.Frag) : Sp := fun vs H Q _ => ∃ (o : Addr) (n m : Nat) (us : List Nat), vs = [.ref o, nV m] ∧ OrdAt K H o n us ∧ m < 2 ^ n ∧ Q .non H
theorem check_lines_ok (T : Txt K mg) : OkM pw w K mg base "Order" "check_lines" 3 ["self", "lot"] (spCL K) := by
  refine mkOkM (k := 2) T.F_Order_check_lines T.c_Order T.m_Order_check_lines (fun _ _ _ _ _ _ _ us hl => match us, hl with | [_, _], _ => rfl) sc_Order_check_lines (fun vs H Q E h => ?_) (fun f cdv A outer s H vs Q E hr h => ?_)
  · obtain ⟨o, n, m, us, rfl, _⟩ := h
    rfl
  · obtain ⟨o, n, m, us, rfl, ⟨dx, u, l, r, d, h1, h2⟩, hm, k⟩ := h
    refine ⟨_, (pss_one (ps_if (PW.pt (pw_or (pt_cmpR op_lt (pv 1) pe_int (nomark _)) (pw_or1 (pt_cmpR op_gt (pe_bits (pv 1)) (pe_fld (pv 0) rfl) (nomark _))))) (pss_one ps_no) pss_nil)), ?_⟩
    refine ⟨_, rfl, _, _, rfl, rfl, _, rfl, ?_⟩
    refine iteD (fun h => absurd h (by omega)) (fun _ => ?_)
    refine ⟨_, rfl, _, rfl, _, rfl, o, _, dx, _, _, rfl, h1, T.c_Order, T.n_Order_many_lines, rfl, _, _, rfl, rfl, _, rfl, ?_⟩
    have e : Builtin.Int.intBits (m : Int) ≤ n := bitsI.mpr (by simpa using hm)
    refine iteD (fun h => absurd h (by omega)) (fun _ => k)
/-- the top lines of a lot -/
def topsV (us : List Nat) (m : Nat) : Nat := (bits m).foldl (fun f x => if us.getD x 0 &&& m = 0 then f ||| 2 ^ x else f) 0
theorem sc_Order_tops : FnScope ["self", "lot", "found", "line"] ["self", "lot"] (defScope s_Order_tops) := ⟨rfl, rfl, rfl, by decide +kernel, rfl, by decide +kernel, by decide +kernel⟩
def spTops (K : PySem.W.Frag) : Sp := fun vs H Q _ => ∃ (o : Addr) (n m : Nat) (us : List Nat), vs = [.ref o, nV m] ∧ OrdAt K H o n us ∧ us.length = n ∧ n ≤ 64 ∧ m < 2 ^ n ∧ ∀ H', Same H H' → Q (nV (topsV us m)) H'
theorem tops_ok (T : Txt K mg) : OkM pw w K mg base "Order" "tops" 5 ["self", "lot"] (spTops K) := by
  have G_check_lines := check_lines_ok (w := w) (base := base) T
  have G_members := members_ok (w := w) (base := base) T
  refine mkOkM (k := 4) T.F_Order_tops T.c_Order T.m_Order_tops (fun _ _ _ _ _ _ _ us hl => match us, hl with | [_, _], _ => rfl) sc_Order_tops (fun vs H Q E h => ?_) (fun f cdv A outer s H vs Q E hr h => ?_)
  · obtain ⟨o, n, m, us, rfl, _⟩ := h
    rfl
  · obtain ⟨o, n, m, us, rfl, ho, hl, hn, hm, k⟩ := h
    have ho' := ho
    obtain ⟨dx, u, l, r, d, h1, h2⟩ := ho'
    refine ⟨_, (pss_cons (ps_expr (clm G_check_lines hr (pv 0) (pa_cons (pv 1) pa_nil)))
      (pss_cons (ps_set (i := 2) sc_Order_tops.nd rfl (Or.inl rfl) pe_int)
      (pss_cons (ps_for passW rfl (pi_list (cl G_members hr (pa_cons (pv 1) pa_nil))) (pg_name (i := 3) sc_Order_tops.nd rfl (Or.inl rfl))
      (pss_one (ps_if (pt_cmpR op_eq (pe_op op_andN (pe_ix ix_list (pe_fld (pv 0) rfl) (pv 3) (fun _ _ => rfl)) (pv 1)) pe_int (nomark _)) (pss_one (ps_set (i := 2) sc_Order_tops.nd rfl (Or.inl rfl) (pe_op op_orN (pv 2) (pe_op op_shl1 pe_int (pv 3))))) pss_nil)))
      (pss_one (ps_ret (pv 2)))))), ?_⟩
    refine ⟨_, rfl, o, dx, _, rfl, h1, (by rfl), _, rfl, o, n, m, us, rfl, ho, hm, ?_⟩
    have m64 : m < 2 ^ 64 := Nat.lt_of_lt_of_le hm (Nat.pow_le_pow_right (by decide) hn)
    refine ⟨_, rfl, m, rfl, m64, fun H2 p np => ⟨p, rfl, ⟨_, SqL.of np.at_⟩, ?_⟩⟩
    refine for_list (K := K) (a := p) (xs := (bits m).map nV) (fun j σ G => ∃ y, σ = [some (.ref o), some (nV m), some (nV (((bits m).take j).foldl (fun f x => if us.getD x 0 &&& m = 0 then f ||| 2 ^ x else f) 0)), y] ∧ G = H2) ⟨_, rfl, rfl⟩ (fun j σ G _ ⟨_, _, e⟩ => by rw [e]; exact SqL.of np.at_) ?_ ?_
    · rintro j x σ G hj ⟨y, rfl, rfl⟩
      obtain ⟨x, hx, rfl⟩ := nat_get hj
      have x1 : x < us.length := by
        rw [hl]
        exact tb_lt hm ((mem_bits m64).mp (nat_mem hx))
      refine ⟨_, rfl, o, _, dx, _, _, rfl, np.same _ _ h1, T.c_Order, T.n_Order_upper_lots, rfl, _, rfl, rdV (np.same _ _ h2) (mget x1) ⟨_, rfl, _, _, rfl, rfl, rfl, _, rfl, ?_⟩⟩
      have fx : ∀ b : Nat, ((bits m).take (j + 1)).foldl (fun f x => if us.getD x 0 &&& m = 0 then f ||| 2 ^ x else f) 0 = (if us.getD x 0 &&& m = 0 then _ else _) := fun _ => foldl_take _ _ hx
      refine iteD (fun c => ?_) (fun c => ?_)
      · have c' : us.getD x 0 &&& m = 0 := vz.mp c
        refine ⟨_, rfl, _, rfl, _, rfl, rfl, by omega, _, _, rfl, rfl, ?_⟩
        refine ⟨some (nV x), ?_, rfl⟩
        rw [fx 0, if_pos c']
        rfl
      · have c' : ¬ us.getD x 0 &&& m = 0 := fun e => c (vz.mpr e)
        refine ⟨some (nV x), ?_, rfl⟩
        rw [fx 0, if_neg c']
        rfl
    · rintro σ G ⟨y, rfl, rfl⟩
      rw [List.length_map, List.take_length]
      exact ⟨_, rfl, k _ np.same⟩
end
end Q

set_option Elab.async false
set_option linter.all false
set_option maxRecDepth 100000
set_option maxHeartbeats 2000000
namespace Q
open PySem PySem.Spec PyProof.Rows L2 Hx Er Kt Mb Mu
section
variable {w : World} {K : PySem.W.Frag} {mg : Str → Option Value} {base : Heap}
/-- a code in range -/
def inR (n : Nat) (i : Int) : Prop := 0 ≤ i ∧ i ≤ ((2 ^ n - 1 : Nat) : Int)
theorem inR_nat {n c : Nat} : inR n (c : Int) ↔ c < 2 ^ n := by
  have := Nat.two_pow_pos n
  unfold inR
  omega
theorem inR_of {n : Nat} {i : Int} (h : inR n i) : ∃ c : Nat, i = (c : Int) ∧ c < 2 ^ n := by
  obtain ⟨h1, h2⟩ := h
  have := Nat.two_pow_pos n
  exact ⟨i.toNat, by omega, by omega⟩
def bad (K : PySem.W.Frag) (x f : Str) (i : Int) (H : Hp) (E : XK) : Prop := ∀ d, H d = none → E (.ref (eC K x)) (some d) (upd H d (.xd [(f, .int i)]))
theorem sc_check_code : FnScope ["order", "code"] ["order", "code"] (defScope s_check_code) := ⟨rfl, rfl, rfl, by decide +kernel, rfl, by decide +kernel, by decide +kernel⟩
def spCC (K : PySem.W.Frag) : Sp := fun vs H Q E => ∃ (o : Addr) (n : Nat) (us : List Nat) (i : Int), vs = [.ref o, .int i] ∧ OrdAt K H o n us ∧ n ≤ 64 ∧ smallI i ∧ (inR n i → Q .non H) ∧ (¬inR n i → bad K "BadLot" "lot" i H E)
theorem check_code_ok (T : Txt K mg) : OkF pw w K mg base "check_code" 3 ["order", "code"] (spCC K) := by
  have P_all := p_all (w := w) (base := base) T
  refine mkOk (k := 2) T.F_check_code T.g_check_code (fun _ _ _ _ _ _ _ us hl => match us, hl with | [_, _], _ => rfl) sc_check_code (fun vs H Q E h => ?_) (fun f cdv A outer s H vs Q E hr h => ?_)
  · obtain ⟨o, n, us, i, rfl, _⟩ := h
    rfl
  · obtain ⟨o, n, us, i, rfl, ho, hn, sm, k1, k2⟩ := h
    have ho' := ho
    obtain ⟨dx, u, l, r, d, h1, h2⟩ := ho'
    refine ⟨_, (pss_one (ps_if (PW.pt (pw_or (pt_cmpR op_lt (pv 1) pe_int (nomark _)) (pw_or1 (pt_cmpR op_gt (pv 1) (clp P_all hr (pv 0)) (nomark _))))) (pss_one (er1 (e_BadLot T) hr tkE rfl (pv 1))) pss_nil)), ?_⟩
    refine ⟨_, rfl, _, _, rfl, rfl, _, rfl, ?_⟩
    refine iteD (fun h => ⟨_, rfl, i, rfl, sm, k2 fun z => by have := z.1; omega⟩) (fun h => ?_)
    refine ⟨_, rfl, _, rfl, o, dx, _, rfl, h1, o, n, us, rfl, ho, hn, _, _, rfl, rfl, _, rfl, ?_⟩
    refine iteD (fun h => ⟨_, rfl, i, rfl, sm, k2 fun z => by have := z.2; omega⟩) (fun h2 => k1 ⟨by omega, by omega⟩)
theorem sc_refuse_lot : FnScope ["order", "value"] ["order", "value"] (defScope s_refuse_lot) := ⟨rfl, rfl, rfl, by decide +kernel, rfl, by decide +kernel, by decide +kernel⟩
theorem refuse_lot_ok (T : Txt K mg) : OkF pw w K mg base "refuse_lot" 3 ["order", "value"] (spCC K) := by
  have P_all := p_all (w := w) (base := base) T
  refine mkOk (k := 2) T.F_refuse_lot T.g_refuse_lot (fun _ _ _ _ _ _ _ us hl => match us, hl with | [_, _], _ => rfl) sc_refuse_lot (fun vs H Q E h => ?_) (fun f cdv A outer s H vs Q E hr h => ?_)
  · obtain ⟨o, n, us, i, rfl, _⟩ := h
    rfl
  · obtain ⟨o, n, us, i, rfl, ho, hn, sm, k1, k2⟩ := h
    have ho' := ho
    obtain ⟨dx, u, l, r, d, h1, h2⟩ := ho'
    refine ⟨_, (pss_one (ps_if (PW.pt (pw_or (pt_cmpR op_lt (pv 1) pe_int (nomark _)) (pw_or1 (pt_cmpR op_gt (pv 1) (clp P_all hr (pv 0)) (nomark _))))) (pss_one (er1 (e_BadLot T) hr tkE rfl (pv 1))) pss_nil)), ?_⟩
    refine ⟨_, rfl, _, _, rfl, rfl, _, rfl, ?_⟩
    refine iteD (fun h => ⟨_, rfl, i, rfl, sm, k2 fun z => by have := z.1; omega⟩) (fun h => ?_)
    refine ⟨_, rfl, _, rfl, o, dx, _, rfl, h1, o, n, us, rfl, ho, hn, _, _, rfl, rfl, _, rfl, ?_⟩
    refine iteD (fun h => ⟨_, rfl, i, rfl, sm, k2 fun z => by have := z.2; omega⟩) (fun h2 => k1 ⟨by omega, by omega⟩)
theorem sc_check_codes : FnScope ["order", "first", "second"] ["order", "first", "second"] (defScope s_check_codes) := ⟨rfl, rfl, rfl, by decide +kernel, rfl, by decide +kernel, by decide +kernel⟩
def spCC2 (K : PySem.W.Frag) : Sp := fun vs H Q E => ∃ (o : Addr) (n : Nat) (us : List Nat) (c e : Int), vs = [.ref o, .int c, .int e] ∧ OrdAt K H o n us ∧ n ≤ 64 ∧ smallI c ∧ smallI e ∧
  (inR n c → inR n e → Q .non H) ∧ (¬inR n c → bad K "BadLot" "lot" c H E) ∧ (inR n c → ¬inR n e → bad K "BadLot" "lot" e H E)
theorem check_codes_ok (T : Txt K mg) : OkF pw w K mg base "check_codes" 4 ["order", "first", "second"] (spCC2 K) := by
  have G_check_code := check_code_ok (w := w) (base := base) T
  refine mkOk (k := 3) T.F_check_codes T.g_check_codes (fun _ _ _ _ _ _ _ us hl => match us, hl with | [_, _, _], _ => rfl) sc_check_codes (fun vs H Q E h => ?_) (fun f cdv A outer s H vs Q E hr h => ?_)
  · obtain ⟨o, n, us, c, e, rfl, _⟩ := h
    rfl
  · obtain ⟨o, n, us, c, e, rfl, ho, hn, sc, se, k1, k2, k3⟩ := h
    refine ⟨_, (pss_cons (ps_expr (cl G_check_code hr (pa_cons (pv 0) (pa_cons (pv 1) pa_nil))))
      (pss_one (ps_expr (cl G_check_code hr (pa_cons (pv 0) (pa_cons (pv 2) pa_nil)))))), ?_⟩
    refine ⟨_, rfl, _, rfl, o, n, us, c, rfl, ho, hn, sc, fun hc => ?_, k2⟩
    exact ⟨_, rfl, _, rfl, o, n, us, e, rfl, ho, hn, se, k1 hc, k3 hc⟩
/-- e is beaten by c, as the program reckons -/
def beatsV (us : List Nat) (c e : Nat) : Bool := c != e && (topsV us (c ^^^ e) &&& e == 0)
theorem sc_beats : FnScope ["order", "c", "e"] ["order", "c", "e"] (defScope s_beats) := ⟨rfl, rfl, rfl, by decide +kernel, rfl, by decide +kernel, by decide +kernel⟩
def spBeats (K : PySem.W.Frag) : Sp := fun vs H Q E => ∃ (o : Addr) (n : Nat) (us : List Nat) (c e : Int), vs = [.ref o, .int c, .int e] ∧ OrdAt K H o n us ∧ us.length = n ∧ n ≤ 64 ∧ smallI c ∧ smallI e ∧
  (∀ c' e' : Nat, c = (c' : Int) → e = (e' : Int) → c' < 2 ^ n → e' < 2 ^ n → ∀ H', Same H H' → Q (.bl (beatsV us c' e')) H') ∧ (¬inR n c → bad K "BadLot" "lot" c H E) ∧ (inR n c → ¬inR n e → bad K "BadLot" "lot" e H E)
theorem beats_ok (T : Txt K mg) : OkF pw w K mg base "beats" 6 ["order", "c", "e"] (spBeats K) := by
  have G_check_codes := check_codes_ok (w := w) (base := base) T
  have G_tops := tops_ok (w := w) (base := base) T
  refine mkOk (k := 5) T.F_beats T.g_beats (fun _ _ _ _ _ _ _ us hl => match us, hl with | [_, _, _], _ => rfl) sc_beats (fun vs H Q E h => ?_) (fun f cdv A outer s H vs Q E hr h => ?_)
  · obtain ⟨o, n, us, c, e, rfl, _⟩ := h
    rfl
  · obtain ⟨o, n, us, c, e, rfl, ho, hl, hn, sc, se, k1, k2, k3⟩ := h
    have ho' := ho
    obtain ⟨dx, u, l, r, d, h1, h2⟩ := ho'
    refine ⟨_, (pss_cons (ps_expr (cl G_check_codes hr (pa_cons (pv 0) (pa_cons (pv 1) (pa_cons (pv 2) pa_nil)))))
      (pss_one (ps_ret (pe_and (pe_cmpR op_ne (pv 1) (pv 2) (nomark _)) (pe_one (pe_cmpR op_eq (pe_op op_andN (clm G_tops hr (pv 0) (pa_cons (pe_op op_xorN (pv 1) (pv 2)) pa_nil)) (pv 2)) pe_int (nomark _))))))), ?_⟩
    refine ⟨_, rfl, _, rfl, _, rfl, o, n, us, c, e, rfl, ho, hn, sc, se, fun hc he => ?_, k2, k3⟩
    obtain ⟨c, rfl, c1⟩ := inR_of hc
    obtain ⟨e, rfl, e1⟩ := inR_of he
    refine ⟨_, rfl, _, rfl, rfl, _, rfl, ?_⟩
    refine iteN (fun h => ?_) (fun h => ?_)
    · refine ⟨_, rfl, o, dx, _, rfl, h1, by rfl, _, rfl, _, rfl, _, _, rfl, rfl, o, n, c ^^^ e, us, rfl, ho, hl, hn, Nat.xor_lt_two_pow c1 e1, fun H' s => ?_⟩
      refine ⟨_, rfl, _, _, rfl, rfl, rfl, ?_⟩
      have ne : c ≠ e := fun z => h (by rw [z])
      have := k1 c e rfl rfl c1 e1 H' s
      have z : beatsV us c e = decide (nV (topsV us (c ^^^ e) &&& e) = V.int 0) := by
        unfold beatsV
        rw [bne_iff_ne.mpr ne, Bool.true_and, Bool.eq_iff_iff, beq_iff_eq, decide_eq_true_iff]
        exact vz.symm
      rw [z] at this
      exact this
    · have eq : c = e := by
        have := V.int.inj h
        omega
      have := k1 c e rfl rfl c1 e1 H (fun _ _ h => h)
      have z : beatsV us c e = false := by
        unfold beatsV
        rw [eq]
        simp
      rw [z] at this
      exact this
theorem sc_refuse_lines : FnScope ["order"] ["order"] (defScope s_refuse_lines) := ⟨rfl, rfl, rfl, by decide +kernel, rfl, by decide +kernel, by decide +kernel⟩
def spRL (K : PySem.W.Frag) : Sp := fun vs H Q E => ∃ (o : Addr) (n : Nat) (us : List Nat), vs = [.ref o] ∧ OrdAt K H o n us ∧ (n ≤ 7 → Q .non H) ∧ (7 < n → bad K "TooMany" "limit" 7 H E)
theorem refuse_lines_ok (T : Txt K mg) : OkF pw w K mg base "refuse_lines" 3 ["order"] (spRL K) := by
  have P_n := p_n (w := w) (base := base) T
  refine mkOk (k := 2) T.F_refuse_lines T.g_refuse_lines (fun _ _ _ _ _ _ _ us hl => match us, hl with | [_], _ => rfl) sc_refuse_lines (fun vs H Q E h => ?_) (fun f cdv A outer s H vs Q E hr h => ?_)
  · obtain ⟨o, n, us, rfl, _⟩ := h
    rfl
  · obtain ⟨o, n, us, rfl, ho, k1, k2⟩ := h
    have ho' := ho
    obtain ⟨dx, u, l, r, d, h1, h2⟩ := ho'
    refine ⟨_, (pss_one (ps_if (pt_cmpR op_gt (clp P_n hr (pv 0)) pe_int (nomark _)) (pss_one (er1 (e_TooMany T) hr tkE rfl pe_int)) pss_nil)), ?_⟩
    refine ⟨_, rfl, o, dx, _, rfl, h1, o, n, us, rfl, ho, _, _, rfl, rfl, _, rfl, ?_⟩
    refine iteD (fun h => ⟨7, rfl, smallN (k := 3) (by decide) (by decide) (by decide), k2 (by omega)⟩) (fun h => k1 (by omega))
theorem sc_refuse_ends : FnScope ["order", "e", "c"] ["order", "e", "c"] (defScope s_refuse_ends) := ⟨rfl, rfl, rfl, by decide +kernel, rfl, by decide +kernel, by decide +kernel⟩
def spRE (K : PySem.W.Frag) : Sp := fun vs H Q E => ∃ (o : Addr) (n : Nat) (us : List Nat) (e c : Int), vs = [.ref o, .int e, .int c] ∧ OrdAt K H o n us ∧ n ≤ 64 ∧ smallI e ∧ smallI c ∧
  (inR n e → inR n c → n ≤ 7 → Q .non H) ∧ (inR n e → inR n c → 7 < n → bad K "TooMany" "limit" 7 H E) ∧ (¬inR n e → bad K "BadLot" "lot" e H E) ∧ (inR n e → ¬inR n c → bad K "BadLot" "lot" c H E)
theorem refuse_ends_ok (T : Txt K mg) : OkF pw w K mg base "refuse_ends" 4 ["order", "e", "c"] (spRE K) := by
  have G_refuse_lot := refuse_lot_ok (w := w) (base := base) T
  have G_refuse_lines := refuse_lines_ok (w := w) (base := base) T
  refine mkOk (k := 3) T.F_refuse_ends T.g_refuse_ends (fun _ _ _ _ _ _ _ us hl => match us, hl with | [_, _, _], _ => rfl) sc_refuse_ends (fun vs H Q E h => ?_) (fun f cdv A outer s H vs Q E hr h => ?_)
  · obtain ⟨o, n, us, e, c, rfl, _⟩ := h
    rfl
  · obtain ⟨o, n, us, e, c, rfl, ho, hn, se, sc, k1, k2, k3, k4⟩ := h
    refine ⟨_, (pss_cons (ps_expr (cl G_refuse_lot hr (pa_cons (pv 0) (pa_cons (pv 1) pa_nil))))
      (pss_cons (ps_expr (cl G_refuse_lot hr (pa_cons (pv 0) (pa_cons (pv 2) pa_nil))))
      (pss_one (ps_expr (cl G_refuse_lines hr (pa_cons (pv 0) pa_nil)))))), ?_⟩
    refine ⟨_, rfl, _, rfl, o, n, us, e, rfl, ho, hn, se, fun he => ?_, k3⟩
    refine ⟨_, rfl, _, rfl, o, n, us, c, rfl, ho, hn, sc, fun hc => ?_, k4 he⟩
    exact ⟨_, rfl, o, n, us, rfl, ho, k1 he hc, k2 he hc⟩
/-- the codes on the way from e to c -/
def betwV (us : List Nat) (e c x : Nat) : Bool := (x == e || beatsV us x e) && (x == c || beatsV us c x)
theorem sc_codes_between : FnScope ["order", "e", "c", "found", "code"] ["order", "e", "c"] (defScope s_codes_between) := ⟨rfl, rfl, rfl, by decide +kernel, rfl, by decide +kernel, by decide +kernel⟩
def spBetw (K : PySem.W.Frag) : Sp := fun vs H Q _ => ∃ (o : Addr) (n : Nat) (us : List Nat) (e c : Nat), vs = [.ref o, nV e, nV c] ∧ OrdAt K H o n us ∧ us.length = n ∧ n ≤ 7 ∧ e < 2 ^ n ∧ c < 2 ^ n ∧ ∀ H' p, Nw H H' p (.lst (((List.range (2 ^ n)).filter (betwV us e c)).map nV)) → Q (.ref p) H'
theorem smallW {n c : Nat} (hn : n ≤ 64) (h : c < 2 ^ n) : smallI (c : Int) := smallN (k := 64) (by have := Nat.pow_le_pow_right (n := 2) (by decide) hn; omega) (by decide) (by decide)
theorem spBeats_nat {K : PySem.W.Frag} {H : Hp} {Q : VK} {E : XK} {o : Addr} {n c e : Nat} {us : List Nat} (ho : OrdAt K H o n us) (hl : us.length = n) (hn : n ≤ 64) (hc : c < 2 ^ n) (he : e < 2 ^ n) (k : ∀ H', Same H H' → Q (.bl (beatsV us c e)) H') : spBeats K [.ref o, nV c, nV e] H Q E := by
  refine ⟨o, n, us, c, e, rfl, ho, hl, hn, smallW hn hc, smallW hn he, fun c' e' h1 h2 _ _ H' s => ?_, fun h => absurd (inR_nat.mpr hc) h, fun _ h => absurd (inR_nat.mpr he) h⟩
  have e1 : c = c' := by omega
  have e2 : e = e' := by omega
  rw [← e1, ← e2]
  exact k H' s
theorem codes_between_ok (T : Txt K mg) : OkF pw w K mg base "codes_between" 7 ["order", "e", "c"] (spBetw K) := by
  have P_all := p_all (w := w) (base := base) T
  have G_beats := beats_ok (w := w) (base := base) T
  refine mkOk (k := 6) T.F_codes_between T.g_codes_between (fun _ _ _ _ _ _ _ us hl => match us, hl with | [_, _, _], _ => rfl) sc_codes_between (fun vs H Q E h => ?_) (fun f cdv A outer s H vs Q E hr h => ?_)
  · obtain ⟨o, n, us, e, c, rfl, _⟩ := h
    rfl
  · obtain ⟨o, n, us, e, c, rfl, ho, hl, hn, he, hc, k⟩ := h
    have hp : 2 ^ n ≤ 128 := Nat.le_trans (Nat.pow_le_pow_right (by decide) hn) (show 2 ^ 7 ≤ 128 by decide)
    have hp0 := Nat.two_pow_pos n
    refine ⟨_, (pss_cons (ps_set (i := 3) sc_codes_between.nd rfl (Or.inl rfl) (pe_lst pa_nil))
      (pss_cons (ps_for passW rfl (pi_range1 (by rfl) T.z_range (pa_cons (pe_op op_add (clp P_all hr (pv 0)) pe_int) pa_nil)) (pg_name (i := 4) sc_codes_between.nd rfl (Or.inl rfl))
      (pss_cons (ps_if (PW.pt (pw_and (pt_cmpR op_ne (pv 4) (pv 1) (nomark _)) (pw_and1 (pt_not (pt_val (cl G_beats hr (pa_cons (pv 0) (pa_cons (pv 4) (pa_cons (pv 1) pa_nil))))))))) (pss_one ps_continue) pss_nil)
      (pss_one (ps_if (PW.pt (pw_or (pt_cmpR op_eq (pv 4) (pv 2) (nomark _)) (pw_or1 (pt_val (cl G_beats hr (pa_cons (pv 0) (pa_cons (pv 2) (pa_cons (pv 4) pa_nil)))))))) (pss_one (ps_expr (pe_bm PySem.F.plainAttrs_list PySem.F.slot_list_append PySem.F.type_list_append mt_append (pv 3) (pa_cons (pv 4) pa_nil)))) pss_nil))))
      (pss_one (ps_ret (pv 3))))), ?_⟩
    refine ⟨Nat.zero_le _, fun l hnl => ?_⟩
    have ho1 := ho.same (same_new (o := .lst []) hnl)
    have ho' := ho1
    obtain ⟨dx, u, l', r, d, h1, h2⟩ := ho'
    refine ⟨_, rfl, o, dx, _, rfl, h1, o, n, us, rfl, ho1, by omega, _, _, rfl, rfl, _, rfl, by omega, by omega, ?_⟩
    have e1 : ((2 ^ n - 1 : Nat) : Int) + 1 = ((2 ^ n : Nat) : Int) := by omega
    have e2 : (((2 ^ n - 1 : Nat) : Int) + 1).toNat = 2 ^ n := by omega
    rw [e2]
    refine forN (n := 2 ^ n) (fun i σ G => ∃ y, σ = [some (.ref o), some (nV e), some (nV c), some (.ref l), y] ∧ Nw H G l (.lst (((List.range i).filter (betwV us e c)).map nV))) ⟨_, rfl, Nw.mk0 hnl⟩ ?_ ?_
    · rintro i σ G hi ⟨y, rfl, nw⟩
      have fl : ∀ xs : List Nat, ((List.range (i + 1)).filter (betwV us e c)) = (List.range i).filter (betwV us e c) ++ (if betwV us e c i then [i] else []) := fun _ => by
        rw [List.range_succ, List.filter_append]
        cases z : betwV us e c i <;> simp [z]
      have stp : ∀ b G', b = betwV us e c i → Nw H G' l (.lst (((List.range i).filter (betwV us e c) ++ (if b then [i] else [])).map nV)) → ∃ y, ([some (.ref o), some (nV e), some (nV c), some (.ref l), some (nV i)] : L2.St) = [some (.ref o), some (nV e), some (nV c), some (.ref l), y] ∧ Nw H G' l (.lst (((List.range (i + 1)).filter (betwV us e c)).map nV)) := fun b G' hb n2 => by
        refine ⟨_, rfl, ?_⟩
        rw [fl [], ← hb]
        exact n2
      have no : ∀ G', betwV us e c i = false → Nw H G' l (.lst (((List.range i).filter (betwV us e c)).map nV)) → ∃ y, ([some (.ref o), some (nV e), some (nV c), some (.ref l), some (nV i)] : L2.St) = [some (.ref o), some (nV e), some (nV c), some (.ref l), y] ∧ Nw H G' l (.lst (((List.range (i + 1)).filter (betwV us e c)).map nV)) := fun G' hb n2 => stp false G' hb.symm (by rw [if_neg Bool.false_ne_true, List.append_nil]; exact n2)
      have hoG := ho.same nw.same
      refine ⟨_, rfl, _, rfl, rfl, _, rfl, ?_⟩
      refine iteN (fun h => ?one) (fun h => ?two)
      case' one =>
        refine ⟨_, rfl, _, rfl, _, rfl, ?_⟩
        refine tnil (spBeats_nat hoG hl (by omega) hi he fun G2 s2 => ⟨_, rfl, ?_⟩)
        have nw := nw.more s2
        refine iteB (fun z => no _ ?_ nw) (fun z => ?_)
        · unfold betwV
          have z' : beatsV us i e = false := by simpa using z
          have h' : (i == e) = false := by
            rw [beq_eq_false_iff_ne]
            exact fun q => h (by rw [q])
          rw [z', h']
          rfl
        have hb : (i == e || beatsV us i e) = true := by
          have z' : beatsV us i e = true := by simpa using z
          rw [z', Bool.or_true]
      case' two =>
        have hb : (i == e || beatsV us i e) = true := by
          have q : i = e := by
            have := V.int.inj h
            omega
          rw [q]
          simp
      all_goals
        have hoG := ho.same nw.same
        refine ⟨_, rfl, _, rfl, rfl, _, rfl, ?_⟩
        refine iteD (fun h => ?_) (fun h => ?_)
        · have q : i = c := by
            have := V.int.inj h
            omega
          refine ⟨.ref l, rfl, Or.inl ⟨rfl, _, SqL.of nw.at_⟩, _, rfl, l, _, _, rfl, rfl, nw.at_, ?_, ?_⟩
          · rw [List.length_map, sizeLine_eq]
            have := List.length_filter_le (betwV us e c) (List.range i)
            rw [List.length_range] at this
            omega
          · refine stp true _ ?_ (mapp _ i ▸ nw.put)
            unfold betwV
            rw [hb, q]
            simp
        · refine ⟨_, rfl, _, rfl, _, rfl, ?_⟩
          refine tnil (spBeats_nat hoG hl (by omega) hc hi fun G3 s3 => ⟨_, rfl, ?_⟩)
          have nw := nw.more s3
          have h' : (i == c) = false := by
            rw [beq_eq_false_iff_ne]
            exact fun q => h (by rw [q])
          refine iteB (fun z => ?_) (fun z => ?_)
          · refine ⟨.ref l, rfl, Or.inl ⟨rfl, _, SqL.of nw.at_⟩, _, rfl, l, _, _, rfl, rfl, nw.at_, ?_, ?_⟩
            · rw [List.length_map, sizeLine_eq]
              have := List.length_filter_le (betwV us e c) (List.range i)
              rw [List.length_range] at this
              omega
            · refine stp true _ ?_ (mapp _ i ▸ nw.put)
              unfold betwV
              rw [hb, z, Bool.or_true]
              rfl
          · refine no _ ?_ nw
            unfold betwV
            rw [hb, z, h']
            rfl
    · rintro σ G ⟨y, rfl, nw⟩
      exact ⟨_, rfl, k _ _ nw⟩
end
end Q

set_option Elab.async false
set_option linter.all false
set_option maxRecDepth 100000
set_option maxHeartbeats 2000000
namespace Q
open PySem PySem.Spec PyProof.Rows L2 Hx Er Kt Mb Mu
section
variable {w : World} {K : PySem.W.Frag} {mg : Str → Option Value} {base : Heap}
theorem sc_middle_codes : FnScope ["order", "e", "c"] ["order", "e", "c"] (defScope s_middle_codes) := ⟨rfl, rfl, rfl, by decide +kernel, rfl, by decide +kernel, by decide +kernel⟩
def spMid (K : PySem.W.Frag) : Sp := fun vs H Q E => ∃ (o : Addr) (n : Nat) (us : List Nat) (e c : Int), vs = [.ref o, .int e, .int c] ∧ OrdAt K H o n us ∧ us.length = n ∧ n ≤ 64 ∧ smallI e ∧ smallI c ∧
  (∀ e' c' : Nat, e = (e' : Int) → c = (c' : Int) → e' < 2 ^ n → c' < 2 ^ n → n ≤ 7 → ∀ H' p, Nw H H' p (.lst (((List.range (2 ^ n)).filter (betwV us e' c')).map nV)) → Q (.ref p) H') ∧
  (inR n e → inR n c → 7 < n → bad K "TooMany" "limit" 7 H E) ∧ (¬inR n e → bad K "BadLot" "lot" e H E) ∧ (inR n e → ¬inR n c → bad K "BadLot" "lot" c H E)
theorem middle_codes_ok (T : Txt K mg) : OkF pw w K mg base "middle_codes" 8 ["order", "e", "c"] (spMid K) := by
  have G_refuse_ends := refuse_ends_ok (w := w) (base := base) T
  have G_codes_between := codes_between_ok (w := w) (base := base) T
  refine mkOk (k := 7) T.F_middle_codes T.g_middle_codes (fun _ _ _ _ _ _ _ us hl => match us, hl with | [_, _, _], _ => rfl) sc_middle_codes (fun vs H Q E h => ?_) (fun f cdv A outer s H vs Q E hr h => ?_)
  · obtain ⟨o, n, us, e, c, rfl, _⟩ := h
    rfl
  · obtain ⟨o, n, us, e, c, rfl, ho, hl, hn, se, sc, k1, k2, k3, k4⟩ := h
    refine ⟨_, (pss_cons (ps_expr (cl G_refuse_ends hr (pa_cons (pv 0) (pa_cons (pv 1) (pa_cons (pv 2) pa_nil)))))
      (pss_one (ps_ret (cl G_codes_between hr (pa_cons (pv 0) (pa_cons (pv 1) (pa_cons (pv 2) pa_nil))))))), ?_⟩
    refine ⟨_, rfl, _, rfl, _, rfl, o, n, us, e, c, rfl, ho, hn, se, sc, fun he hc h7 => ?_, k2, k3, k4⟩
    obtain ⟨e, rfl, e1⟩ := inR_of he
    obtain ⟨c, rfl, c1⟩ := inR_of hc
    exact ⟨_, rfl, _, rfl, _, rfl, o, n, us, e, c, rfl, ho, hl, h7, e1, c1, fun H' p nw => k1 e c rfl rfl e1 c1 h7 H' p nw⟩
theorem sc_Order___init__ : FnScope ["self", "n", "pairs", "uppers", "line", "lowers", "row_lines"] ["self", "n", "pairs"] (defScope s_Order___init__) := ⟨rfl, rfl, rfl, by decide +kernel, rfl, by decide +kernel, by decide +kernel⟩
def spInit (K : PySem.W.Frag) : Sp := fun vs H Q _ => ∃ (x dx a : Addr) (n : Nat) (ps : List (Nat × Nat)), vs = [.ref x, nV n, .ref a] ∧ H x = some (.ins (He.ga K "Order") dx []) ∧ n ≤ 24 ∧ LPairs H a ps ∧ ps.length ≤ 300 ∧ (∀ p ∈ ps, p.1 < n ∧ p.2 < n) ∧
  (∀ i, i < n → ((ups n ps).getD i 0).testBit i = false) ∧ ∀ H', (∀ b o, b ≠ x → H b = some o → H' b = some o) → OrdAtF (fun u => H u = none) K H' x n (ups n ps) → Q .non H'
theorem init_ok (T : Txt K mg) : OkMk pw w K mg base "Order" 6 ["self", "n", "pairs"] (spInit K) := by
  have G_check_pairs := check_pairs_ok (w := w) (base := base) T
  have G_closed_uppers := closed_uppers_ok (w := w) (base := base) T
  have G_turned := turned_ok (w := w) (base := base) T
  have G_row_of := row_of_ok (w := w) (base := base) T
  have G_depths_of := depths_of_ok (w := w) (base := base) T
  obtain ⟨CR, cu, CV⟩ := T.CC_Order_LINES
  refine mkOkMk (k := 5) T.F_Order___init__ T.k_Order T.g_Order (fun _ _ _ _ _ _ _ us hl => match us, hl with | [_, _, _], _ => rfl) sc_Order___init__ (fun vs H Q E h => ?_) (fun f cdv A outer s H vs Q E hr h => ?_)
  · obtain ⟨x, dx, a, n, ps, rfl, _⟩ := h
    rfl
  · obtain ⟨x, dx, a, n, ps, rfl, hx, hn, hp, hl, hb, irr, k⟩ := h
    refine ⟨_, (pss_cons (ps_if (PW.pt (pw_or (pt_cmpR op_lt (pv 1) pe_int (nomark _)) (pw_or1 (pt_cmpR op_gt (pv 1) (ClX.pe_cval (pe_glob (v := .ref (He.ga K "Order")) (by rfl) T.g_Order rfl)) (nomark _))))) (pss_one ps_no) pss_nil)
      (pss_cons (ps_expr (cl G_check_pairs hr (pa_cons (pv 1) (pa_cons (pv 2) pa_nil))))
      (pss_cons (ps_set (i := 3) sc_Order___init__.nd rfl (Or.inl rfl) (cl G_closed_uppers hr (pa_cons (pv 1) (pa_cons (pv 2) pa_nil))))
      (pss_cons (ps_for passW rfl (pi_range1 (by rfl) T.z_range (pa_cons (pv 1) pa_nil)) (pg_name (i := 4) sc_Order___init__.nd rfl (Or.inl rfl))
      (pss_one (ps_if (pt_cmpR op_eq (pe_op op_andN (pe_op op_shrN2 (pe_ix ix_list (pv 3) (pv 4) (fun _ _ => rfl)) (pv 4)) pe_int) pe_int (nomark _)) (pss_one ps_no) pss_nil)))
      (pss_cons (ps_set (i := 5) sc_Order___init__.nd rfl (Or.inl rfl) (cl G_turned hr (pa_cons (pv 3) pa_nil)))
      (pss_cons (ps_set (i := 6) sc_Order___init__.nd rfl (Or.inl rfl) (cl G_row_of hr (pa_cons (pv 5) pa_nil)))
      (pss_cons (ps_fld (pv 0) (pv 1) rfl)
      (pss_cons (ps_fld (pv 0) (pv 3) rfl)
      (pss_cons (ps_fld (pv 0) (pv 5) rfl)
      (pss_cons (ps_fld (pv 0) (pv 6) rfl)
      (pss_one (ps_fld (pv 0) (cl G_depths_of hr (pa_cons (pv 3) (pa_cons (pv 6) pa_nil))) rfl)))))))))))), ?_⟩
    refine ⟨_, rfl, _, _, rfl, rfl, _, rfl, ?_⟩
    refine iteD (fun h => absurd h (by omega)) (fun _ => ?_)
    refine ⟨_, rfl, _, _, _, _, rfl, CR, CV, _, _, rfl, rfl, _, rfl, ?_⟩
    refine iteD (fun h => absurd h (by omega)) (fun _ => ?_)
    refine ⟨_, rfl, _, rfl, n, a, ps, rfl, hp, hl, hb, ?_⟩
    refine ⟨_, rfl, _, rfl, n, a, ps, rfl, by omega, hp, hb, fun H1 u nu => ?_⟩
    refine ⟨_, rfl, _, rfl, by omega, by omega, ?_⟩
    have ul := ups_len n ps
    have ua := ups_lt hb
    refine forN (n := n) (fun i σ G => ∃ y, σ = [some (.ref x), some (nV n), some (.ref a), some (.ref u), y, none, none] ∧ G = H1) ⟨_, rfl, rfl⟩ ?_ ?_
    · rintro i σ G hi ⟨y, rfl, rfl⟩
      refine ⟨_, rfl, _, rfl, rdV nu.at_ (mget (by omega)) ⟨_, rfl, _, _, rfl, rfl, _, 1, rfl, rfl, rfl, _, rfl, ?_⟩⟩
      refine iteD (fun c => ?_) (fun c => ⟨_, rfl, rfl⟩)
      have c' := (tb _ _).mp c
      rw [irr i hi] at c'
      cases c'
    · rintro σ G ⟨y, rfl, rfl⟩
      refine ⟨_, rfl, u, ups n ps, rfl, nu.at_, by omega, by rw [ul]; exact ua, fun H2 l nl => ?_⟩
      have hd := downs_len (ups n ps)
      refine ⟨_, rfl, l, downs (ups n ps), rfl, nl.at_, by omega, fun H3 r xs xl xb nr => ?_⟩
      have x3 : H3 x = some (.ins (He.ga K "Order") dx []) := nr.same _ _ (nl.same _ _ (nu.same _ _ hx))
      have u3 : H3 u = some (.lst ((ups n ps).map nV)) := nr.same _ _ (nl.same _ _ nu.at_)
      have ux : u ≠ x := fun e => by
        have := nu.no
        rw [e, hx] at this
        cases this
      have rx : r ≠ x := fun e => by
        have := nr.no
        rw [e, nl.same _ _ (nu.same _ _ hx)] at this
        cases this
      refine ⟨_, rfl, _, rfl, x, _, dx, _, rfl, x3, T.c_Order, T.n_Order_many_lines, Nat.lt_of_le_of_lt (Nat.le_refl 0) (by decide), ?_⟩
      refine ⟨_, rfl, _, rfl, x, _, dx, _, rfl, upd_same, T.c_Order, T.n_Order_upper_lots, Nat.lt_of_le_of_lt (putL (Nat.le_refl 0)) (by decide), ?_⟩
      refine ⟨_, rfl, _, rfl, x, _, dx, _, rfl, upd_same, T.c_Order, T.n_Order_lower_lots, Nat.lt_of_le_of_lt (putL (putL (Nat.le_refl 0))) (by decide), ?_⟩
      refine ⟨_, rfl, _, rfl, x, _, dx, _, rfl, upd_same, T.c_Order, T.n_Order_row_lines, Nat.lt_of_le_of_lt (putL (putL (putL (Nat.le_refl 0)))) (by decide), ?_⟩
      refine ⟨_, rfl, _, rfl, u, r, ups n ps, xs, rfl, ?_, ?_, by omega, by omega, by rw [ul]; exact ua, by rw [ul, ← ul, ← hd]; exact xb, fun H4 p ds np => ?_⟩
      · rw [upd_ne ux, upd_ne ux, upd_ne ux, upd_ne ux]
        exact u3
      · rw [upd_ne rx, upd_ne rx, upd_ne rx, upd_ne rx]
        exact nr.at_
      refine ⟨_, rfl, x, _, dx, _, rfl, np.same _ _ upd_same, T.c_Order, T.n_Order_line_depths, Nat.lt_of_le_of_lt (putL (putL (putL (putL (Nat.le_refl 0))))) (by decide), ?_⟩
      refine k _ (fun b o hne ho => ?_) ⟨dx, u, l, r, p, nu.no, upd_same, ?_⟩
      · rw [upd_ne hne]
        refine np.same _ _ ?_
        rw [upd_ne hne, upd_ne hne, upd_ne hne, upd_ne hne]
        exact nr.same _ _ (nl.same _ _ (nu.same _ _ ho))
      · rw [upd_ne ux]
        refine np.same _ _ ?_
        rw [upd_ne ux, upd_ne ux, upd_ne ux, upd_ne ux]
        exact u3
end
end Q

set_option Elab.async false
set_option linter.all false
set_option maxRecDepth 100000
set_option maxHeartbeats 2000000
namespace Q
open PySem PySem.Spec PyProof.Rows L2 Hx Er Kt Mb Mu
section
variable {w : World} {K : PySem.W.Frag} {mg : Str → Option Value} {base : Heap}
theorem sc_law_mix : FnScope ["one", "two", "room", "prime", "mixed"] ["one", "two"] (defScope s_law_mix) := ⟨rfl, rfl, rfl, by decide +kernel, rfl, by decide +kernel, by decide +kernel⟩
def spMix : Sp := fun vs H Q _ => ∃ a b : Int, vs = [.int a, .int b] ∧ ∀ r : Nat, r < 2 ^ 64 → Q (nV r) H
theorem mix_ok (T : Txt K mg) : OkF pw w K mg base "_law_mix" 1 ["one", "two"] spMix := by
  refine mkOk (k := 0) T.F__law_mix T.g__law_mix (fun _ _ _ _ _ _ _ us hl => match us, hl with | [_, _], _ => rfl) sc_law_mix (fun vs H Q E h => ?_) (fun f cdv A outer s H vs Q E hr h => ?_)
  · obtain ⟨a, b, rfl, _⟩ := h
    rfl
  · obtain ⟨a, b, rfl, k⟩ := h
    refine ⟨_, (pss_cons (ps_set (i := 2) sc_law_mix.nd rfl (Or.inl rfl) pe_int)
      (pss_cons (ps_set (i := 3) sc_law_mix.nd rfl (Or.inl rfl) pe_int)
      (pss_cons (ps_set (i := 4) sc_law_mix.nd rfl (Or.inl rfl) (pe_op op_add (pe_op op_mul (pe_op op_modP (pe_callTy call_int1 (by rfl) T.z_int boot_int (pa_cons (pv 0) pa_nil)) (pv 3)) pe_int) (pe_op op_mul (pe_op op_modP (pe_callTy call_int1 (by rfl) T.z_int boot_int (pa_cons (pv 1) pa_nil)) (pv 3)) pe_int)))
      (pss_cons (ps_set (i := 4) sc_law_mix.nd rfl (Or.inl rfl) (pe_op op_modP (pe_callTy call_int1 (by rfl) T.z_int boot_int (pa_cons (pe_op op_add (pv 4) pe_int) pa_nil)) (pv 2)))
      (pss_cons (ps_set (i := 4) sc_law_mix.nd rfl (Or.inl rfl) (pe_op op_modP (pe_callTy call_int1 (by rfl) T.z_int boot_int (pa_cons (pe_op op_mul (pe_op op_xorN (pv 4) (pe_op op_shrN2 (pv 4) pe_int)) pe_int) pa_nil)) (pv 2)))
      (pss_cons (ps_set (i := 4) sc_law_mix.nd rfl (Or.inl rfl) (pe_op op_modP (pe_callTy call_int1 (by rfl) T.z_int boot_int (pa_cons (pe_op op_mul (pe_op op_xorN (pv 4) (pe_op op_shrN2 (pv 4) pe_int)) pe_int) pa_nil)) (pv 2)))
      (pss_one (ps_ret (pe_op op_xorN (pv 4) (pe_op op_shrN2 (pv 4) pe_int)))))))))), ?_⟩
    refine ⟨_, rfl, Or.inl ⟨_, rfl, _, rfl, _, _, rfl, rfl, by decide, _, _, rfl, rfl, Or.inr ⟨by decide, by decide⟩, ?_⟩⟩
    refine ⟨_, rfl, Or.inl ⟨_, rfl, _, rfl, _, _, rfl, rfl, by decide, _, _, rfl, rfl, Or.inr ⟨by decide, by decide⟩, _, _, rfl, rfl, ?_⟩⟩
    refine ⟨_, rfl, _, _, rfl, rfl, Or.inl ⟨_, rfl, _, rfl, _, _, rfl, rfl, by decide, ?_⟩⟩
    obtain ⟨r1, e1, l1⟩ := emodN (a % 18446744073709551557 * 15241094284759029579 + b % 18446744073709551557 * 9871236540917263511 + 6364917203581946027) (b := 18446744073709551616) (by decide)
    refine ⟨_, rfl, _, rfl, r1, 32, e1 ▸ rfl, rfl, r1, r1 >>> 32, e1 ▸ rfl, rfl, _, _, rfl, rfl, Or.inr ⟨by decide, by decide⟩, Or.inl ⟨_, rfl, _, rfl, _, _, rfl, rfl, by decide, ?_⟩⟩
    obtain ⟨r2, e2, l2⟩ := emodN (((r1 ^^^ r1 >>> 32 : Nat) : Int) * 12605985483714917081) (b := 18446744073709551616) (by decide)
    refine ⟨_, rfl, _, rfl, r2, 29, e2 ▸ rfl, rfl, r2, r2 >>> 29, e2 ▸ rfl, rfl, _, _, rfl, rfl, Or.inr ⟨by decide, by decide⟩, Or.inl ⟨_, rfl, _, rfl, _, _, rfl, rfl, by decide, ?_⟩⟩
    obtain ⟨r3, e3, l3⟩ := emodN (((r2 ^^^ r2 >>> 29 : Nat) : Int) * 10452392365497621373) (b := 18446744073709551616) (by decide)
    refine ⟨_, rfl, _, rfl, r3, 32, e3 ▸ rfl, rfl, r3, r3 >>> 32, e3 ▸ rfl, rfl, ?_⟩
    exact k _ (Nat.xor_lt_two_pow l3 (Nat.lt_of_le_of_lt (Nat.shiftRight_le _ _) l3))
end
end Q

set_option Elab.async false
set_option linter.all false
set_option maxRecDepth 100000
set_option maxHeartbeats 2000000
set_option exponentiation.threshold 20000
namespace Q
open PySem PySem.Spec PyProof.Rows L2 Hx Er Kt Mb Mu
section
variable {w : World} {K : PySem.W.Frag} {mg : Str → Option Value} {base : Heap}
theorem sc_law_store : FnScope ["script", "cells", "seed", "cell"] ["script"] (defScope s_law_store) := ⟨rfl, rfl, rfl, by decide +kernel, rfl, by decide +kernel, by decide +kernel⟩
def spStore (K : PySem.W.Frag) : Sp := fun vs H Q _ => ∃ (a : Addr) (ns : List Int), vs = [.ref a] ∧ SqL K H a (ns.map V.int) ∧ ns.length ≤ 63 ∧ ∀ (t : Sto) H', H t.s = none → Same H H' → StA t H' → Q (.ref t.s) H'
theorem store_ok (T : Txt K mg) : OkF pw w K mg base "_law_store" 2 ["script"] (spStore K) := by
  have G_law_mix := mix_ok (w := w) (base := base) T
  refine mkOk (k := 1) T.F__law_store T.g__law_store (fun _ _ _ _ _ _ _ us hl => match us, hl with | [_], _ => rfl) sc_law_store (fun vs H Q E h => ?_) (fun f cdv A outer s H vs Q E hr h => ?_)
  · obtain ⟨a, ns, rfl, _⟩ := h
    rfl
  · obtain ⟨a, ns, rfl, ha, hz, k⟩ := h
    refine ⟨_, (pss_cons (ps_set (i := 1) sc_law_store.nd rfl (Or.inl rfl) (pe_slice sl_list (pe_callTy call_list_of (by rfl) T.z_list (by decide +kernel) (pa_cons (pv 0) pa_nil)) po_none (po_some pe_int)))
      (pss_cons (ps_set (i := 2) sc_law_store.nd rfl (Or.inl rfl) (pe_op op_add pe_int (pe_callB call_len_seq (by rfl) T.z_len PySem.boot_len (pa_cons (pv 1) pa_nil))))
      (pss_cons (ps_for passW rfl (pi_list (pv 1)) (pg_name (i := 3) sc_law_store.nd rfl (Or.inl rfl))
      (pss_one (ps_set (i := 2) sc_law_store.nd rfl (Or.inl rfl) (cl G_law_mix hr (pa_cons (pv 2) (pa_cons (pv 3) pa_nil))))))
      (pss_one (ps_ret (pe_lst (pa_cons (pv 1) (pa_cons pe_int (pa_cons pe_int (pa_cons pe_int (pa_cons pe_int (pa_cons (pv 2) pa_nil)))))))))))), ?_⟩
    refine ⟨_, rfl, a, _, rfl, Or.inl ha, fun l hl => ?_⟩
    refine ⟨63, rfl, l, _, rfl, SqL.of upd_same, fun c hc => ?_⟩
    have sc : Same H (upd (upd H l (.lst (ns.map V.int))) c (.lst (cutV (ns.map V.int) none (some 63)))) := (same_new hl).trans (same_new hc)
    have ec : ∃ ms : List Int, cutV (ns.map V.int) none (some 63) = ms.map V.int ∧ ms.length ≤ 63 := by
      refine ⟨(ns.drop (HT.sIx (ns.map V.int).length 0 none)).take (HT.sIx (ns.map V.int).length (ns.map V.int).length (some 63) - HT.sIx (ns.map V.int).length 0 none), ?_, ?_⟩
      · unfold cutV
        rw [List.map_take, List.map_drop]
      · rw [List.length_take, List.length_drop]
        omega
    obtain ⟨ms, ec, hm⟩ := ec
    rw [ec] at sc ⊢
    have hnc : H c = none := (same_new hl).free hc
    refine ⟨_, rfl, c, _, rfl, Or.inl (SqL.of upd_same), _, _, rfl, rfl, ?_⟩
    refine ⟨_, rfl, c, rfl, ⟨_, SqL.of upd_same⟩, ?_⟩
    refine for_list (K := K) (a := c) (xs := ms.map V.int) (fun i σ G => ∃ (u : Int) (y : Option V), σ = [some (.ref a), some (.ref c), some (.int u), y] ∧ G = upd (upd H l (.lst (ns.map V.int))) c (.lst (ms.map V.int))) ⟨_, _, rfl, rfl⟩ (fun i σ G _ ⟨_, _, _, e⟩ => by rw [e]; exact SqL.of upd_same) ?_ ?_
    · rintro i x σ G hi ⟨u, y, rfl, rfl⟩
      rw [List.getElem?_map] at hi
      cases e : ms[i]? with
      | none => rw [e] at hi; cases hi
      | some q =>
        rw [e] at hi
        obtain rfl := Option.some.inj hi
        exact ⟨_, rfl, _, rfl, u, q, rfl, fun r _ => ⟨(r : Int), _, rfl, rfl⟩⟩
    · rintro σ G ⟨u, y, rfl, rfl⟩
      refine ⟨_, rfl, _, rfl, by show 6 ≤ _; rw [sizeLine_eq]; decide, fun q hq => ?_⟩
      have hnq : H q = none := sc.free hq
      have hqc : c ≠ q := fun e => by
        rw [← e, upd_same] at hq
        cases hq
      refine k ⟨q, c, ms⟩ _ hnq (sc.trans (same_new hq)) ⟨hm, by rw [upd_ne hqc, upd_same], 0, 0, 0, 0, u, by rw [upd_same]; rfl, Nat.zero_le _, fun h => absurd h (by decide)⟩
theorem sc_law_take : FnScope ["store", "many", "cell", "number", "k"] ["store", "many"] (defScope s_law_take) := ⟨rfl, rfl, rfl, by decide +kernel, rfl, by decide +kernel, by decide +kernel⟩
def spTake : Sp := fun vs H Q _ => ∃ (t : Sto) (m : Nat), vs = [.ref t.s, nV m] ∧ StA t H ∧ m < 2 ^ 8000 ∧ ∀ H' (r : Nat), Wl t H H' → r < max 1 m → Q (nV r) H'
theorem take_ok (T : Txt K mg) : OkF pw w K mg base "_law_take" 3 ["store", "many"] spTake := by
  have G_law_mix := mix_ok (w := w) (base := base) T
  refine mkOk (k := 2) T.F__law_take T.g__law_take (fun _ _ _ _ _ _ _ us hl => match us, hl with | [_, _], _ => rfl) sc_law_take (fun vs H Q E h => ?_) (fun f cdv A outer s H vs Q E hr h => ?_)
  · obtain ⟨t, m, rfl, _⟩ := h
    rfl
  · obtain ⟨t, m, rfl, hst, hm, k⟩ := h
    refine ⟨_, (pss_cons (ps_set (i := 1) sc_law_take.nd rfl (Or.inl rfl) (pe_callB (call_max2 rfl) (by rfl) T.z_max (by decide +kernel) (pa_cons pe_int (pa_cons (pe_callTy call_int1 (by rfl) T.z_int boot_int (pa_cons (pv 1) pa_nil)) pa_nil))))
      (pss_cut (ps_if (PW.pt (pw_and (pt_cmpR op_eq (pe_ix ix_list (pv 0) pe_int (fun _ _ => rfl)) pe_int (nomark _)) (pw_and (pt_cmpR op_eq (pe_ix ix_list (pv 0) pe_int (fun _ _ => rfl)) pe_int (nomark _)) (pw_and1 (pt_cmpR op_lt (pe_ix ix_list (pv 0) pe_int (fun _ _ => rfl)) (pe_callB call_len_seq (by rfl) T.z_len PySem.boot_len (pa_cons (pe_ix ix_list (pv 0) pe_int (fun _ _ => rfl)) pa_nil)) (nomark _)))))) (pss_cons (ps_set (i := 2) sc_law_take.nd rfl (Or.inl rfl) (pe_callB call_abs (by rfl) T.z_abs (by decide +kernel) (pa_cons (pe_callTy call_int1 (by rfl) T.z_int boot_int (pa_cons (pe_ix ix_list (pe_ix ix_list (pv 0) pe_int (fun _ _ => rfl)) (pe_ix ix_list (pv 0) pe_int (fun _ _ => rfl)) (fun _ _ => rfl)) pa_nil)) pa_nil)))
      (pss_cons (ps_asg (pe_op op_add (pe_ix ix_list (pv 0) pe_int (fun _ _ => rfl)) pe_int) (pg_sub (pv 0) pe_int set_list))
      (pss_one (ps_if (pt_cmpR op_ge (pv 2) (pe_op op_pow pe_int pe_int) (nomark _)) (pss_one (ps_asg (pv 2) (pg_sub (pv 0) pe_int set_list))) (pss_one (ps_asg pe_int (pg_sub (pv 0) pe_int set_list))))))) pss_nil)
      (pss_cons (ps_if (pt_cmpR op_gt (pe_ix ix_list (pv 0) pe_int (fun _ _ => rfl)) pe_int (nomark _)) (pss_cons (ps_set (i := 3) sc_law_take.nd rfl (Or.inl rfl) (pe_op op_modP (pe_callTy call_int1 (by rfl) T.z_int boot_int (pa_cons (pe_ix ix_list (pv 0) pe_int (fun _ _ => rfl)) pa_nil)) (pv 1)))
      (pss_cons (ps_asg (pe_op op_fdivW (pe_callTy call_int1 (by rfl) T.z_int boot_int (pa_cons (pe_ix ix_list (pv 0) pe_int (fun _ _ => rfl)) pa_nil)) (pv 1)) (pg_sub (pv 0) pe_int set_list))
      (pss_one (ps_ret (pv 3))))) pss_nil)
      (pss_cons (ps_asg (pe_op op_add (pe_ix ix_list (pv 0) pe_int (fun _ _ => rfl)) pe_int) (pg_sub (pv 0) pe_int set_list))
      (pss_cut (ps_if (pt_cmpR op_gt (pe_ix ix_list (pv 0) pe_int (fun _ _ => rfl)) pe_int (nomark _)) (pss_cons (ps_asg (pe_op op_sub (pe_ix ix_list (pv 0) pe_int (fun _ _ => rfl)) pe_int) (pg_sub (pv 0) pe_int set_list))
      (pss_one (ps_set (i := 3) sc_law_take.nd rfl (Or.inl rfl) (cl G_law_mix hr (pa_cons (pe_op op_add (pe_ix ix_list (pv 0) pe_int (fun _ _ => rfl)) (pe_callTy call_int1 (by rfl) T.z_int boot_int (pa_cons (pe_ix ix_list (pe_ix ix_list (pv 0) pe_int (fun _ _ => rfl)) (pe_op op_sub (pe_ix ix_list (pv 0) pe_int (fun _ _ => rfl)) pe_int) (fun _ _ => rfl)) pa_nil))) (pa_cons (pe_ix ix_list (pv 0) pe_int (fun _ _ => rfl)) pa_nil)))))) (pss_one (ps_set (i := 3) sc_law_take.nd rfl (Or.inl rfl) (cl G_law_mix hr (pa_cons (pe_ix ix_list (pv 0) pe_int (fun _ _ => rfl)) (pa_cons (pe_ix ix_list (pv 0) pe_int (fun _ _ => rfl)) pa_nil))))))
      (pss_cons (ps_for passW rfl (pi_range1 (by rfl) T.z_range (pa_cons (pe_op op_fdivW (pe_bits (pv 1)) pe_int) pa_nil)) (pg_name (i := 4) sc_law_take.nd rfl (Or.inl rfl))
      (pss_one (ps_set (i := 3) sc_law_take.nd rfl (Or.inl rfl) (pe_op op_add (pe_op op_mulW (pv 3) pe_int) (cl G_law_mix hr (pa_cons (pv 3) (pa_cons (pv 4) pa_nil)))))))
      (pss_one (ps_ret (pe_op op_modP (pe_callTy call_int1 (by rfl) T.z_int boot_int (pa_cons (pv 3) pa_nil)) (pv 1)))))))))), ?_⟩
    refine ⟨_, rfl, Or.inl ⟨_, rfl, _, _, rfl, ?_⟩⟩
    have hM : ∃ M : Nat, (if (m : Int) > 1 then (m : Int) else 1) = (M : Int) ∧ 0 < M ∧ M < 2 ^ 8000 ∧ M = max 1 m := by
      by_cases c : (m : Int) > 1
      · exact ⟨m, if_pos c, by omega, hm, by omega⟩
      · refine ⟨1, if_neg c, by omega, Nat.one_lt_two_pow (by decide), by omega⟩
    obtain ⟨M, eM, M0, M8, eM2⟩ := hM
    rw [← eM2] at k
    rw [eM]
    refine ⟨fun σ' H' => ∃ y2, σ' = [some (.ref t.s), some (nV M), y2, none, none] ∧ Wl t H H', ?_, ?_⟩
    · have skip : ∃ y2, ([some (.ref t.s), some (nV M), none, none, none] : L2.St) = [some (.ref t.s), some (nV M), y2, none, none] ∧ Wl t H H := ⟨_, rfl, Wl.refl hst⟩
      have w0 := Wl.refl hst
      obtain ⟨h0, hc, p, x, y, z, u, hs, hp, hy⟩ := hst
      refine ⟨_, rfl, tc (rd0 hs rfl ⟨rfl, _, rfl, iteD (fun _ => ?_) (fun _ => skip)⟩)⟩
      refine ⟨_, rfl, tc (rd0 hs rfl ⟨rfl, _, rfl, iteD (fun _ => ?_) (fun _ => skip)⟩)⟩
      refine ⟨_, rfl, tc (rd0 hs rfl ⟨_, rfl, tc (rd0 hs rfl ⟨t.c, _, rfl, Or.inl (SqL.of hc), _, _, rfl, rfl, _, rfl, iteD (fun c => ?_) (fun _ => skip)⟩)⟩)⟩
      rw [List.length_map] at c
      have hlt : p < t.ns.length := by omega
      have hget : (t.ns.map V.int)[p]? = some (.int t.ns[p]) := by
        rw [List.getElem?_map, List.getElem?_eq_getElem hlt]
        rfl
      refine ⟨_, rfl, tc (rd0 hs rfl ⟨_, rfl, tc (rd0 hs rfl (rdV hc hget (Or.inl ⟨_, rfl, _, rfl, ?_⟩)))⟩)⟩
      refine ⟨_, rfl, tc (rd0 hs rfl ⟨_, _, rfl, rfl, ?_⟩)⟩
      refine ⟨_, rfl, tc (wrV (j := 1) hs (by simp) ?_)⟩
      have w1 := w0.wr (p := p + 1) (x := x) (y := y) (z := z) (u := u) (by omega) (fun _ => by omega)
      refine ⟨_, rfl, _, _, rfl, rfl, ⟨by decide, by decide, by decide⟩, _, _, rfl, rfl, _, rfl, iteD (fun _ => ?_) (fun _ => ?_)⟩
      · refine ⟨_, rfl, _, rfl, tc (wrV (j := 2) upd_same (by simp) ?_)⟩
        exact ⟨_, rfl, w1.wr (p := p + 1) (by omega) (fun _ => by omega)⟩
      · refine ⟨_, rfl, tc (wrV (j := 3) upd_same (by simp) ?_)⟩
        exact ⟨_, rfl, w1.wr (p := p + 1) (by omega) (fun _ => by omega)⟩
    · rintro σ1 H1 ⟨y2, rfl, w1⟩
      have w1' := w1
      obtain ⟨-, h0, hc, p, x, y, z, u, hs, hp, hy⟩ := w1'
      refine ⟨_, rfl, tc (rd0 hs rfl ⟨_, _, rfl, rfl, _, rfl, iteD (fun _ => ?_) (fun _ => ?_)⟩)⟩
      · obtain ⟨r, er, lr⟩ := emodN x M0
        refine ⟨_, rfl, tc (rd0 hs rfl (Or.inl ⟨_, rfl, _, rfl, _, _, rfl, rfl, by omega, ?_⟩))⟩
        refine ⟨_, rfl, tc (rd0 hs rfl (Or.inl ⟨_, rfl, _, rfl, _, _, rfl, rfl, wide_div (b := 8000) (by omega) (by simpa using M8) (by decide) (by decide), ?_⟩))⟩
        refine ⟨_, rfl, tc (wrV (j := 2) hs (by simp) ?_)⟩
        refine ⟨_, rfl, ?_⟩
        have q : Q (.int (r : Int)) _ := k _ r (w1.wr (p := p) (x := x / M) (y := y) (z := z) (u := u) hp hy) lr
        rw [← er] at q
        exact q
      · refine ⟨_, rfl, tc (rd0 hs rfl ⟨_, _, rfl, rfl, _, rfl, tc (wrV (j := 4) hs (by simp) ?_)⟩)⟩
        have w2 := w1.wr (p := p) (x := x) (y := y) (z := z + 1) (u := u) hp hy
        refine ⟨fun σ' H' => ∃ (r : Nat), σ' = [some (.ref t.s), some (nV M), y2, some (nV r), none] ∧ r < 2 ^ 64 ∧ Wl t H H', ?_, ?_⟩
        · refine ⟨_, rfl, tc (rd0 upd_same rfl ⟨_, _, rfl, rfl, _, rfl, iteD (fun c => ?_) (fun _ => ?_)⟩)⟩
          · have p0 := hy (by omega)
            have hget : (t.ns.map V.int)[p - 1]? = some (.int t.ns[p - 1]) := by
              rw [List.getElem?_map, List.getElem?_eq_getElem (by omega)]
              rfl
            have hat : atI (t.ns.map V.int) ((p : Int) - 1) = some (.int t.ns[p - 1]) := by
              have e : ((p : Int) - 1) = ((p - 1 : Nat) : Int) := by omega
              rw [e]
              exact atI_nat hget
            refine ⟨_, rfl, tc (rd0 upd_same rfl ⟨_, _, rfl, rfl, _, rfl, tc (wrV (j := 3) upd_same (by simp) ?_)⟩)⟩
            have w3 := w2.wr (p := p) (x := x) (y := y - 1) (z := z + 1) (u := u) hp (fun _ => p0)
            have hc3 := w3.2.2.1
            refine ⟨_, rfl, tc (rd0 upd_same rfl ⟨_, rfl, tc (rd0 upd_same rfl ⟨_, rfl, tc (rd0 upd_same rfl ⟨_, _, rfl, rfl, rd0 hc3 hat (Or.inl ⟨_, rfl, _, _, rfl, rfl, _, rfl, tc (rd0 upd_same rfl ⟨_, _, rfl, fun r hr => ⟨r, rfl, hr, w3⟩⟩)⟩)⟩)⟩)⟩)⟩
          · exact ⟨_, rfl, tc (rd0 upd_same rfl ⟨_, rfl, tc (rd0 upd_same rfl ⟨_, _, rfl, fun r hr => ⟨r, rfl, hr, w2⟩⟩)⟩)⟩
        · rintro σ2 H2 ⟨r, rfl, hr2, w3⟩
          have hb : Builtin.Int.intBits (M : Int) ≤ 8000 := bitsI.mpr (by simpa using M8)
          refine ⟨_, rfl, _, rfl, _, _, rfl, rfl, ⟨by decide, by decide +kernel⟩, _, rfl, by omega, by omega, ?_⟩
          refine forN (fun i σ G => ∃ (r : Nat) (y : Option V), σ = [some (.ref t.s), some (nV M), y2, some (nV r), y] ∧ r < 2 ^ (64 * (i + 1)) ∧ Wl t H G) ⟨r, _, rfl, hr2, w3⟩ ?_ ?_
          · rintro i σ G hi ⟨r, y, rfl, lr, wg⟩
            have hi2 : i < 200 := by omega
            refine ⟨_, rfl, _, _, rfl, rfl, wide_mul (a := 64 * (i + 1)) (b := 65) (by simpa using lr) (by decide) (by omega) (by decide) (by omega), _, rfl, _, rfl, _, _, rfl, fun q hq => ⟨_, _, rfl, rfl, ?_⟩⟩
            refine ⟨r * 18446744073709551616 + q, some (nV i), ?_, ?_, wg⟩
            · have e : (r : Int) * 18446744073709551616 + (q : Int) = ((r * 18446744073709551616 + q : Nat) : Int) := by omega
              show [some (V.ref t.s), some (nV M), y2, some (V.int ((r : Int) * 18446744073709551616 + (q : Int))), some (nV i)] = _
              rw [e]
            · have e : 2 ^ (64 * (i + 1 + 1)) = 2 ^ (64 * (i + 1)) * 18446744073709551616 := by
                rw [show 64 * (i + 1 + 1) = 64 * (i + 1) + 64 by omega, Nat.pow_add]
              rw [e]
              omega
          · rintro σ G ⟨r, y, rfl, lr, wg⟩
            obtain ⟨q, er, lq⟩ := emodN (r : Int) M0
            refine ⟨_, rfl, Or.inl ⟨_, rfl, _, rfl, _, _, rfl, rfl, by omega, ?_⟩⟩
            have z : Q (.int (q : Int)) _ := k _ q wg lq
            rw [← er] at z
            exact z
end
end Q

set_option Elab.async false
set_option linter.all false
set_option maxRecDepth 100000
set_option maxHeartbeats 2000000
namespace Q
open PySem PySem.Spec PyProof.Rows L2 Hx Er Kt Mb Mu
section
variable {w : World} {K : PySem.W.Frag} {mg : Str → Option Value} {base : Heap}
theorem small8 {m : Nat} (h : m ≤ 2 ^ 300) : m < 2 ^ 8000 := Nat.lt_of_le_of_lt h (Nat.pow_lt_pow_right (by decide) (by decide))
theorem sc_law_mixed : FnScope ["store", "rows", "kept", "k", "other", "held"] ["store", "rows"] (defScope s_law_mixed) := ⟨rfl, rfl, rfl, by decide +kernel, rfl, by decide +kernel, by decide +kernel⟩
def spMixed (K : PySem.W.Frag) : Sp := fun vs H Q _ => ∃ (t : Sto) (a : Addr) (xs : List V), vs = [.ref t.s, .ref a] ∧ StA t H ∧ SqL K H a xs ∧ xs.length ≤ 1000 ∧ ∀ H' p ys, Nx t H H' p (.lst ys) → ys.Perm xs → Q (.ref p) H'
theorem mixed_ok (T : Txt K mg) : OkF pw w K mg base "_law_mixed" 4 ["store", "rows"] (spMixed K) := by
  have G_law_take := take_ok (w := w) (base := base) T
  refine mkOk (k := 3) T.F__law_mixed T.g__law_mixed (fun _ _ _ _ _ _ _ us hl => match us, hl with | [_, _], _ => rfl) sc_law_mixed (fun vs H Q E h => ?_) (fun f cdv A outer s H vs Q E hr h => ?_)
  · obtain ⟨t, a, xs, rfl, _⟩ := h
    rfl
  · obtain ⟨t, a, xs, rfl, hst, ha, hz, k⟩ := h
    refine ⟨_, (pss_cons (ps_set (i := 2) sc_law_mixed.nd rfl (Or.inl rfl) (pe_callTy call_list_of (by rfl) T.z_list (by decide +kernel) (pa_cons (pv 1) pa_nil)))
      (pss_cons (ps_for passW rfl (pi_range3 (by rfl) T.z_range (pa_cons (pe_op op_sub (pe_callB call_len_seq (by rfl) T.z_len PySem.boot_len (pa_cons (pv 2) pa_nil)) pe_int) (pa_cons pe_int (pa_cons (pe_un un_neg pe_int) pa_nil)))) (pg_name (i := 3) sc_law_mixed.nd rfl (Or.inl rfl))
      (pss_cons (ps_set (i := 4) sc_law_mixed.nd rfl (Or.inl rfl) (cl G_law_take hr (pa_cons (pv 0) (pa_cons (pe_op op_add (pv 3) pe_int) pa_nil))))
      (pss_cons (ps_set (i := 5) sc_law_mixed.nd rfl (Or.inl rfl) (pe_ix ix_list (pv 2) (pv 3) (fun _ _ => rfl)))
      (pss_cons (ps_asg (pe_ix ix_list (pv 2) (pv 4) (fun _ _ => rfl)) (pg_sub (pv 2) (pv 3) set_list))
      (pss_one (ps_asg (pv 5) (pg_sub (pv 2) (pv 4) set_list)))))))
      (pss_one (ps_ret (pv 2))))), ?_⟩
    refine ⟨_, rfl, a, _, rfl, Or.inl ha, fun l hl => ?_⟩
    refine ⟨_, rfl, l, _, rfl, Or.inl (SqL.of upd_same), _, _, rfl, rfl, _, rfl, _, _, _, _, rfl, RgC.neg (by omega) (by omega) (by decide) (by decide), ?_⟩
    refine for_rangeC (fun i σ G => ∃ (ys : List V) (y3 y4 y5 : Option V), σ = [some (.ref t.s), some (.ref a), some (.ref l), y3, y4, y5] ∧ ys.Perm xs ∧ Nx t H G l (.lst ys)) ⟨xs, _, _, _, rfl, .refl _, Nx.mk0 hst hl⟩ ?_ ?_
    · rintro i σ G hi ⟨ys, y3, y4, y5, rfl, pm, nx⟩
      have len := pm.length_eq
      have ek : ((xs.length : Int) - 1 + (i : Nat) * -1) = ((ys.length - 1 - i : Nat) : Int) := by omega
      rw [ek]
      have kl : ys.length - 1 - i < ys.length := by omega
      have k1 : ys.length - 1 - i + 1 = ys.length - i := by omega
      refine ⟨_, rfl, _, rfl, _, _, rfl, rfl, t, ys.length - 1 - i + 1, rfl, nx.wl.2, small8 (Nat.le_trans (m := 1000) (by omega) (by decide)), fun G2 o w2 ho => ?_⟩
      have ol : o < ys.length := by omega
      have n2 := nx.more hst w2
      have gk : ys[ys.length - 1 - i]? = some ys[ys.length - 1 - i] := List.getElem?_eq_getElem kl
      have go : ys[o]? = some ys[o] := List.getElem?_eq_getElem ol
      refine ⟨_, rfl, _, rfl, rdV n2.at_ gk ?_⟩
      refine ⟨_, rfl, _, rfl, rdV n2.at_ go ⟨_, rfl, _, rfl, wrV n2.at_ kl ?_⟩⟩
      refine ⟨_, rfl, _, rfl, _, rfl, wrV upd_same (by rw [List.length_set]; exact ol) ?_⟩
      exact ⟨_, _, _, _, rfl, (List.set_set_perm kl ol).trans pm, (n2.put hst).put hst⟩
    · rintro σ G ⟨ys, y3, y4, y5, rfl, pm, nx⟩
      exact ⟨_, rfl, k _ _ _ nx pm⟩
theorem sc_law_bits : FnScope ["lot", "b"] ["lot"] (defScope s_law_bits) := ⟨rfl, rfl, rfl, by decide +kernel, rfl, by decide +kernel, by decide +kernel⟩
theorem law_bits_ok (T : Txt K mg) : OkF pw w K mg base "_law_bits" 1 ["lot"] spMem := by
  refine mkOk (k := 0) T.F__law_bits T.g__law_bits (fun _ _ _ _ _ _ _ us hl => match us, hl with | [_], _ => rfl) sc_law_bits (fun vs H Q E h => ?_) (fun f cdv A outer s H vs Q E hr h => ?_)
  · obtain ⟨n, rfl, _⟩ := h
    rfl
  · obtain ⟨n, rfl, hn, k⟩ := h
    refine ⟨_, (pss_one (ps_ret (pe_lc (own := [("b", 1)]) rfl sc_law_bits.nd (pi_range1 (by rfl) T.z_range (pa_cons (pe_bits (pe_callTy call_int1 (by rfl) T.z_int boot_int (pa_cons (pv 0) pa_nil))) pa_nil)) (blkOk_by (N := ["lot", "b"]) (sc := defScope s_law_bits) (by decide +kernel)) (fun _ _ _ _ _ => (pg_name (i := 1) sc_law_bits.nd rfl (Or.inl rfl))) (fun _ _ _ _ _ => (pts_one (pt_cmpR op_eq (pe_op op_andN (pe_op op_shrN2 (pe_callTy call_int1 (by rfl) T.z_int boot_int (pa_cons (pv 0) pa_nil)) (pv 1)) pe_int) pe_int (nomark _)))) (fun _ _ _ _ _ => (pv 1))))), ?_⟩
    have hb : Builtin.Int.intBits (n : Int) ≤ 64 := bitsI.mpr (by simpa using hn)
    refine ⟨_, rfl, Or.inl ⟨_, rfl, _, rfl, _, rfl, by omega, by omega, fun l hl => ?_⟩⟩
    refine lcN (n := Builtin.Int.intBits (n : Int)) (fun i G => Nw H G l (.lst ((bitsTo i n).map nV))) (Nw.mk0 hl) (fun i G hi nw => ?_) (fun G nw => ?_)
    · refine ⟨rfl, _, rfl, Or.inl ⟨_, rfl, _, rfl, _, _, rfl, rfl, _, 1, rfl, rfl, rfl, _, rfl, iteD (fun c => ?_) (fun c => ?_)⟩⟩
      · have c' := (tb _ _).mp c
        refine ⟨_, rfl, _, nw.at_, ?_, ?_⟩
        · have : (bitsTo i n).length ≤ i := by
            unfold bitsTo
            exact Nat.le_trans (List.length_filter_le _ _) (by rw [List.length_range]; exact Nat.le_refl _)
          rw [List.length_map, sizeLine_eq]
          omega
        · rw [bitsTo_succ, if_pos c']
          exact mapp _ i ▸ nw.put
      · have c' : ¬ n.testBit i = true := fun h => c ((tb _ _).mpr h)
        rw [bitsTo_succ, if_neg c', List.append_nil]
        exact nw
    · have e : bits n = bitsTo (Builtin.Int.intBits (n : Int)) n := bitsTo_eq (by simpa using bitsI.mp (Nat.le_refl (Builtin.Int.intBits (n : Int)))) hb
      refine k _ _ ?_
      rw [e]
      exact nw
/-- what is in a and not in b -/
def less (a b : Nat) : Nat := a - (a &&& b)
theorem sc_law_less : FnScope ["one", "two"] ["one", "two"] (defScope s_law_less) := ⟨rfl, rfl, rfl, by decide +kernel, rfl, by decide +kernel, by decide +kernel⟩
def spLess : Sp := fun vs H Q _ => ∃ a b : Nat, vs = [nV a, nV b] ∧ Q (nV (less a b)) H
theorem less_ok (T : Txt K mg) : OkF pw w K mg base "_law_less" 1 ["one", "two"] spLess := by
  refine mkOk (k := 0) T.F__law_less T.g__law_less (fun _ _ _ _ _ _ _ us hl => match us, hl with | [_, _], _ => rfl) sc_law_less (fun vs H Q E h => ?_) (fun f cdv A outer s H vs Q E hr h => ?_)
  · obtain ⟨a, b, rfl, _⟩ := h
    rfl
  · obtain ⟨a, b, rfl, k⟩ := h
    refine ⟨_, (pss_one (ps_ret (pe_op op_sub (pv 0) (pe_op op_andN (pv 0) (pv 1))))), ?_⟩
    have e : (a : Int) - ((a &&& b : Nat) : Int) = ((less a b : Nat) : Int) := by
      have : a &&& b ≤ a := Nat.and_le_left
      unfold less
      omega
    refine ⟨_, rfl, _, rfl, _, rfl, _, _, rfl, rfl, _, _, rfl, rfl, ?_⟩
    show Q (.int ((a : Int) - ((a &&& b : Nat) : Int))) H
    rw [e]
    exact k
theorem sc_law_ups : FnScope ["n", "pairs", "ups", "x", "pair", "k"] ["n", "pairs"] (defScope s_law_ups) := ⟨rfl, rfl, rfl, by decide +kernel, rfl, by decide +kernel, by decide +kernel⟩
theorem law_ups_ok (T : Txt K mg) : OkF pw w K mg base "_law_ups" 1 ["n", "pairs"] spUps := by
  refine mkOk (k := 0) T.F__law_ups T.g__law_ups (fun _ _ _ _ _ _ _ us hl => match us, hl with | [_, _], _ => rfl) sc_law_ups (fun vs H Q E h => ?_) (fun f cdv A outer s H vs Q E hr h => ?_)
  · obtain ⟨n, a, ps, rfl, _⟩ := h
    rfl
  · obtain ⟨n, a, ps, rfl, hn, hp, hb, k⟩ := h
    refine ⟨_, (pss_cons (ps_setLc (i := 2) (own := [("x", 3)]) rfl sc_law_ups.nd rfl rfl (sw_true rfl rfl rfl (by decide +kernel)) (pi_range1 (by rfl) T.z_range (pa_cons (pv 0) pa_nil)) (blkOk_by (N := ["n", "pairs", "ups", "x", "pair", "k"]) (sc := defScope s_law_ups) (by decide +kernel)) (fun _ _ _ _ _ => (pg_name (i := 3) sc_law_ups.nd rfl (Or.inl rfl))) (fun _ _ _ _ _ => pts_nil) (fun _ _ _ _ _ => pe_int))
      (pss_cons (ps_for passW rfl (pi_list (pv 1)) (pg_name (i := 4) sc_law_ups.nd rfl (Or.inl rfl))
      (pss_one (ps_asg (pe_op op_orN (pe_ix ix_list (pv 2) (pe_ix ix_tup (pv 4) pe_int (fun _ _ => rfl)) (fun _ _ => rfl)) (pe_op op_shl1 pe_int (pe_ix ix_tup (pv 4) pe_int (fun _ _ => rfl)))) (pg_sub (pv 2) (pe_ix ix_tup (pv 4) pe_int (fun _ _ => rfl)) set_list))))
      (pss_cons (ps_for passW rfl (pi_range1 (by rfl) T.z_range (pa_cons (pv 0) pa_nil)) (pg_name (i := 5) sc_law_ups.nd rfl (Or.inl rfl))
      (pss_one (ps_for passW rfl (pi_range1 (by rfl) T.z_range (pa_cons (pv 0) pa_nil)) (pg_name (i := 3) sc_law_ups.nd rfl (Or.inl rfl))
      (pss_one (ps_if (pt_cmpR op_eq (pe_op op_andN (pe_op op_shrN2 (pe_ix ix_list (pv 2) (pv 3) (fun _ _ => rfl)) (pv 5)) pe_int) pe_int (nomark _)) (pss_one (ps_asg (pe_op op_orN (pe_ix ix_list (pv 2) (pv 3) (fun _ _ => rfl)) (pe_ix ix_list (pv 2) (pv 5) (fun _ _ => rfl))) (pg_sub (pv 2) (pv 3) set_list))) pss_nil)))))
      (pss_one (ps_ret (pv 2)))))), ?_⟩
    refine ⟨_, rfl, _, rfl, by omega, by omega, fun l hl => ?_⟩
    refine lcN (n := n) (fun i G => Nw H G l (.lst ((List.replicate i 0).map nV))) (Nw.mk0 hl) (fun i G hi nw => ?_) (fun G nw => ?_)
    · refine ⟨rfl, _, nw.at_, by rw [List.length_map, List.length_replicate, sizeLine_eq]; omega, ?_⟩
      rw [List.replicate_succ']
      exact (mapp (List.replicate i 0) 0) ▸ nw.put
    · obtain ⟨as, ha, hq⟩ := hp
      refine ⟨_, rfl, a, rfl, ⟨_, SqL.of (nw.same _ _ ha)⟩, ?_⟩
      refine for_list (K := K) (a := a) (xs := as.map V.ref) (fun i σ G => ∃ y3 y4, σ = [some (nV n), some (.ref a), some (.ref l), y3, y4, none] ∧ Nw H G l (.lst (((ps.take i).foldl put (List.replicate n 0)).map nV)))
        ⟨_, _, rfl, nw⟩ (fun i σ G _ ⟨_, _, _, z⟩ => SqL.of (z.same _ _ ha)) ?_ ?_
      · rintro i x σ G hi ⟨y3, y4, rfl, nw⟩
        obtain ⟨b, hb1, rfl⟩ := ref_get hi
        have hlt : i < ps.length := by
          rw [← hq.1]
          exact (List.getElem?_eq_some_iff.mp hb1).1
        have hpi : ps[i]? = some ps[i] := List.getElem?_eq_getElem hlt
        obtain ⟨u1, u2⟩ := hb ps[i] (List.getElem_mem hlt)
        have hbt := nw.same _ _ (hq.2 i b ps[i] hb1 hpi)
        have ul : ((ps.take i).foldl put (List.replicate n 0)).length = n := by rw [foldl_len _ put_len, List.length_replicate]
        have g5 := mget (xs := (ps.take i).foldl put (List.replicate n 0)) (j := ps[i].2) (by omega)
        have t1 : [nV ps[i].1, nV ps[i].2][1]? = some (nV ps[i].2) := rfl
        have t0 : [nV ps[i].1, nV ps[i].2][0]? = some (nV ps[i].1) := rfl
        refine ⟨_, rfl, _, rfl, tc (rdT (j := 1) hbt t1 (rdV nw.at_ g5 (tc ⟨_, rfl, tc (rdT (j := 0) hbt t0 ⟨_, rfl, rfl, by omega, _, _, rfl, rfl, ?_⟩)⟩)))⟩
        refine ⟨_, rfl, _, rfl, tc (rdT (j := 1) hbt t1 (wrV nw.at_ (by rw [List.length_map]; omega) ?_))⟩
        rw [mset]
        refine ⟨_, _, rfl, ?_⟩
        rw [foldl_take _ _ hpi]
        exact nw.put
      · rintro σ G ⟨y3, y4, rfl, nw⟩
        rw [List.length_map, hq.1, List.take_length] at nw
        refine ⟨_, rfl, _, rfl, by omega, by omega, ?_⟩
        refine forN (n := n) (fun m σ G => ∃ y3 y4 y5, σ = [some (nV n), some (.ref a), some (.ref l), y3, y4, y5] ∧ Nw H G l (.lst (((List.range m).foldl (wRow n) (ups0 n ps)).map nV))) ⟨_, _, _, rfl, nw⟩ ?_ ?_
        · rintro m σ G hm ⟨y3, y4, y5, rfl, nw⟩
          refine ⟨_, rfl, _, rfl, by omega, by omega, ?_⟩
          have ul0 : ((List.range m).foldl (wRow n) (ups0 n ps)).length = n := by rw [foldl_len _ (wRow_len n), ups0_len]
          refine forN (n := n) (fun j σ G => ∃ y3 y4, σ = [some (nV n), some (.ref a), some (.ref l), y3, y4, some (nV m)] ∧ Nw H G l (.lst (((List.range j).foldl (wStep m) ((List.range m).foldl (wRow n) (ups0 n ps))).map nV))) ⟨_, _, rfl, nw⟩ ?_ ?_
          · rintro j σ G hj ⟨y3, y4, rfl, nw⟩
            have ul : ((List.range j).foldl (wStep m) ((List.range m).foldl (wRow n) (ups0 n ps))).length = n := by rw [foldl_len _ (wStep_len m), ul0]
            have g3 := mget (xs := (List.range j).foldl (wStep m) ((List.range m).foldl (wRow n) (ups0 n ps))) (j := j) (by omega)
            have g6 := mget (xs := (List.range j).foldl (wStep m) ((List.range m).foldl (wRow n) (ups0 n ps))) (j := m) (by omega)
            refine ⟨_, rfl, _, rfl, rdV nw.at_ g3 ⟨_, rfl, _, _, rfl, rfl, _, 1, rfl, rfl, rfl, _, rfl, ?_⟩⟩
            refine iteD (fun c => ?_) (fun c => ?_)
            · have c' := (tb _ _).mp c
              refine ⟨_, rfl, _, rfl, rdV nw.at_ g3 ⟨_, rfl, _, rfl, rdV nw.at_ g6 ⟨_, _, rfl, rfl, ?_⟩⟩⟩
              refine ⟨_, rfl, _, rfl, wrV nw.at_ (by rw [List.length_map]; omega) ?_⟩
              rw [mset]
              refine ⟨_, _, rfl, ?_⟩
              rw [foldl_range, wStep, if_pos c']
              exact nw.put
            · have c' : ¬ _ := fun h => c ((tb _ _).mpr h)
              refine ⟨_, _, rfl, ?_⟩
              rw [foldl_range, wStep, if_neg c']
              exact nw
          · rintro σ G ⟨y3, y4, rfl, nw⟩
            refine ⟨_, _, _, rfl, ?_⟩
            rw [foldl_range]
            exact nw
        · rintro σ G ⟨y3, y4, y5, rfl, nw⟩
          exact ⟨_, rfl, k _ _ nw⟩
theorem sc_law_downs : FnScope ["ups", "downs", "x", "b", "a"] ["ups"] (defScope s_law_downs) := ⟨rfl, rfl, rfl, by decide +kernel, rfl, by decide +kernel, by decide +kernel⟩
theorem law_downs_ok (T : Txt K mg) : OkF pw w K mg base "_law_downs" 2 ["ups"] spTurn := by
  have G_law_bits := law_bits_ok (w := w) (base := base) T
  refine mkOk (k := 1) T.F__law_downs T.g__law_downs (fun _ _ _ _ _ _ _ us hl => match us, hl with | [_], _ => rfl) sc_law_downs (fun vs H Q E h => ?_) (fun f cdv A outer s H vs Q E hr h => ?_)
  · obtain ⟨a, us, rfl, _⟩ := h
    rfl
  · obtain ⟨a, us, rfl, ha, hz, hb, k⟩ := h
    refine ⟨_, (pss_cons (ps_setLc (i := 1) (own := [("x", 2)]) rfl sc_law_downs.nd rfl rfl (sw_true rfl rfl rfl (by decide +kernel)) (pi_range1 (by rfl) T.z_range (pa_cons (pe_callB call_len_seq (by rfl) T.z_len PySem.boot_len (pa_cons (pv 0) pa_nil)) pa_nil)) (blkOk_by (N := ["ups", "downs", "x", "b", "a"]) (sc := defScope s_law_downs) (by decide +kernel)) (fun _ _ _ _ _ => (pg_name (i := 2) sc_law_downs.nd rfl (Or.inl rfl))) (fun _ _ _ _ _ => pts_nil) (fun _ _ _ _ _ => pe_int))
      (pss_cons (ps_for passW rfl (pi_range1 (by rfl) T.z_range (pa_cons (pe_callB call_len_seq (by rfl) T.z_len PySem.boot_len (pa_cons (pv 0) pa_nil)) pa_nil)) (pg_name (i := 3) sc_law_downs.nd rfl (Or.inl rfl))
      (pss_one (ps_for passW rfl (pi_list (cl G_law_bits hr (pa_cons (pe_ix ix_list (pv 0) (pv 3) (fun _ _ => rfl)) pa_nil))) (pg_name (i := 4) sc_law_downs.nd rfl (Or.inl rfl))
      (pss_one (ps_asg (pe_op op_orN (pe_ix ix_list (pv 1) (pv 4) (fun _ _ => rfl)) (pe_op op_shl1 pe_int (pv 3))) (pg_sub (pv 1) (pv 4) set_list))))))
      (pss_one (ps_ret (pv 1))))), ?_⟩
    refine ⟨_, rfl, a, _, rfl, Or.inl (SqL.of ha), _, rfl, by rw [List.length_map]; omega, by rw [List.length_map]; omega, fun l hl => ?_⟩
    refine lcN (n := (us.map nV).length) (fun i G => Nw H G l (.lst ((List.replicate i 0).map nV))) (Nw.mk0 hl) (fun i G hi nw => ?_) (fun G nw => ?_)
    · rw [List.length_map] at hi
      refine ⟨rfl, _, nw.at_, by rw [List.length_map, List.length_replicate, sizeLine_eq]; omega, ?_⟩
      rw [List.replicate_succ']
      exact (mapp (List.replicate i 0) 0) ▸ nw.put
    · rw [List.length_map] at nw
      refine ⟨_, rfl, a, _, rfl, Or.inl (SqL.of (nw.same _ _ ha)), _, rfl, by rw [List.length_map]; omega, by rw [List.length_map]; omega, ?_⟩
      refine forN (n := (us.map nV).length) (fun i σ G => ∃ y2 y3 y4, σ = [some (.ref a), some (.ref l), y2, y3, y4] ∧ Nw H G l (.lst (((List.range i).foldl (dRow us) (List.replicate us.length 0)).map nV))) ⟨_, _, _, rfl, nw⟩ ?_ ?_
      · rintro i σ G hi ⟨y2, y3, y4, rfl, nw⟩
        rw [List.length_map] at hi
        obtain ⟨s1, s2⟩ := small_row hz hb hi
        have ul0 : ((List.range i).foldl (dRow us) (List.replicate us.length 0)).length = us.length := by rw [foldl_len _ (dRow_len us), List.length_replicate]
        refine ⟨_, rfl, _, rfl, rdV (nw.same _ _ ha) (mget hi) ⟨_, rfl, s1, fun H2 p np => ⟨p, rfl, ⟨_, SqL.of np.at_⟩, ?_⟩⟩⟩
        refine for_list (K := K) (a := p) (xs := (bits (us.getD i 0)).map nV) (fun j σ G2 => ∃ y4, σ = [some (.ref a), some (.ref l), y2, some (nV i), y4] ∧ G2 p = some (.lst ((bits (us.getD i 0)).map nV)) ∧ Nw H G2 l (.lst ((((bits (us.getD i 0)).take j).foldl (fun d x => put d (i, x)) ((List.range i).foldl (dRow us) (List.replicate us.length 0))).map nV)))
          ⟨_, rfl, np.at_, nw.more np.same⟩ (fun j σ G2 _ ⟨_, _, z, _⟩ => SqL.of z) ?_ ?_
        · rintro j x σ G2 hj ⟨y4, rfl, hp, nv⟩
          obtain ⟨m, hm, rfl⟩ := nat_get hj
          have m1 := s2 m (nat_mem hm)
          have ul : (((bits (us.getD i 0)).take j).foldl (fun d x => put d (i, x)) ((List.range i).foldl (dRow us) (List.replicate us.length 0))).length = us.length := by rw [foldl_len _ (fun d x => put_len d (i, x)), ul0]
          refine ⟨_, rfl, _, rfl, rdV nv.at_ (mget (by omega)) ⟨_, rfl, _, rfl, rfl, by omega, _, _, rfl, rfl, ?_⟩⟩
          refine ⟨_, rfl, _, rfl, wrV nv.at_ (by rw [List.length_map]; omega) ?_⟩
          rw [mset]
          refine ⟨_, rfl, ?_, ?_⟩
          · rw [upd_ne (nw_ne nw np)]
            exact hp
          · rw [foldl_take _ _ hm]
            exact nv.put
        · rintro σ G2 ⟨y4, rfl, hp, nv⟩
          rw [List.length_map, List.take_length] at nv
          refine ⟨_, _, _, rfl, ?_⟩
          rw [foldl_range]
          exact nv
      · rintro σ G ⟨y2, y3, y4, rfl, nw⟩
        rw [List.length_map] at nw
        exact ⟨_, rfl, k _ _ nw⟩
end
end Q

set_option Elab.async false
set_option linter.all false
set_option maxRecDepth 100000
set_option maxHeartbeats 2000000
set_option exponentiation.threshold 20000
namespace Q
open PySem PySem.Spec PyProof.Rows L2 Hx Er Kt Mb Mu
section
variable {w : World} {K : PySem.W.Frag} {mg : Str → Option Value} {base : Heap}
/-- c beats e, as the law reckons -/
def lawT (us : List Nat) (c e y : Nat) : Bool := (us.getD y 0 &&& less c e) != 0
def lawB (us : List Nat) (c e : Nat) : Bool := (bits (less e c)).all (lawT us c e) && c != e
theorem less_lt {n a b : Nat} (h : a < 2 ^ n) : less a b < 2 ^ n := Nat.lt_of_le_of_lt (Nat.sub_le _ _) h
theorem sc_law_beats : FnScope ["ups", "c", "e", "lead", "y"] ["ups", "c", "e"] (defScope s_law_beats) := ⟨rfl, rfl, rfl, by decide +kernel, rfl, by decide +kernel, by decide +kernel⟩
def spLB : Sp := fun vs H Q _ => ∃ (a : Addr) (us : List Nat) (c e : Nat), vs = [.ref a, nV c, nV e] ∧ H a = some (.lst (us.map nV)) ∧ us.length ≤ 64 ∧ c < 2 ^ us.length ∧ e < 2 ^ us.length ∧ ∀ H', Same H H' → Q (.bl (lawB us c e)) H'
theorem law_beats_ok (T : Txt K mg) : OkF pw w K mg base "_law_beats" 2 ["ups", "c", "e"] spLB := by
  have G_law_less := less_ok (w := w) (base := base) T
  have G_law_bits := law_bits_ok (w := w) (base := base) T
  refine mkOk (k := 1) T.F__law_beats T.g__law_beats (fun _ _ _ _ _ _ _ us hl => match us, hl with | [_, _, _], _ => rfl) sc_law_beats (fun vs H Q E h => ?_) (fun f cdv A outer s H vs Q E hr h => ?_)
  · obtain ⟨a, us, c, e, rfl, _⟩ := h
    rfl
  · obtain ⟨a, us, c, e, rfl, ha, hz, hc, he, k⟩ := h
    refine ⟨_, (pss_cons (ps_set (i := 3) sc_law_beats.nd rfl (Or.inl rfl) (cl G_law_less hr (pa_cons (pv 1) (pa_cons (pv 2) pa_nil))))
      (pss_cons (ps_for passW rfl (pi_list (cl G_law_bits hr (pa_cons (cl G_law_less hr (pa_cons (pv 2) (pa_cons (pv 1) pa_nil))) pa_nil))) (pg_name (i := 4) sc_law_beats.nd rfl (Or.inl rfl))
      (pss_one (ps_if (pt_cmpR op_eq (pe_op op_andN (pe_ix ix_list (pv 0) (pv 4) (fun _ _ => rfl)) (pv 3)) pe_int (nomark _)) (pss_one (ps_ret pe_bl)) pss_nil)))
      (pss_one (ps_ret (pe_cmpR op_ne (pv 1) (pv 2) (nomark _)))))), ?_⟩
    refine ⟨_, rfl, _, rfl, c, e, rfl, ?_⟩
    have l64 : less e c < 2 ^ 64 := Nat.lt_of_lt_of_le (less_lt he) (Nat.pow_le_pow_right (by decide) hz)
    refine ⟨_, rfl, _, rfl, e, c, rfl, less e c, rfl, l64, fun H1 p np => ⟨p, rfl, ⟨_, SqL.of np.at_⟩, ?_⟩⟩
    refine for_list (K := K) (a := p) (xs := (bits (less e c)).map nV) (fun i σ G => ∃ y, σ = [some (.ref a), some (nV c), some (nV e), some (nV (less c e)), y] ∧ G = H1 ∧ ((bits (less e c)).take i).all (lawT us c e) = true) ⟨_, rfl, rfl, rfl⟩ (fun i σ G _ ⟨_, _, e, _⟩ => by rw [e]; exact SqL.of np.at_) ?_ ?_
    · rintro i x σ G hi ⟨y, rfl, rfl, hall⟩
      obtain ⟨m, hm, rfl⟩ := nat_get hi
      have m1 : m < us.length := tb_lt (less_lt (b := c) he) ((mem_bits l64).mp (nat_mem hm))
      refine ⟨_, rfl, _, rfl, rdV (np.same _ _ ha) (mget m1) ⟨_, rfl, _, _, rfl, rfl, rfl, _, rfl, iteD (fun z => ?_) (fun z => ?_)⟩⟩
      · have q : lawB us c e = false := by
          have z' := vz.mp z
          unfold lawB
          have : (bits (less e c)).all (lawT us c e) = false := by
            rw [List.all_eq_false]
            exact ⟨m, nat_mem hm, by unfold lawT; rw [z']; decide⟩
          rw [this]
          rfl
        have := k G np.same
        rw [q] at this
        exact this
      · refine ⟨_, rfl, rfl, ?_⟩
        have z' : ¬ us.getD m 0 &&& less c e = 0 := fun h => z (vz.mpr h)
        rw [take_step hm, List.all_append, hall]
        have : lawT us c e m = true := by
          unfold lawT
          exact bne_iff_ne.mpr z'
        simp [this]
    · rintro σ G ⟨y, rfl, rfl, hall⟩
      rw [List.length_map, List.take_length] at hall
      refine ⟨_, rfl, _, rfl, rfl, ?_⟩
      have := k G np.same
      have q : lawB us c e = !decide (nV c = nV e) := by
        unfold lawB
        rw [hall, Bool.true_and]
        by_cases h : c = e
        · rw [h]; simp
        · have h2 : ¬ nV c = nV e := fun z => h (by have := V.int.inj z; omega)
          rw [decide_eq_false h2]
          exact bne_iff_ne.mpr h
      rw [q] at this
      exact this
theorem sc_law_sublot : FnScope ["store", "n", "one", "two"] ["store", "n"] (defScope s_law_sublot) := ⟨rfl, rfl, rfl, by decide +kernel, rfl, by decide +kernel, by decide +kernel⟩
def spSub : Sp := fun vs H Q _ => ∃ (t : Sto) (n : Nat), vs = [.ref t.s, nV n] ∧ StA t H ∧ n ≤ 64 ∧ ∀ H' (r : Nat), Wl t H H' → r < 2 ^ n → Q (nV r) H'
theorem sublot_ok (T : Txt K mg) : OkF pw w K mg base "_law_sublot" 4 ["store", "n"] spSub := by
  have G_law_take := take_ok (w := w) (base := base) T
  refine mkOk (k := 3) T.F__law_sublot T.g__law_sublot (fun _ _ _ _ _ _ _ us hl => match us, hl with | [_, _], _ => rfl) sc_law_sublot (fun vs H Q E h => ?_) (fun f cdv A outer s H vs Q E hr h => ?_)
  · obtain ⟨t, n, rfl, _⟩ := h
    rfl
  · obtain ⟨t, n, rfl, hst, hn, k⟩ := h
    have p0 := Nat.two_pow_pos n
    have p64 : 2 ^ n ≤ 2 ^ 300 := Nat.pow_le_pow_right (by decide) (by omega)
    have mx : max 1 (2 ^ n) = 2 ^ n := by omega
    refine ⟨_, (pss_cons (ps_set (i := 2) sc_law_sublot.nd rfl (Or.inl rfl) (cl G_law_take hr (pa_cons (pv 0) (pa_cons (pe_op op_shl1 pe_int (pv 1)) pa_nil))))
      (pss_cons (ps_set (i := 3) sc_law_sublot.nd rfl (Or.inl rfl) (cl G_law_take hr (pa_cons (pv 0) (pa_cons (pe_op op_shl1 pe_int (pv 1)) pa_nil))))
      (pss_one (ps_ret (pe_ix ix_list (pe_lst (pa_cons pe_int (pa_cons (pe_op op_sub (pe_op op_shl1 pe_int (pv 1)) pe_int) (pa_cons (pe_op op_andN (pv 2) (pv 3)) (pa_cons (pe_op op_andN (pe_op op_shl1 pe_int (cl G_law_take hr (pa_cons (pv 0) (pa_cons (pv 1) pa_nil)))) (pe_op op_sub (pe_op op_shl1 pe_int (pv 1)) pe_int)) (pa_cons (pv 2) (pa_cons (pv 3) pa_nil))))))) (cl G_law_take hr (pa_cons (pv 0) (pa_cons pe_int pa_nil))) (fun _ _ => rfl)))))), ?_⟩
    refine ⟨_, rfl, _, rfl, n, rfl, rfl, by omega, t, 2 ^ n, rfl, hst, small8 p64, fun H1 one w1 h1 => ?_⟩
    refine ⟨_, rfl, _, rfl, n, rfl, rfl, by omega, t, 2 ^ n, rfl, w1.2, small8 p64, fun H2 two w2 h2 => ?_⟩
    rw [mx] at h1 h2
    refine ⟨_, rfl, n, rfl, rfl, by omega, _, _, rfl, rfl, _, rfl, _, rfl, _, _, rfl, rfl, _, rfl, _, rfl, t, n, rfl, w2.2, small8 (Nat.le_trans hn (by decide)), fun H3 x w3 hx => ⟨x, rfl, rfl, by omega, _, rfl, n, rfl, rfl, by omega, _, _, rfl, rfl, 2 ^ x, 2 ^ n - 1, rfl, ?_, _, rfl, _, rfl, ?_⟩⟩
    · show V.int (((2 ^ n : Nat) : Int) - 1) = V.int ((2 ^ n - 1 : Nat) : Int)
      congr 1
      omega
    refine ⟨by show 6 ≤ _; rw [sizeLine_eq]; decide, fun q hq => ?_⟩
    have nq := Nx.mk0 (o := .lst [V.int 0, V.int (((2 ^ n : Nat) : Int) - 1), nV (one &&& two), nV (2 ^ x &&& (2 ^ n - 1)), nV one, nV two]) w3.2 hq
    refine ⟨_, rfl, t, 6, rfl, nq.wl.2, small8 (by decide), fun H4 r w4 hr6 => ?_⟩
    have n4 := nq.more w3.2 w4
    have e1 : ((2 ^ n : Nat) : Int) - 1 = ((2 ^ n - 1 : Nat) : Int) := by omega
    have hv : ∃ v : Nat, v < 2 ^ n ∧ ([V.int 0, V.int (((2 ^ n : Nat) : Int) - 1), nV (one &&& two), nV (2 ^ x &&& (2 ^ n - 1)), nV one, nV two] : List V)[r]? = some (nV v) := by
      match r, hr6 with
      | 0, _ => exact ⟨0, p0, rfl⟩
      | 1, _ => exact ⟨2 ^ n - 1, by omega, by rw [e1]; rfl⟩
      | 2, _ => exact ⟨one &&& two, Nat.lt_of_le_of_lt Nat.and_le_left h1, rfl⟩
      | 3, _ => exact ⟨_, Nat.lt_of_le_of_lt Nat.and_le_right (by omega), rfl⟩
      | 4, _ => exact ⟨one, h1, rfl⟩
      | 5, _ => exact ⟨two, h2, rfl⟩
    obtain ⟨v, hv1, hv2⟩ := hv
    exact rdV n4.at_ hv2 (k _ v ((w1.trans w2).trans (w3.trans n4.wl)) hv1)
end
end Q

set_option Elab.async false
set_option linter.all false
set_option maxRecDepth 100000
set_option maxHeartbeats 2000000
set_option exponentiation.threshold 20000
namespace Q
open PySem PySem.Spec PyProof.Rows L2 Hx Er Kt Mb Mu
section
variable {w : World} {K : PySem.W.Frag} {mg : Str → Option Value} {base : Heap}
theorem sc_law_beyond : FnScope ["store", "most", "far"] ["store", "most"] (defScope s_law_beyond) := ⟨rfl, rfl, rfl, by decide +kernel, rfl, by decide +kernel, by decide +kernel⟩
def spBey : Sp := fun vs H Q _ => ∃ (t : Sto) (m : Nat), vs = [.ref t.s, nV m] ∧ StA t H ∧ m < 2 ^ 64 ∧ ∀ H' (i : Int), Wl t H H' → (i < 0 ∨ (m : Int) < i) → i.natAbs < 2 ^ 300 → Q (.int i) H'
theorem beyond_ok (T : Txt K mg) : OkF pw w K mg base "_law_beyond" 4 ["store", "most"] spBey := by
  have G_law_take := take_ok (w := w) (base := base) T
  refine mkOk (k := 3) T.F__law_beyond T.g__law_beyond (fun _ _ _ _ _ _ _ us hl => match us, hl with | [_, _], _ => rfl) sc_law_beyond (fun vs H Q E h => ?_) (fun f cdv A outer s H vs Q E hr h => ?_)
  · obtain ⟨t, n, rfl, _⟩ := h
    rfl
  · obtain ⟨t, m, rfl, hst, hm, k⟩ := h
    refine ⟨_, (pss_cons (ps_set (i := 2) sc_law_beyond.nd rfl (Or.inl rfl) (cl G_law_take hr (pa_cons (pv 0) (pa_cons (pe_callTy call_int_str (by rfl) T.z_int boot_int (pa_cons (pe_op op_add_str pe_str (pe_op op_mul0 pe_str (cl G_law_take hr (pa_cons (pv 0) (pa_cons pe_int pa_nil))))) pa_nil)) pa_nil))))
      (pss_one (ps_ret (pe_ix ix_list (pe_lst (pa_cons (pe_op op_sub pe_int pe_int) (pa_cons (pe_op op_add (pv 1) pe_int) (pa_cons (pe_op op_sub (pe_op op_sub pe_int pe_int) (pv 2)) (pa_cons (pe_op op_add (pe_op op_add (pv 1) pe_int) (pv 2)) pa_nil))))) (cl G_law_take hr (pa_cons (pv 0) (pa_cons pe_int pa_nil))) (fun _ _ => rfl))))), ?_⟩
    refine ⟨_, rfl, _, rfl, t, 60, rfl, hst, small8 (by decide), fun H1 d w1 hd => ?_⟩
    have d60 : d < 60 := by omega
    refine ⟨_, _, d, rfl, rfl, rfl, by omega, fun z hz => ?_⟩
    have hz1 : z.length = d := by
      show z.cps.size = _
      rw [← Array.length_toList, hz, List.length_replicate]
    refine ⟨_, _, rfl, rfl, ?_, ?_⟩
    · rw [hz1, sizeLine_eq]
      show 1 + d ≤ _
      omega
    have hi := int_far (z := Str.ofString "1" ++ z) (k := d) (by
      show (#[49] ++ z.cps).toList = _
      rw [Array.toList_append, hz]
      rfl) (by omega)
    refine ⟨_, _, rfl, hi.1, hi.2, ?_⟩
    have pw1 : 0 < 10 ^ d := Nat.pow_pos (by decide)
    have pw2 : 10 ^ d ≤ 10 ^ 60 := Nat.pow_le_pow_right (by decide) (by omega)
    have pw3 : 10 ^ 60 ≤ 2 ^ 200 := by decide
    have pw4 : 2 ^ 200 ≤ 2 ^ 300 := Nat.pow_le_pow_right (by decide) (by decide)
    refine ⟨t, 10 ^ d, rfl, w1.2, small8 (by omega), fun H2 far w2 hf => ?_⟩
    have hfar : far < 2 ^ 200 := by omega
    refine ⟨_, _, rfl, rfl, _, rfl, _, _, rfl, rfl, _, _, rfl, rfl, _, rfl, _, _, rfl, rfl, _, rfl, _, _, rfl, rfl, _, rfl, _, _, rfl, rfl, ?_⟩
    refine ⟨by show 4 ≤ _; rw [sizeLine_eq]; decide, fun q hq => ?_⟩
    have nq := Nx.mk0 (o := .lst [V.int (0 - 1), V.int ((m : Int) + 1), V.int ((0 - 1) - (far : Int)), V.int ((m : Int) + 1 + (far : Int))]) w2.2 hq
    refine ⟨_, rfl, t, 4, rfl, nq.wl.2, small8 (by decide), fun H4 r w4 hr6 => ?_⟩
    have n4 := nq.more w2.2 w4
    have big : ∀ i : Int, i.natAbs < 2 ^ 64 + 2 ^ 200 + 5 → i.natAbs < 2 ^ 300 := fun i hi => by
      have : 2 ^ 64 + 2 ^ 200 + 5 < 2 ^ 300 := by decide
      omega
    have hv : ∃ v : Int, (v < 0 ∨ (m : Int) < v) ∧ v.natAbs < 2 ^ 64 + 2 ^ 200 + 5 ∧ ([V.int (0 - 1), V.int ((m : Int) + 1), V.int ((0 - 1) - (far : Int)), V.int ((m : Int) + 1 + (far : Int))] : List V)[r]? = some (.int v) := by
      match r, hr6 with
      | 0, _ => exact ⟨_, by omega, by omega, rfl⟩
      | 1, _ => exact ⟨_, by omega, by omega, rfl⟩
      | 2, _ => exact ⟨_, by omega, by omega, rfl⟩
      | 3, _ => exact ⟨_, by omega, by omega, rfl⟩
    obtain ⟨v, hv1, hv3, hv2⟩ := hv
    exact rdV n4.at_ hv2 (k _ v ((w1.trans w2).trans n4.wl) hv1 (big v hv3))
theorem sc_law_middle : FnScope ["ups", "e", "c", "above", "lot"] ["ups", "e", "c"] (defScope s_law_middle) := ⟨rfl, rfl, rfl, by decide +kernel, rfl, by decide +kernel, by decide +kernel⟩
def lawMid (us : List Nat) (e c : Nat) : List Nat := ((List.range (2 ^ us.length)).filter fun x => x == e || lawB us x e).filter fun x => x == c || lawB us c x
def spMd : Sp := fun vs H Q _ => ∃ (a : Addr) (us : List Nat) (e c : Nat), vs = [.ref a, nV e, nV c] ∧ H a = some (.lst (us.map nV)) ∧ us.length ≤ 7 ∧ e < 2 ^ us.length ∧ c < 2 ^ us.length ∧ ∀ H' p, Nw H H' p (.lst ((lawMid us e c).map nV)) → Q (.ref p) H'
theorem spLB_nat {H : Hp} {Q : VK} {E : XK} {a : Addr} {c e : Nat} {us : List Nat} (ha : H a = some (.lst (us.map nV))) (hz : us.length ≤ 64) (hc : c < 2 ^ us.length) (he : e < 2 ^ us.length) (k : ∀ H', Same H H' → Q (.bl (lawB us c e)) H') : spLB [.ref a, nV c, nV e] H Q E := ⟨a, us, c, e, rfl, ha, hz, hc, he, k⟩
theorem filter_range_succ (p : Nat → Bool) (i : Nat) : (List.range (i + 1)).filter p = (List.range i).filter p ++ (if p i then [i] else []) := by
  rw [List.range_succ, List.filter_append]
  cases h : p i <;> simp [h]
theorem filter_take_succ {α : Type} (p : α → Bool) {xs : List α} {i : Nat} {x : α} (h : xs[i]? = some x) : (xs.take (i + 1)).filter p = (xs.take i).filter p ++ (if p x then [x] else []) := by
  rw [take_step h, List.filter_append]
  cases h : p x <;> simp [h]
theorem middle_ok (T : Txt K mg) : OkF pw w K mg base "_law_middle" 3 ["ups", "e", "c"] spMd := by
  have G_law_beats := law_beats_ok (w := w) (base := base) T
  refine mkOk (k := 2) T.F__law_middle T.g__law_middle (fun _ _ _ _ _ _ _ us hl => match us, hl with | [_, _, _], _ => rfl) sc_law_middle (fun vs H Q E h => ?_) (fun f cdv A outer s H vs Q E hr h => ?_)
  · obtain ⟨a, us, e, c, rfl, _⟩ := h
    rfl
  · obtain ⟨a, us, e, c, rfl, ha, hz, he, hc, k⟩ := h
    have p0 := Nat.two_pow_pos us.length
    have p7 : 2 ^ us.length ≤ 128 := Nat.le_trans (Nat.pow_le_pow_right (by decide) hz) (show 2 ^ 7 ≤ 128 by decide)
    refine ⟨_, (pss_cons (ps_setLc (i := 3) (own := [("lot", 4)]) rfl sc_law_middle.nd rfl rfl (sw_true rfl rfl rfl (by decide +kernel)) (pi_range1 (by rfl) T.z_range (pa_cons (pe_op op_shl1 pe_int (pe_callB call_len_seq (by rfl) T.z_len PySem.boot_len (pa_cons (pv 0) pa_nil))) pa_nil)) (blkOk_by (N := ["ups", "e", "c", "above", "lot"]) (sc := defScope s_law_middle) (by decide +kernel)) (fun _ _ _ _ _ => (pg_name (i := 4) sc_law_middle.nd rfl (Or.inl rfl))) (fun _ _ _ _ _ => (pts_one (PW.pt (pw_or (pt_cmpR op_eq (pv 4) (pv 1) (nomark _)) (pw_or1 (pt_val (cl G_law_beats hr (pa_cons (pv 0) (pa_cons (pv 4) (pa_cons (pv 1) pa_nil)))))))))) (fun _ _ _ _ _ => (pv 4)))
      (pss_one (ps_ret (pe_lc (own := [("lot", 4)]) rfl sc_law_middle.nd (pi_list (pv 3)) (blkOk_by (N := ["ups", "e", "c", "above", "lot"]) (sc := defScope s_law_middle) (by decide +kernel)) (fun _ _ _ _ _ => (pg_name (i := 4) sc_law_middle.nd rfl (Or.inl rfl))) (fun _ _ _ _ _ => (pts_one (PW.pt (pw_or (pt_cmpR op_eq (pv 4) (pv 2) (nomark _)) (pw_or1 (pt_val (cl G_law_beats hr (pa_cons (pv 0) (pa_cons (pv 2) (pa_cons (pv 4) pa_nil)))))))))) (fun _ _ _ _ _ => (pv 4)))))), ?_⟩
    refine ⟨_, rfl, a, _, rfl, Or.inl (SqL.of ha), us.length, rfl, by rw [List.length_map], by omega, _, rfl, by omega, by omega, fun l hl => ?_⟩
    refine lcN (n := 2 ^ us.length) (fun i G => Nw H G l (.lst (((List.range i).filter fun x => x == e || lawB us x e).map nV))) (Nw.mk0 hl) (fun i G hi nw => ?_) (fun G nw => ?_)
    · have len : ((List.range i).filter fun x => x == e || lawB us x e).length ≤ i := Nat.le_trans (List.length_filter_le _ _) (by rw [List.length_range]; exact Nat.le_refl _)
      refine ⟨rfl, _, rfl, _, rfl, rfl, _, rfl, iteD (fun h => ?_) (fun h => ?_)⟩
      · have q : i = e := by
          have := V.int.inj h
          omega
        refine iteB (fun _ => ⟨_, rfl, _, nw.at_, by rw [List.length_map, sizeLine_eq]; omega, ?_⟩) (fun h => nomatch h)
        have z : (i == e || lawB us i e) = true := by rw [q]; simp
        rw [filter_range_succ, if_pos z]
        exact mapp _ i ▸ nw.put
      · have q : (i == e) = false := by
          rw [beq_eq_false_iff_ne]
          exact fun q => h (by rw [q])
        refine ⟨_, rfl, _, rfl, _, rfl, tnil (spLB_nat (nw.same _ _ ha) (by omega) hi he fun G2 s2 => ⟨_, rfl, ?_⟩)⟩
        have nw := nw.more s2
        refine iteB (fun z => ?_) (fun z => ?_)
        · refine ⟨_, rfl, _, nw.at_, by rw [List.length_map, sizeLine_eq]; omega, ?_⟩
          have z : (i == e || lawB us i e) = true := by rw [z]; simp
          rw [filter_range_succ, if_pos z]
          exact mapp _ i ▸ nw.put
        · have z : ¬ (i == e || lawB us i e) = true := by rw [z, q]; simp
          rw [filter_range_succ, if_neg z, List.append_nil]
          exact nw
    · have len : ((List.range (2 ^ us.length)).filter fun x => x == e || lawB us x e).length ≤ 128 := Nat.le_trans (List.length_filter_le _ _) (by rw [List.length_range]; exact p7)
      have hmem : ∀ x ∈ (List.range (2 ^ us.length)).filter fun x => x == e || lawB us x e, x < 2 ^ us.length := fun x hx => List.mem_range.mp (List.mem_filter.mp hx).1
      have eM : lawMid us e c = ((List.range (2 ^ us.length)).filter fun x => x == e || lawB us x e).filter fun x => x == c || lawB us c x := rfl
      generalize ((List.range (2 ^ us.length)).filter fun x => x == e || lawB us x e) = ab at *
      refine ⟨_, rfl, l, rfl, ⟨_, SqL.of nw.at_⟩, fun l2 hl2 => ?_⟩
      have hn2 : H l2 = none := nw.free hl2
      have ll : l ≠ l2 := fun e => by
        rw [← e, nw.at_] at hl2
        cases hl2
      refine lc_list (K := K) (a := l) (xs := ab.map nV) (fun i G2 => Nw H G2 l2 (.lst (((ab.take i).filter fun x => x == c || lawB us c x).map nV)) ∧ G2 l = some (.lst (ab.map nV))) ⟨⟨hn2, nw.same.trans (same_new hl2), upd_same⟩, by rw [upd_ne ll]; exact nw.at_⟩ (fun i G2 _ z => SqL.of z.2) (fun i x G2 hi z => ?_) (fun G2 z => ?_)
      · obtain ⟨n2, hl⟩ := z
        obtain ⟨i', hx, rfl⟩ := nat_get hi
        have len2 : ((ab.take i).filter fun x => x == c || lawB us c x).length ≤ 128 := Nat.le_trans (List.length_filter_le _ _) (by rw [List.length_take]; omega)
        have i1 : i' < 2 ^ us.length := hmem _ (nat_mem hx)
        refine ⟨rfl, _, rfl, _, rfl, rfl, _, rfl, iteD (fun h => ?_) (fun h => ?_)⟩
        · have q : i' = c := by
            have := V.int.inj h
            omega
          refine iteB (fun _ => ⟨_, rfl, _, n2.at_, by rw [List.length_map, sizeLine_eq]; omega, ?_, ?_⟩) (fun h => nomatch h)
          · have z : (i' == c || lawB us c i') = true := by rw [q]; simp
            rw [filter_take_succ _ hx, if_pos z]
            exact mapp _ i' ▸ n2.put
          · rw [upd_ne ll]
            exact hl
        · have q : (i' == c) = false := by
            rw [beq_eq_false_iff_ne]
            exact fun q => h (by rw [q])
          refine ⟨_, rfl, _, rfl, _, rfl, tnil (spLB_nat (n2.same _ _ ha) (by omega) hc i1 fun G3 s3 => ⟨_, rfl, ?_⟩)⟩
          have n3 := n2.more s3
          have hl := s3 _ _ hl
          refine iteB (fun z => ?_) (fun z => ?_)
          · refine ⟨_, rfl, _, n3.at_, by rw [List.length_map, sizeLine_eq]; omega, ?_, ?_⟩
            · have z : (i' == c || lawB us c i') = true := by rw [z]; simp
              rw [filter_take_succ _ hx, if_pos z]
              exact mapp _ i' ▸ n3.put
            · rw [upd_ne ll]
              exact hl
          · have z : ¬ (i' == c || lawB us c i') = true := by rw [z, q]; simp
            refine ⟨?_, hl⟩
            rw [filter_take_succ _ hx, if_neg z, List.append_nil]
            exact n3
      · rw [List.length_map, List.take_length] at z
        refine k _ _ ?_
        rw [eM]
        exact z.1
end
end Q

set_option Elab.async false
set_option linter.all false
set_option maxRecDepth 100000
set_option maxHeartbeats 2000000
set_option exponentiation.threshold 20000
namespace Q
open PySem PySem.Spec PyProof.Rows L2 Hx Er Kt Mb Mu
section
variable {w : World} {K : PySem.W.Frag} {mg : Str → Option Value} {base : Heap}
theorem rg_nat (n : Nat) : rgV 0 (n : Int) = (List.range n).map nV := by
  unfold rgV
  have e : ((n : Int) - 0).toNat = n := by omega
  rw [e]
  refine List.map_congr_left fun i _ => ?_
  show V.int (0 + (i : Int)) = V.int (i : Int)
  rw [Int.zero_add]
theorem rank_of {nm : List Nat} (h : nm.Nodup) : ∃ rk : Nat → Nat, ∀ i x, nm[i]? = some x → rk x = i := by
  classical
  refine ⟨fun x => if h : ∃ i, nm[i]? = some x then Classical.choose h else 0, fun i x hx => ?_⟩
  have he : ∃ i, nm[i]? = some x := ⟨i, hx⟩
  show dite _ _ _ = i
  rw [dif_pos he]
  have c := Classical.choose_spec he
  exact ((List.getElem?_inj (List.getElem?_eq_some_iff.mp hx).1 h).mp (hx.trans c.symm)).symm
/-- the wishes of a world -/
def PsOk (n : Nat) (rk : Nat → Nat) (ps : List (Nat × Nat)) : Prop := ∀ q ∈ ps, (q.1 < n ∧ q.2 < n) ∧ rk q.2 < rk q.1 ∧ rk q.1 < n
theorem sc_law_strewn : FnScope ["store", "n", "names", "wide", "thick", "pairs", "i", "j"] ["store", "n"] (defScope s_law_strewn) := ⟨rfl, rfl, rfl, by decide +kernel, rfl, by decide +kernel, by decide +kernel⟩
def spStrewn : Sp := fun vs H Q _ => ∃ (t : Sto) (n : Nat), vs = [.ref t.s, nV n] ∧ StA t H ∧ n ≤ 24 ∧ ∀ H' p ps rk, H p = none → Wl t H H' → LPairs H' p ps → ps.length ≤ 300 → PsOk n rk ps → Q (.ref p) H'
theorem strewn_ok (T : Txt K mg) : OkF pw w K mg base "_law_strewn" 5 ["store", "n"] spStrewn := by
  have G_law_take := take_ok (w := w) (base := base) T
  have G_law_mixed := mixed_ok (w := w) (base := base) T
  refine mkOk (k := 4) T.F__law_strewn T.g__law_strewn (fun _ _ _ _ _ _ _ us hl => match us, hl with | [_, _], _ => rfl) sc_law_strewn (fun vs H Q E h => ?_) (fun f cdv A outer s H vs Q E hr h => ?_)
  · obtain ⟨t, n, rfl, _⟩ := h
    rfl
  · obtain ⟨t, n, rfl, hst, hn, k⟩ := h
    refine ⟨_, (pss_cons (ps_set (i := 2) sc_law_strewn.nd rfl (Or.inl rfl) (cl G_law_mixed hr (pa_cons (pv 0) (pa_cons (pe_listRg rfl (by rfl) T.z_list (prg_1 (by rfl) T.z_range (pv 1))) pa_nil))))
      (pss_cons (ps_set (i := 3) sc_law_strewn.nd rfl (Or.inl rfl) (pe_ix ix_list (pe_lst (pa_cons pe_int (pa_cons (pe_op op_add pe_int (cl G_law_take hr (pa_cons (pv 0) (pa_cons (pv 1) pa_nil)))) pa_nil))) (cl G_law_take hr (pa_cons (pv 0) (pa_cons pe_int pa_nil))) (fun _ _ => rfl)))
      (pss_cons (ps_set (i := 4) sc_law_strewn.nd rfl (Or.inl rfl) (pe_ix ix_list (pe_lst (pa_cons pe_int (pa_cons pe_int (pa_cons pe_int (pa_cons pe_int (pa_cons pe_int (pa_cons pe_int (pa_cons pe_int pa_nil)))))))) (cl G_law_take hr (pa_cons (pv 0) (pa_cons pe_int pa_nil))) (fun _ _ => rfl)))
      (pss_cons (ps_set (i := 5) sc_law_strewn.nd rfl (Or.inl rfl) (pe_lst pa_nil))
      (pss_cons (ps_for passW rfl (pi_range1 (by rfl) T.z_range (pa_cons (pv 1) pa_nil)) (pg_name (i := 6) sc_law_strewn.nd rfl (Or.inl rfl))
      (pss_one (ps_for passW rfl (pi_range1 (by rfl) T.z_range (pa_cons (pv 6) pa_nil)) (pg_name (i := 7) sc_law_strewn.nd rfl (Or.inl rfl))
      (pss_one (ps_if (PW.pt (pw_and (pt_cmpR op_gt (pe_op op_fdivW (pv 6) (pv 3)) (pe_op op_fdivW (pv 7) (pv 3)) (nomark _)) (pw_and1 (pt_cmpR op_lt (cl G_law_take hr (pa_cons (pv 0) (pa_cons pe_int pa_nil))) (pv 4) (nomark _))))) (pss_one (ps_expr (pe_bm PySem.F.plainAttrs_list PySem.F.slot_list_append PySem.F.type_list_append mt_append (pv 5) (pa_cons (pe_tup (pa_cons (pe_ix ix_list (pv 2) (pv 6) (fun _ _ => rfl)) (pa_cons (pe_ix ix_list (pv 2) (pv 7) (fun _ _ => rfl)) pa_nil))) pa_nil)))) pss_nil)))))
      (pss_one (ps_ret (cl G_law_mixed hr (pa_cons (pv 0) (pa_cons (pv 5) pa_nil)))))))))), ?_⟩
    refine ⟨_, rfl, _, rfl, n, rfl, RgOk.of_le (by decide) (by omega) (by decide) (by omega), fun l0 hl0 => ?_⟩
    rw [rg_nat]
    have n0 := Nx.mk0 (o := .lst ((List.range n).map nV)) hst hl0
    refine ⟨t, l0, (List.range n).map nV, rfl, n0.wl.2, SqL.of upd_same, by rw [List.length_map, List.length_range]; omega, fun H1 p0 ys nx pm0 => ?_⟩
    obtain ⟨nm, rfl, pm⟩ := perm_map_inv pm0 _ rfl
    have hnd : nm.Nodup := pm.nodup_iff.mpr List.nodup_range
    have hln : nm.length = n := by rw [pm.length_eq, List.length_range]
    have hlt : ∀ x ∈ nm, x < n := fun x hx => List.mem_range.mp (pm.mem_iff.mp hx)
    obtain ⟨rk, hrk⟩ := rank_of hnd
    have x1 := nx.back n0.wl
    -- wide
    refine ⟨_, rfl, _, rfl, t, n, rfl, x1.wl.2, small8 (Nat.le_trans hn (by decide)), fun H2 wd w2 _ => ⟨_, _, rfl, rfl, ?_⟩⟩
    refine ⟨by show 2 ≤ _; rw [sizeLine_eq]; decide, fun q hq => ?_⟩
    have nq := Nx.mk0 (o := .lst [V.int 1, V.int (1 + (wd : Int))]) w2.2 hq
    refine ⟨_, rfl, t, 2, rfl, nq.wl.2, small8 (by decide), fun H3 r w3 hr2 => ?_⟩
    have nq3 := nq.more w2.2 w3
    have hv : ∃ v : Nat, 0 < v ∧ v ≤ wd + 1 ∧ ([V.int 1, V.int (1 + (wd : Int))] : List V)[r]? = some (nV v) := by
      match r, hr2 with
      | 0, _ => exact ⟨1, by decide, by omega, rfl⟩
      | 1, _ => exact ⟨1 + wd, by omega, by omega, rfl⟩
    obtain ⟨wv, wv0, wv1, hv2⟩ := hv
    refine rdV nq3.at_ hv2 ?_
    have x3 := x1.more hst (w2.trans nq3.wl)
    clear nq nq3 hv2
    -- thick
    refine ⟨by show 7 ≤ _; rw [sizeLine_eq]; decide, fun q hq => ?_⟩
    have nq := Nx.mk0 (o := .lst [V.int 0, V.int 1, V.int 2, V.int 3, V.int 4, V.int 6, V.int 8]) x3.wl.2 hq
    refine ⟨_, rfl, t, 7, rfl, nq.wl.2, small8 (by decide), fun H4 r w4 hr7 => ?_⟩
    have nq4 := nq.more x3.wl.2 w4
    have hv : ∃ v : Nat, ([V.int 0, V.int 1, V.int 2, V.int 3, V.int 4, V.int 6, V.int 8] : List V)[r]? = some (nV v) := by
      match r, hr7 with
      | 0, _ => exact ⟨0, rfl⟩
      | 1, _ => exact ⟨1, rfl⟩
      | 2, _ => exact ⟨2, rfl⟩
      | 3, _ => exact ⟨3, rfl⟩
      | 4, _ => exact ⟨4, rfl⟩
      | 5, _ => exact ⟨6, rfl⟩
      | 6, _ => exact ⟨8, rfl⟩
    obtain ⟨tv, hv2⟩ := hv
    refine rdV nq4.at_ hv2 ?_
    have x4 := x3.more hst nq4.wl
    clear nq nq4 hv2
    -- pairs
    refine ⟨Nat.zero_le _, fun l hl => ?_⟩
    have hst4 := x4.wl.2
    have pl0 : p0 ≠ l := fun e => by
      rw [← e, x4.at_] at hl
      cases hl
    have kpl : ∀ G, Wl t H4 G → G p0 = some (.lst (nm.map nV)) := fun G w => w.keep hst4 (notSto_nats nm) x4.at_
    have wdb : (wv : Int).natAbs < 2 ^ 8000 := by
      have : wv < 2 ^ 8000 := small8 (Nat.le_trans (m := 100) (by omega) (by decide))
      simpa using this
    refine ⟨_, rfl, _, rfl, by omega, by omega, ?_⟩
    refine forN (n := n) (fun i σ G => ∃ (as : List Addr) (ps : List (Nat × Nat)) (y6 y7 : Option V), σ = [some (.ref t.s), some (nV n), some (.ref p0), some (nV wv), some (nV tv), some (.ref l), y6, y7] ∧ Nx t H4 G l (.lst (as.map V.ref)) ∧ PairsAt G as ps ∧ 2 * ps.length + i ≤ i * i ∧ PsOk n rk ps)
      ⟨[], [], _, _, rfl, Nx.mk0 hst4 hl, ⟨rfl, fun _ _ _ h => nomatch h⟩, Nat.le_refl _, fun _ h => nomatch h⟩ ?_ ?_
    · rintro i σ G hi ⟨as, ps, y6, y7, rfl, nx, hp, hz, hok⟩
      refine ⟨_, rfl, _, rfl, by omega, by omega, ?_⟩
      refine forN (n := i) (fun j σ G => ∃ (as : List Addr) (ps : List (Nat × Nat)) (y7 : Option V), σ = [some (.ref t.s), some (nV n), some (.ref p0), some (nV wv), some (nV tv), some (.ref l), some (nV i), y7] ∧ Nx t H4 G l (.lst (as.map V.ref)) ∧ PairsAt G as ps ∧ 2 * ps.length + i ≤ i * i + 2 * j ∧ PsOk n rk ps)
        ⟨as, ps, _, rfl, nx, hp, by omega, hok⟩ ?_ ?_
      · rintro j σ G hj ⟨as, ps, y7, rfl, nx, hp, hz, hok⟩
        refine ⟨_, rfl, _, rfl, _, _, rfl, rfl, wide_div (b := 8000) (by omega) wdb (by decide) (by decide), _, rfl, _, rfl, _, _, rfl, rfl, wide_div (b := 8000) (by omega) wdb (by decide) (by decide), _, _, rfl, rfl, _, rfl, ?_⟩
        refine iteD (fun _ => ?_) (fun _ => ⟨as, ps, _, rfl, nx, hp, by omega, hok⟩)
        refine ⟨_, rfl, t, 8, rfl, nx.wl.2, small8 (by decide), fun G2 r w5 _ => ⟨_, rfl, _, _, rfl, rfl, _, rfl, ?_⟩⟩
        have hp2 := hp.mono (w5.tup nx.wl.2)
        have nx2 := nx.more hst4 w5
        refine iteD (fun _ => ?_) (fun _ => ⟨as, ps, _, rfl, nx2, hp2, by omega, hok⟩)
        have h0 := kpl G2 nx2.wl
        have gi : nm[i]? = some (nm.getD i 0) := get_of_lt (by omega)
        have gj : nm[j]? = some (nm.getD j 0) := get_of_lt (by omega)
        refine ⟨.ref l, rfl, Or.inl ⟨rfl, _, SqL.of nx2.at_⟩, _, rfl, _, rfl, rdV h0 (mget (by omega)) ⟨_, rfl, _, rfl, rdV h0 (mget (by omega)) ⟨by show 2 ≤ _; rw [sizeLine_eq]; decide, fun q hq => ?_⟩⟩⟩
        have nq := Nx.mk0 (o := .tup [nV (nm.getD i 0), nV (nm.getD j 0)]) nx2.wl.2 hq
        have nx3 := nx2.more hst4 nq.wl
        refine ⟨l, _, _, rfl, rfl, nx3.at_, ?_, ?_⟩
        · have := hp2.1
          have : i * i ≤ 24 * 24 := Nat.mul_le_mul (by omega) (by omega)
          rw [List.length_map, sizeLine_eq]
          omega
        · refine ⟨as ++ [q], ps ++ [(nm.getD i 0, nm.getD j 0)], _, rfl, ?_, ?_, ?_, ?_⟩
          · rw [List.map_append]
            exact nx3.put hst4
          · exact ((hp2.mono (nq.wl.tup nx2.wl.2)).snoc (p := (nm.getD i 0, nm.getD j 0)) upd_same).mono (upd_tup nx3.at_)
          · rw [List.length_append]
            show 2 * (ps.length + 1) + i ≤ _
            omega
          · intro q hq
            rcases List.mem_append.mp hq with h | h
            · exact hok q h
            · rw [List.mem_singleton.mp h]
              refine ⟨⟨hlt _ (nat_mem gi), hlt _ (nat_mem gj)⟩, ?_, ?_⟩
              · show rk (nm.getD j 0) < rk (nm.getD i 0)
                rw [hrk _ _ gi, hrk _ _ gj]
                exact hj
              · show rk (nm.getD i 0) < n
                rw [hrk _ _ gi]
                exact hi
      · rintro σ G ⟨as, ps, y7, rfl, nx, hp, hz, hok⟩
        refine ⟨as, ps, _, _, rfl, nx, hp, ?_, hok⟩
        have e : (i + 1) * (i + 1) = i * i + 2 * i + 1 := by
          rw [Nat.add_mul, Nat.mul_add]
          omega
        rw [e]
        omega
    · rintro σ G ⟨as, ps, y6, y7, rfl, nx, hp, hz, hok⟩
      have hz2 : ps.length ≤ 300 := by
        have : n * n ≤ 24 * n := Nat.mul_le_mul hn (Nat.le_refl _)
        omega
      refine ⟨_, rfl, _, rfl, t, l, as.map V.ref, rfl, nx.wl.2, SqL.of nx.at_, by rw [List.length_map, hp.1]; omega, fun H5 p ys nx5 pm5 => ?_⟩
      obtain ⟨bs, rfl, pm6⟩ := perm_map_inv pm5 _ rfl
      obtain ⟨qs, pm7, hq⟩ := (hp.mono (nx5.wl.tup nx.wl.2)).perm pm6
      have wl5 := (x4.wl.trans nx.wl).trans nx5.wl
      exact k H5 p qs rk ((x4.wl.trans nx.wl).free nx5.no) wl5 ⟨bs, nx5.at_, hq⟩ (by rw [pm7.length_eq]; exact hz2) fun q h => hok q (pm7.mem_iff.mp h)
end
end Q

set_option Elab.async false
set_option linter.all false
set_option maxRecDepth 100000
set_option maxHeartbeats 2000000
set_option exponentiation.threshold 20000
namespace Q
open PySem PySem.Spec PyProof.Rows L2 Hx Er Kt Mb Mu
section
variable {w : World} {K : PySem.W.Frag} {mg : Str → Option Value} {base : Heap}
/-- a line that may be laid -/
def Free (ds : List Nat) (cd x : Nat) : Prop := x < ds.length ∧ cd.testBit x = false ∧ ds.getD x 0 &&& cd = ds.getD x 0
theorem and_eq_nat {a b : Nat} : nV a = nV b ↔ a = b := by
  constructor
  · intro h
    have := V.int.inj h
    omega
  · intro h
    rw [h]
theorem rise_int {ds : List Nat} {cd x : Nat} (h : ds.getD x 0 &&& cd = ds.getD x 0) : (cd : Int) + ((2 ^ x : Nat) : Int) - ((ds.getD x 0 : Nat) : Int) = ((rise ds cd x : Nat) : Int) := by
  have : ds.getD x 0 ≤ cd := by
    rw [← h]
    exact Nat.and_le_right
  have := Nat.two_pow_pos x
  unfold rise
  omega
theorem sc_law_risen : FnScope ["store", "downs", "code", "steps", "k", "free", "x"] ["store", "downs", "code", "steps"] (defScope s_law_risen) := ⟨rfl, rfl, rfl, by decide +kernel, rfl, by decide +kernel, by decide +kernel⟩
def spRis : Sp := fun vs H Q _ => ∃ (t : Sto) (d : Addr) (ds : List Nat) (cd st : Nat), vs = [.ref t.s, .ref d, nV cd, nV st] ∧ StA t H ∧ H d = some (.lst (ds.map nV)) ∧ ds.length ≤ 64 ∧ cd < 2 ^ ds.length ∧ st ≤ 1000 ∧ ∀ H' (r : Nat), Wl t H H' → r < 2 ^ ds.length → Q (nV r) H'
theorem risen_ok (T : Txt K mg) : OkF pw w K mg base "_law_risen" 4 ["store", "downs", "code", "steps"] spRis := by
  have G_law_take := take_ok (w := w) (base := base) T
  refine mkOk (k := 3) T.F__law_risen T.g__law_risen (fun _ _ _ _ _ _ _ us hl => match us, hl with | [_, _, _, _], _ => rfl) sc_law_risen (fun vs H Q E h => ?_) (fun f cdv A outer s H vs Q E hr h => ?_)
  · obtain ⟨t, d, ds, cd, st, rfl, _⟩ := h
    rfl
  · obtain ⟨t, d, ds, cd, st, rfl, hst, hd, hz, hc, hs, k⟩ := h
    refine ⟨_, (pss_cons (ps_for passW rfl (pi_range1 (by rfl) T.z_range (pa_cons (pv 3) pa_nil)) (pg_name (i := 4) sc_law_risen.nd rfl (Or.inl rfl))
      (pss_cons (ps_setLc (i := 5) (own := [("x", 6)]) rfl sc_law_risen.nd rfl rfl (sw_true rfl rfl rfl (by decide +kernel)) (pi_range1 (by rfl) T.z_range (pa_cons (pe_callB call_len_seq (by rfl) T.z_len PySem.boot_len (pa_cons (pv 1) pa_nil)) pa_nil)) (blkOk_by (N := ["store", "downs", "code", "steps", "k", "free", "x"]) (sc := defScope s_law_risen) (by decide +kernel)) (fun _ _ _ _ _ => (pg_name (i := 6) sc_law_risen.nd rfl (Or.inl rfl))) (fun _ _ _ _ _ => (pts_one (PW.pt (pw_and (pt_cmpR op_eq (pe_op op_andN (pe_op op_shrN2 (pv 2) (pv 6)) pe_int) pe_int (nomark _)) (pw_and1 (pt_cmpR op_eq (pe_op op_andN (pe_ix (show IxR _ (rIxL K) from ix_list) (pv 1) (pv 6) (fun _ _ => rfl)) (pv 2)) (pe_ix (show IxR _ (rIxL K) from ix_list) (pv 1) (pv 6) (fun _ _ => rfl)) (nomark _))))))) (fun _ _ _ _ _ => (pv 6)))
      (pss_one (ps_if (pt_cmpR op_gt (pe_callB call_len_seq (by rfl) T.z_len PySem.boot_len (pa_cons (pv 5) pa_nil)) pe_int (nomark _)) (pss_cons (ps_set (i := 6) sc_law_risen.nd rfl (Or.inl rfl) (pe_ix ix_list (pv 5) (cl G_law_take hr (pa_cons (pv 0) (pa_cons (pe_callB call_len_seq (by rfl) T.z_len PySem.boot_len (pa_cons (pv 5) pa_nil)) pa_nil))) (fun _ _ => rfl)))
      (pss_one (ps_set (i := 2) sc_law_risen.nd rfl (Or.inr rfl) (pe_op op_sub (pe_op op_add (pv 2) (pe_op op_shl1 pe_int (pv 6))) (pe_ix ix_list (pv 1) (pv 6) (fun _ _ => rfl)))))) pss_nil))))
      (pss_one (ps_ret (pv 2)))), ?_⟩
    refine ⟨_, rfl, _, rfl, by omega, by omega, ?_⟩
    refine forN (n := st) (fun i σ G => ∃ (cd : Nat) (y4 y5 y6 : Option V), σ = [some (.ref t.s), some (.ref d), some (nV cd), some (nV st), y4, y5, y6] ∧ Wl t H G ∧ cd < 2 ^ ds.length) ⟨cd, _, _, _, rfl, Wl.refl hst, hc⟩ ?_ ?_
    · rintro i σ G hi ⟨cd, y4, y5, y6, rfl, wl, hc⟩
      have hdG : G d = some (.lst (ds.map nV)) := wl.keep hst (notSto_nats ds) hd
      refine ⟨_, rfl, d, _, rfl, Or.inl (SqL.of hdG), _, rfl, by rw [List.length_map]; omega, by rw [List.length_map]; omega, fun l hl => ?_⟩
      refine lcN (n := (ds.map nV).length) (fun j G2 => ∃ xs : List Nat, Nw G G2 l (.lst (xs.map nV)) ∧ xs.length ≤ j ∧ ∀ x ∈ xs, Free ds cd x) ⟨[], Nw.mk0 hl, Nat.le_refl _, fun _ h => nomatch h⟩ (fun j G2 hj z => ?_) (fun G2 z => ?_)
      · obtain ⟨xs, nw, hx, hf⟩ := z
        rw [List.length_map] at hj
        have no : ∃ xs : List Nat, Nw G G2 l (.lst (xs.map nV)) ∧ xs.length ≤ j + 1 ∧ ∀ x ∈ xs, Free ds cd x := ⟨xs, nw, by omega, hf⟩
        have hdG2 := nw.same _ _ hdG
        refine ⟨rfl, _, rfl, _, rfl, _, _, rfl, rfl, _, 1, rfl, rfl, rfl, _, rfl, iteD (fun c1 => ?_) (fun _ => iteB (fun h => nomatch h) (fun _ => no))⟩
        refine ⟨_, rfl, _, rfl, rdV hdG2 (mget hj) ⟨_, rfl, _, _, rfl, rfl, _, rfl, _, rfl, rdV hdG2 (mget hj) ⟨rfl, _, rfl, iteD (fun c2 => ?_) (fun _ => no)⟩⟩⟩
        refine ⟨_, rfl, _, nw.at_, by rw [List.length_map, sizeLine_eq]; omega, xs ++ [j], ?_, by rw [List.length_append]; exact Nat.succ_le_succ hx, ?_⟩
        · exact mapp xs j ▸ nw.put
        · intro x h
          rcases List.mem_append.mp h with h | h
          · exact hf x h
          · rw [List.mem_singleton.mp h]
            exact ⟨hj, (tb0 _ _).mp c1, and_eq_nat.mp c2⟩
      · obtain ⟨xs, nw, hx, hf⟩ := z
        rw [List.length_map] at hx
        have wl2 := wl.trans (Wl.of wl.2 nw.same)
        refine ⟨_, rfl, l, _, rfl, Or.inl (SqL.of nw.at_), _, _, rfl, rfl, _, rfl, iteD (fun c => ?_) (fun _ => ⟨cd, _, _, _, rfl, wl2, hc⟩)⟩
        rw [List.length_map] at c
        refine ⟨_, rfl, _, rfl, _, rfl, l, _, rfl, Or.inl (SqL.of nw.at_), t, xs.length, by rw [List.length_map]; rfl, wl2.2, small8 (Nat.le_trans (m := 100) (by omega) (by decide)), fun G3 r w3 hr3 => ?_⟩
        have hr4 : r < xs.length := by omega
        have l3 : G3 l = some (.lst (xs.map nV)) := w3.keep wl2.2 (notSto_nats xs) nw.at_
        obtain ⟨f1, f2, f3⟩ := hf _ (nat_mem (get_of_lt hr4))
        refine rdV l3 (mget hr4) ?_
        have d3 : G3 d = some (.lst (ds.map nV)) := w3.keep wl2.2 (notSto_nats ds) (nw.same _ _ hdG)
        refine ⟨_, rfl, _, rfl, _, rfl, rfl, by omega, _, _, rfl, rfl, _, rfl, _, rfl, rdV d3 (mget f1) ⟨_, _, rfl, rfl, ?_⟩⟩
        refine ⟨rise ds cd (xs.getD r 0), some (nV i), some (.ref l), some (nV (xs.getD r 0)), ?_, wl2.trans w3, rise_lt f2 hc f1⟩
        have e := congrArg V.int (rise_int (cd := cd) f3)
        show [some (V.ref t.s), some (V.ref d), some (V.int ((cd : Int) + ((2 ^ xs.getD r 0 : Nat) : Int) - ((ds.getD (xs.getD r 0) 0 : Nat) : Int))), some (nV st), some (nV i), some (V.ref l), some (nV (xs.getD r 0))] = _
        rw [e]
    · rintro σ G ⟨cd, y4, y5, y6, rfl, wl, hc⟩
      exact ⟨_, rfl, k _ _ wl hc⟩
theorem sc_law_on_the_way : FnScope ["store", "ups", "downs", "e", "c", "code", "k", "after", "x", "later"] ["store", "ups", "downs", "e", "c"] (defScope s_law_on_the_way) := ⟨rfl, rfl, rfl, by decide +kernel, rfl, by decide +kernel, by decide +kernel⟩
/-- a way from e towards c -/
def WayOk (us : List Nat) (e c r : Nat) : Prop := r = e ∨ (lawB us r e = true ∧ (r = c ∨ lawB us c r = true))
/-- what the walk needs of the law's order -/
structure Laws (us ds : List Nat) : Prop where
  step : ∀ cd x, cd < 2 ^ us.length → Free ds cd x → lawB us (rise ds cd x) cd = true
  trans : ∀ a b c, a < 2 ^ us.length → b < 2 ^ us.length → c < 2 ^ us.length → lawB us a b = true → lawB us b c = true → lawB us a c = true
def spWay : Sp := fun vs H Q _ => ∃ (t : Sto) (u d : Addr) (us ds : List Nat) (e c : Nat), vs = [.ref t.s, .ref u, .ref d, nV e, nV c] ∧ StA t H ∧ H u = some (.lst (us.map nV)) ∧ H d = some (.lst (ds.map nV)) ∧ us.length = ds.length ∧ ds.length ≤ 64 ∧ Laws us ds ∧ e < 2 ^ ds.length ∧ c < 2 ^ ds.length ∧
  ∀ H' (r : Nat), Wl t H H' → r < 2 ^ ds.length → WayOk us e c r → Q (nV r) H'
theorem way_ok (T : Txt K mg) : OkF pw w K mg base "_law_on_the_way" 4 ["store", "ups", "downs", "e", "c"] spWay := by
  have G_law_take := take_ok (w := w) (base := base) T
  have G_law_beats := law_beats_ok (w := w) (base := base) T
  refine mkOk (k := 3) T.F__law_on_the_way T.g__law_on_the_way (fun _ _ _ _ _ _ _ us hl => match us, hl with | [_, _, _, _, _], _ => rfl) sc_law_on_the_way (fun vs H Q E h => ?_) (fun f cdv A outer s H vs Q E hr h => ?_)
  · obtain ⟨t, u, d, us, ds, e, c, rfl, _⟩ := h
    rfl
  · obtain ⟨t, u, d, us, ds, e, c, rfl, hst, hu, hd, hl, hz, L, he, hc, k⟩ := h
    refine ⟨_, (pss_cons (ps_set (i := 5) sc_law_on_the_way.nd rfl (Or.inl rfl) (pv 3))
      (pss_cons (ps_for passW rfl (pi_range1 (by rfl) T.z_range (pa_cons (cl G_law_take hr (pa_cons (pv 0) (pa_cons pe_int pa_nil))) pa_nil)) (pg_name (i := 6) sc_law_on_the_way.nd rfl (Or.inl rfl))
      (pss_cons (ps_set (i := 7) sc_law_on_the_way.nd rfl (Or.inl rfl) (pe_lst pa_nil))
      (pss_cons (ps_for passW rfl (pi_range1 (by rfl) T.z_range (pa_cons (pe_callB call_len_seq (by rfl) T.z_len PySem.boot_len (pa_cons (pv 2) pa_nil)) pa_nil)) (pg_name (i := 8) sc_law_on_the_way.nd rfl (Or.inl rfl))
      (pss_one (ps_if (PW.pt (pw_and (pt_cmpR op_eq (pe_op op_andN (pe_op op_shrN2 (pv 5) (pv 8)) pe_int) pe_int (nomark _)) (pw_and1 (pt_cmpR op_eq (pe_op op_andN (pe_ix ix_list (pv 2) (pv 8) (fun _ _ => rfl)) (pv 5)) (pe_ix ix_list (pv 2) (pv 8) (fun _ _ => rfl)) (nomark _))))) (pss_cons (ps_set (i := 9) sc_law_on_the_way.nd rfl (Or.inl rfl) (pe_op op_sub (pe_op op_add (pv 5) (pe_op op_shl1 pe_int (pv 8))) (pe_ix ix_list (pv 2) (pv 8) (fun _ _ => rfl))))
      (pss_one (ps_if (PW.pt (pw_or (pt_cmpR op_eq (pv 9) (pv 4) (nomark _)) (pw_or1 (pt_val (cl G_law_beats hr (pa_cons (pv 1) (pa_cons (pv 4) (pa_cons (pv 9) pa_nil)))))))) (pss_one (ps_expr (pe_bm PySem.F.plainAttrs_list PySem.F.slot_list_append PySem.F.type_list_append mt_append (pv 7) (pa_cons (pv 9) pa_nil)))) pss_nil))) pss_nil)))
      (pss_one (ps_if (pt_cmpR op_gt (pe_callB call_len_seq (by rfl) T.z_len PySem.boot_len (pa_cons (pv 7) pa_nil)) pe_int (nomark _)) (pss_one (ps_set (i := 5) sc_law_on_the_way.nd rfl (Or.inl rfl) (pe_ix ix_list (pv 7) (cl G_law_take hr (pa_cons (pv 0) (pa_cons (pe_callB call_len_seq (by rfl) T.z_len PySem.boot_len (pa_cons (pv 7) pa_nil)) pa_nil))) (fun _ _ => rfl)))) pss_nil)))))
      (pss_one (ps_ret (pv 5))))), ?_⟩
    refine ⟨_, rfl, ?_⟩
    refine ⟨_, rfl, t, 20, rfl, hst, small8 (by decide), fun H1 st w1 hst2 => ⟨_, rfl, by omega, by omega, ?_⟩⟩
    refine forN (n := st) (fun i σ G => ∃ (cd : Nat) (y6 y7 y8 y9 : Option V), σ = [some (.ref t.s), some (.ref u), some (.ref d), some (nV e), some (nV c), some (nV cd), y6, y7, y8, y9] ∧ Wl t H G ∧ cd < 2 ^ ds.length ∧ WayOk us e c cd) ⟨e, _, _, _, _, rfl, w1, he, Or.inl rfl⟩ ?_ ?_
    · rintro i σ G hi ⟨cd, y6, y7, y8, y9, rfl, wl, hcd, hway⟩
      have hdG : G d = some (.lst (ds.map nV)) := wl.keep hst (notSto_nats ds) hd
      have huG : G u = some (.lst (us.map nV)) := wl.keep hst (notSto_nats us) hu
      refine ⟨Nat.zero_le _, fun l hl2 => ?_⟩
      have n0 := Nw.mk0 (o := .lst []) hl2
      refine ⟨_, rfl, d, _, rfl, Or.inl (SqL.of (n0.same _ _ hdG)), _, rfl, by rw [List.length_map]; omega, by rw [List.length_map]; omega, ?_⟩
      refine forN (n := (ds.map nV).length) (fun j σ G2 => ∃ (xs : List Nat) (y8 y9 : Option V), σ = [some (.ref t.s), some (.ref u), some (.ref d), some (nV e), some (nV c), some (nV cd), some (nV i), some (.ref l), y8, y9] ∧ Nw G G2 l (.lst (xs.map nV)) ∧ xs.length ≤ j ∧ ∀ x ∈ xs, x < 2 ^ ds.length ∧ lawB us x cd = true ∧ (x = c ∨ lawB us c x = true))
        ⟨[], _, _, rfl, n0, Nat.le_refl _, fun _ h => nomatch h⟩ ?_ ?_
      · rintro j σ G2 hj ⟨xs, y8, y9, rfl, nw, hx, hf⟩
        rw [List.length_map] at hj
        have hdG2 := nw.same _ _ hdG
        refine ⟨_, rfl, _, rfl, _, _, rfl, rfl, _, 1, rfl, rfl, rfl, _, rfl, iteD (fun c1 => ?_) (fun _ => ⟨xs, _, _, rfl, nw, by omega, hf⟩)⟩
        refine ⟨_, rfl, _, rfl, rdV hdG2 (mget hj) ⟨_, rfl, _, _, rfl, rfl, _, rfl, _, rfl, rdV hdG2 (mget hj) ⟨rfl, _, rfl, iteD (fun c2 => ?_) (fun _ => ⟨xs, _, _, rfl, nw, by omega, hf⟩)⟩⟩⟩
        have fr : Free ds cd j := ⟨hj, (tb0 _ _).mp c1, and_eq_nat.mp c2⟩
        refine ⟨_, rfl, _, rfl, _, rfl, rfl, by omega, _, _, rfl, rfl, _, rfl, _, rfl, rdV hdG2 (mget hj) ⟨_, _, rfl, rfl, ?_⟩⟩
        show gName 9 (V.int ((cd : Int) + ((2 ^ j : Nat) : Int) - ((ds.getD j 0 : Nat) : Int))) _ _ _
        rw [rise_int fr.2.2]
        have rl := rise_lt (ds := ds) fr.2.1 hcd hj
        have rb := L.step cd j (by rw [hl]; exact hcd) fr
        generalize rise ds cd j = lt at *
        have add : ∀ G3, Nw G G3 l (.lst (xs.map nV)) → (lt = c ∨ lawB us c lt = true) → ∃ (xs : List Nat) (y8 y9 : Option V), ([some (.ref t.s), some (.ref u), some (.ref d), some (nV e), some (nV c), some (nV cd), some (nV i), some (.ref l), some (nV j), some (nV lt)] : L2.St) = [some (.ref t.s), some (.ref u), some (.ref d), some (nV e), some (nV c), some (nV cd), some (nV i), some (.ref l), y8, y9] ∧ Nw G (upd G3 l (.lst (xs.map nV))) l (.lst (xs.map nV)) ∧ xs.length ≤ j + 1 ∧ ∀ x ∈ xs, x < 2 ^ ds.length ∧ lawB us x cd = true ∧ (x = c ∨ lawB us c x = true) := fun G3 n3 hor => by
          refine ⟨xs ++ [lt], _, _, rfl, n3.put, by rw [List.length_append]; exact Nat.succ_le_succ hx, ?_⟩
          intro x h
          rcases List.mem_append.mp h with h | h
          · exact hf x h
          · rw [List.mem_singleton.mp h]
            exact ⟨rl, rb, hor⟩
        refine ⟨_, rfl, _, rfl, rfl, _, rfl, iteD (fun c3 => ?_) (fun c3 => ?_)⟩
        · refine ⟨.ref l, rfl, Or.inl ⟨rfl, _, SqL.of nw.at_⟩, _, rfl, l, _, _, rfl, rfl, nw.at_, by rw [List.length_map, sizeLine_eq]; omega, ?_⟩
          obtain ⟨ys, a1, a2, a3, a4, a5, a6⟩ := add G2 nw (Or.inl (and_eq_nat.mp c3))
          refine ⟨xs ++ [lt], _, _, rfl, mapp xs lt ▸ nw.put, by rw [List.length_append]; exact Nat.succ_le_succ hx, ?_⟩
          intro x h
          rcases List.mem_append.mp h with h | h
          · exact hf x h
          · rw [List.mem_singleton.mp h]
            exact ⟨rl, rb, Or.inl (and_eq_nat.mp c3)⟩
        · refine ⟨_, rfl, _, rfl, _, rfl, tnil (spLB_nat (nw.same _ _ huG) (by omega) (by rw [hl]; exact hc) (by rw [hl]; exact rl) fun G3 s3 => ⟨_, rfl, ?_⟩)⟩
          have n3 := nw.more s3
          refine iteB (fun z => ?_) (fun z => ⟨xs, _, _, rfl, n3, by omega, hf⟩)
          refine ⟨.ref l, rfl, Or.inl ⟨rfl, _, SqL.of n3.at_⟩, _, rfl, l, _, _, rfl, rfl, n3.at_, by rw [List.length_map, sizeLine_eq]; omega, ?_⟩
          refine ⟨xs ++ [lt], _, _, rfl, mapp xs lt ▸ n3.put, by rw [List.length_append]; exact Nat.succ_le_succ hx, ?_⟩
          intro x h
          rcases List.mem_append.mp h with h | h
          · exact hf x h
          · rw [List.mem_singleton.mp h]
            exact ⟨rl, rb, Or.inr z⟩
      · rintro σ G2 ⟨xs, y8, y9, rfl, nw, hx, hf⟩
        rw [List.length_map] at hx
        have wl2 := wl.trans (Wl.of wl.2 nw.same)
        refine ⟨_, rfl, l, _, rfl, Or.inl (SqL.of nw.at_), _, _, rfl, rfl, _, rfl, iteD (fun c => ?_) (fun _ => ⟨cd, _, _, _, _, rfl, wl2, hcd, hway⟩)⟩
        rw [List.length_map] at c
        refine ⟨_, rfl, _, rfl, _, rfl, l, _, rfl, Or.inl (SqL.of nw.at_), t, xs.length, by rw [List.length_map]; rfl, wl2.2, small8 (Nat.le_trans (m := 100) (by omega) (by decide)), fun G3 r w3 hr3 => ?_⟩
        have hr4 : r < xs.length := by omega
        have l3 : G3 l = some (.lst (xs.map nV)) := w3.keep wl2.2 (notSto_nats xs) nw.at_
        obtain ⟨f1, f2, f3⟩ := hf _ (nat_mem (get_of_lt hr4))
        refine rdV l3 (mget hr4) ?_
        refine ⟨xs.getD r 0, _, _, _, _, rfl, wl2.trans w3, f1, Or.inr ⟨?_, f3⟩⟩
        rcases hway with h | ⟨h, _⟩
        · rw [← h]
          exact f2
        · exact L.trans _ cd e (by rw [hl]; exact f1) (by rw [hl]; exact hcd) (by rw [hl]; exact he) f2 h
    · rintro σ G ⟨cd, y6, y7, y8, y9, rfl, wl, hcd, hway⟩
      exact ⟨_, rfl, k _ _ wl hcd hway⟩
end
end Q

set_option linter.all false
namespace Q
open Mb Mu
/-- x lies above y -/
def Abv (u : List Nat) (x y : Nat) : Prop := (u.getD y 0).testBit x = true
/-- the ranks rise -/
def Rkd (n : Nat) (rk : Nat → Nat) (u : List Nat) : Prop := ∀ x y, Abv u x y → rk y < rk x ∧ rk x < n ∧ x < n
theorem getD_set2 {xs : List Nat} {i j v : Nat} : (xs.set i v).getD j 0 = if j = i ∧ i < xs.length then v else xs.getD j 0 := by
  rw [List.getD_eq_getElem?_getD, List.getD_eq_getElem?_getD, List.getElem?_set]
  by_cases c : i = j
  · subst c
    by_cases h : i < xs.length
    · simp [h]
    · simp [h]
  · have : ¬ j = i := fun e => c e.symm
    simp [c, this]
theorem put_abv {u : List Nat} {p : Nat × Nat} {x y : Nat} (h : Abv (put u p) x y) : Abv u x y ∨ (x = p.1 ∧ y = p.2) := by
  unfold Abv put at *
  rw [getD_set2] at h
  split at h
  · rename_i c
    rw [Nat.testBit_or, Nat.testBit_two_pow, Bool.or_eq_true] at h
    rcases h with h | h
    · rw [c.1]
      exact Or.inl h
    · exact Or.inr ⟨(of_decide_eq_true h).symm, c.1⟩
  · exact Or.inl h
theorem put_rkd {n : Nat} {rk : Nat → Nat} {u : List Nat} (h : Rkd n rk u) {p : Nat × Nat} (hp : (p.1 < n ∧ p.2 < n) ∧ rk p.2 < rk p.1 ∧ rk p.1 < n) : Rkd n rk (put u p) := fun x y hx => by
  rcases put_abv hx with h1 | ⟨h1, h2⟩
  · exact h x y h1
  · rw [h1, h2]
    exact ⟨hp.2.1, hp.2.2, hp.1.1⟩
theorem step_abv {u : List Nat} {m l x y : Nat} (h : Abv (wStep m u l) x y) : Abv u x y ∨ (y = l ∧ Abv u m l ∧ Abv u x m) := by
  unfold wStep at h
  split at h
  · rename_i c
    unfold Abv at *
    rw [getD_set2] at h
    split at h
    · rename_i d
      rw [Nat.testBit_or, Bool.or_eq_true] at h
      rcases h with h | h
      · rw [d.1]
        exact Or.inl h
      · exact Or.inr ⟨d.1, c, h⟩
    · exact Or.inl h
  · exact Or.inl h
theorem step_rkd {n : Nat} {rk : Nat → Nat} {u : List Nat} (h : Rkd n rk u) (m l : Nat) : Rkd n rk (wStep m u l) := fun x y hx => by
  rcases step_abv hx with h1 | ⟨h1, h2, h3⟩
  · exact h x y h1
  · obtain ⟨a1, _, _⟩ := h m l h2
    obtain ⟨b1, b2, b3⟩ := h x m h3
    rw [h1]
    exact ⟨by omega, b2, b3⟩
theorem ups0_rkd {n : Nat} {rk : Nat → Nat} {ps : List (Nat × Nat)} (h : PsOk n rk ps) : Rkd n rk (ups0 n ps) := by
  refine foldl_inv (P := Rkd n rk) _ _ _ (fun x y hx => ?_) fun u p hp hu => put_rkd hu (h p hp)
  unfold Abv at hx
  have e : (List.replicate n 0).getD y 0 = 0 := by
    rw [List.getD_eq_getElem?_getD, List.getElem?_replicate]
    split <;> rfl
  rw [e, Nat.zero_testBit] at hx
  cases hx
theorem row_rkd {n : Nat} {rk : Nat → Nat} {u : List Nat} (h : Rkd n rk u) (m : Nat) : Rkd n rk (wRow n u m) := foldl_inv (P := Rkd n rk) _ _ _ h fun v l _ hv => step_rkd hv m l
theorem irr {n : Nat} {rk : Nat → Nat} {u : List Nat} (h : Rkd n rk u) (x : Nat) : ¬ Abv u x x := fun e => by
  have := (h x x e).1
  omega
/-- what a round makes of each row -/
theorem row_at {n : Nat} {rk : Nat → Nat} {u : List Nat} (h : Rkd n rk u) (hl : u.length = n) (m : Nat) : ∀ j, j ≤ n → ∀ x y, Abv ((List.range j).foldl (wStep m) u) x y ↔ (Abv u x y ∨ (y < j ∧ Abv u m y ∧ Abv u x m)) := by
  intro j
  induction j with
  | zero =>
    intro _ x y
    show Abv u x y ↔ _
    constructor
    · exact Or.inl
    · rintro (h1 | ⟨h1, _⟩)
      · exact h1
      · omega
  | succ j ih =>
    intro hj x y
    have ih := ih (by omega)
    rw [List.range_succ, List.foldl_append]
    show Abv (wStep m ((List.range j).foldl (wStep m) u) j) x y ↔ _
    have hv : ((List.range j).foldl (wStep m) u).length = n := by rw [foldl_len _ (wStep_len m), hl]
    generalize hV : (List.range j).foldl (wStep m) u = v at *
    have mj : Abv v m j ↔ Abv u m j := by
      rw [ih]
      constructor
      · rintro (h1 | ⟨h1, _⟩)
        · exact h1
        · omega
      · exact Or.inl
    have xm : ∀ x, Abv v x m ↔ Abv u x m := fun x => by
      rw [ih]
      constructor
      · rintro (h1 | ⟨_, h1, _⟩)
        · exact h1
        · exact absurd h1 (irr h m)
      · exact Or.inl
    by_cases c : Abv v m j
    · have e : ∀ x y, Abv (wStep m v j) x y ↔ (Abv v x y ∨ (y = j ∧ Abv v x m)) := fun x y => by
        unfold wStep
        rw [if_pos (show (v.getD j 0).testBit m = true from c)]
        unfold Abv
        rw [getD_set2]
        by_cases d : y = j ∧ j < v.length
        · rw [if_pos d, Nat.testBit_or, Bool.or_eq_true, d.1]
          simp
        · rw [if_neg d]
          constructor
          · exact Or.inl
          · rintro (h1 | ⟨h1, _⟩)
            · exact h1
            · exact absurd ⟨h1, by omega⟩ d
      rw [e, ih, xm]
      constructor
      · rintro ((h1 | ⟨h1, h2, h3⟩) | ⟨h1, h2⟩)
        · exact Or.inl h1
        · exact Or.inr ⟨by omega, h2, h3⟩
        · exact Or.inr ⟨by omega, by rw [h1]; exact mj.mp c, h2⟩
      · rintro (h1 | ⟨h1, h2, h3⟩)
        · exact Or.inl (Or.inl h1)
        · by_cases q : y = j
          · exact Or.inr ⟨q, h3⟩
          · exact Or.inl (Or.inr ⟨by omega, h2, h3⟩)
    · have e : wStep m v j = v := by
        unfold wStep
        exact if_neg c
      rw [e, ih]
      constructor
      · rintro (h1 | ⟨h1, h2, h3⟩)
        · exact Or.inl h1
        · exact Or.inr ⟨by omega, h2, h3⟩
      · rintro (h1 | ⟨h1, h2, h3⟩)
        · exact Or.inl h1
        · by_cases q : y = j
          · exact absurd (mj.mpr (q ▸ h2)) c
          · exact Or.inr ⟨by omega, h2, h3⟩
theorem abv_lt {u : List Nat} {x y : Nat} (h : Abv u x y) : y < u.length := by
  by_cases c : y < u.length
  · exact c
  · unfold Abv at h
    rw [List.getD_eq_getElem?_getD, List.getElem?_eq_none (by omega)] at h
    simp at h
theorem row_is {n : Nat} {rk : Nat → Nat} {u : List Nat} (h : Rkd n rk u) (hl : u.length = n) (m x y : Nat) : Abv (wRow n u m) x y ↔ (Abv u x y ∨ (Abv u m y ∧ Abv u x m)) := by
  unfold wRow
  rw [row_at h hl m n (Nat.le_refl _)]
  constructor
  · rintro (h1 | ⟨_, h2, h3⟩)
    · exact Or.inl h1
    · exact Or.inr ⟨h2, h3⟩
  · rintro (h1 | ⟨h2, h3⟩)
    · exact Or.inl h1
    · exact Or.inr ⟨hl ▸ abv_lt h2, h2, h3⟩
theorem rounds {n : Nat} {rk : Nat → Nat} {ps : List (Nat × Nat)} (h : PsOk n rk ps) : ∀ m, Rkd n rk ((List.range m).foldl (wRow n) (ups0 n ps)) ∧ ((List.range m).foldl (wRow n) (ups0 n ps)).length = n ∧
    ∀ k, k < m → ∀ x y, Abv ((List.range m).foldl (wRow n) (ups0 n ps)) k y → Abv ((List.range m).foldl (wRow n) (ups0 n ps)) x k → Abv ((List.range m).foldl (wRow n) (ups0 n ps)) x y := by
  intro m
  induction m with
  | zero => exact ⟨ups0_rkd h, ups0_len n ps, fun k hk => absurd hk (Nat.not_lt_zero _)⟩
  | succ m ih =>
    obtain ⟨i1, i2, i3⟩ := ih
    rw [List.range_succ, List.foldl_append]
    show Rkd n rk (wRow n ((List.range m).foldl (wRow n) (ups0 n ps)) m) ∧ (wRow n ((List.range m).foldl (wRow n) (ups0 n ps)) m).length = n ∧ ∀ k, k < m + 1 → ∀ x y, Abv (wRow n ((List.range m).foldl (wRow n) (ups0 n ps)) m) k y → Abv (wRow n ((List.range m).foldl (wRow n) (ups0 n ps)) m) x k → Abv (wRow n ((List.range m).foldl (wRow n) (ups0 n ps)) m) x y
    generalize (List.range m).foldl (wRow n) (ups0 n ps) = u at *
    refine ⟨row_rkd i1 m, by rw [wRow_len, i2], fun k hk x y h1 h2 => ?_⟩
    rw [row_is i1 i2] at h1 h2 ⊢
    by_cases c : k = m
    · subst c
      rcases h1 with h1 | ⟨_, h1⟩
      · rcases h2 with h2 | ⟨h2, _⟩
        · exact Or.inr ⟨h1, h2⟩
        · exact absurd h2 (irr i1 k)
      · exact absurd h1 (irr i1 k)
    · have km : k < m := by omega
      rcases h1 with h1 | ⟨h1, h1'⟩
      · rcases h2 with h2 | ⟨h2, h2'⟩
        · exact Or.inl (i3 k km x y h1 h2)
        · exact Or.inr ⟨i3 k km m y h1 h2, h2'⟩
      · rcases h2 with h2 | ⟨h2, h2'⟩
        · exact Or.inr ⟨h1, i3 k km x m h1' h2⟩
        · exact Or.inr ⟨h1, h2'⟩
/-- a finite order -/
structure Ordr (n : Nat) (rk : Nat → Nat) (u : List Nat) : Prop where
  len : u.length = n
  rk : Rkd n rk u
  tr : ∀ k x y, Abv u k y → Abv u x k → Abv u x y
theorem ordr {n : Nat} {rk : Nat → Nat} {ps : List (Nat × Nat)} (h : PsOk n rk ps) : Ordr n rk (ups n ps) := by
  obtain ⟨h1, h2, h3⟩ := rounds h n
  exact ⟨h2, h1, fun k x y a b => h3 k (h1 k y a).2.2 x y a b⟩
/-- a greatest one above or at y -/
theorem top_of {n : Nat} {rk : Nat → Nat} {u : List Nat} (O : Ordr n rk u) (S : Nat → Prop) : ∀ d y, n - rk y ≤ d → S y → ∃ z, S z ∧ (z = y ∨ Abv u z y) ∧ ∀ x, Abv u x z → ¬ S x := by
  intro d
  induction d with
  | zero =>
    intro y hd hy
    refine ⟨y, hy, Or.inl rfl, fun x hx _ => ?_⟩
    obtain ⟨h1, h2, _⟩ := O.rk x y hx
    omega
  | succ d ih =>
    intro y hd hy
    by_cases c : ∃ x, Abv u x y ∧ S x
    · obtain ⟨x, hx, sx⟩ := c
      obtain ⟨h1, h2, _⟩ := O.rk x y hx
      obtain ⟨z, z1, z2, z3⟩ := ih x (by omega) sx
      refine ⟨z, z1, Or.inr ?_, z3⟩
      rcases z2 with z2 | z2
      · rw [z2]
        exact hx
      · exact O.tr x z y hx z2
    · exact ⟨y, hy, Or.inl rfl, fun x hx sx => c ⟨x, hx, sx⟩⟩
def Beat (u : List Nat) (c e : Nat) : Prop := c ≠ e ∧ ∀ y, e.testBit y = true → c.testBit y = false → ∃ x, Abv u x y ∧ c.testBit x = true ∧ e.testBit x = false
theorem and_ne {a b : Nat} : (a &&& b) ≠ 0 ↔ ∃ x, a.testBit x = true ∧ b.testBit x = true := by
  constructor
  · intro h
    refine Classical.byContradiction fun c => h (Nat.eq_of_testBit_eq fun i => ?_)
    rw [Nat.testBit_and, Nat.zero_testBit]
    cases h1 : a.testBit i with
    | false => rfl
    | true =>
      cases h2 : b.testBit i with
      | false => rfl
      | true => exact absurd ⟨i, h1, h2⟩ c
  · rintro ⟨x, h1, h2⟩ e
    have := congrArg (fun z => z.testBit x) e
    simp only [Nat.testBit_and, Nat.zero_testBit, h1, h2] at this
    cases this
theorem lawB_iff {u : List Nat} {c e : Nat} (he : e < 2 ^ 64) : lawB u c e = true ↔ Beat u c e := by
  unfold lawB Beat
  rw [Bool.and_eq_true, List.all_eq_true, bne_iff_ne, and_comm]
  have hl : less e c < 2 ^ 64 := less_lt he
  constructor
  · rintro ⟨h1, h2⟩
    refine ⟨h1, fun y hy hc => ?_⟩
    have hb : (less e c).testBit y = true := by
      unfold less
      rw [less_bit, hy, hc]
      rfl
    have h3 := h2 y ((mem_bits hl).mpr hb)
    unfold lawT at h3
    obtain ⟨x, x1, x2⟩ := and_ne.mp (bne_iff_ne.mp h3)
    unfold less at x2
    rw [less_bit, Bool.and_eq_true] at x2
    exact ⟨x, x1, x2.1, by simpa using x2.2⟩
  · rintro ⟨h1, h2⟩
    refine ⟨h1, fun y hy => ?_⟩
    have hb := (mem_bits hl).mp hy
    unfold less at hb
    rw [less_bit, Bool.and_eq_true] at hb
    obtain ⟨x, x1, x2, x3⟩ := h2 y hb.1 (by simpa using hb.2)
    unfold lawT
    refine bne_iff_ne.mpr (and_ne.mpr ⟨x, x1, ?_⟩)
    unfold less
    rw [less_bit, x2, x3]
    rfl
theorem top_in {u : List Nat} {c e z : Nat} (h : Beat u c e) (hz : c.testBit z ≠ e.testBit z) (hm : ∀ x, Abv u x z → ¬ c.testBit x ≠ e.testBit x) : c.testBit z = true ∧ e.testBit z = false := by
  cases h1 : c.testBit z with
  | true =>
    rw [h1] at hz
    exact ⟨rfl, by simpa using hz.symm⟩
  | false =>
    rw [h1] at hz
    have h2 : e.testBit z = true := by simpa using hz.symm
    obtain ⟨x, x1, x2, x3⟩ := h.2 z h2 h1
    exact absurd (by rw [x2, x3]; exact Bool.noConfusion) (hm x x1)
theorem beat_tr {n : Nat} {rk : Nat → Nat} {u : List Nat} (O : Ordr n rk u) {a b c : Nat} (h1 : Beat u a b) (h2 : Beat u b c) : Beat u a c := by
  have key : ∀ y, (a.testBit y ≠ b.testBit y ∨ b.testBit y ≠ c.testBit y) → ∃ z, (z = y ∨ Abv u z y) ∧ a.testBit z = true ∧ c.testBit z = false := fun y hy => by
    obtain ⟨z, z1, z2, z3⟩ := top_of O (fun y => a.testBit y ≠ b.testBit y ∨ b.testBit y ≠ c.testBit y) _ y (Nat.le_refl _) hy
    refine ⟨z, z2, ?_⟩
    by_cases ab : a.testBit z ≠ b.testBit z
    · obtain ⟨p1, p2⟩ := top_in h1 ab fun x hx q => z3 x hx (Or.inl q)
      by_cases bc : b.testBit z ≠ c.testBit z
      · obtain ⟨q1, _⟩ := top_in h2 bc fun x hx q => z3 x hx (Or.inr q)
        rw [q1] at p2
        cases p2
      · have : b.testBit z = c.testBit z := Classical.not_not.mp bc
        exact ⟨p1, by rw [← this]; exact p2⟩
    · have e : a.testBit z = b.testBit z := Classical.not_not.mp ab
      rcases z1 with z1 | z1
      · exact absurd z1 ab
      · obtain ⟨q1, q2⟩ := top_in h2 z1 fun x hx q => z3 x hx (Or.inr q)
        exact ⟨by rw [e]; exact q1, q2⟩
  refine ⟨fun ac => ?_, fun y hc ha => ?_⟩
  · have : ∃ y, a.testBit y ≠ b.testBit y := Classical.byContradiction fun q => h1.1 (Nat.eq_of_testBit_eq fun i => Classical.byContradiction fun r => q ⟨i, r⟩)
    obtain ⟨y, hy⟩ := this
    obtain ⟨z, _, z1, z2⟩ := key y (Or.inl hy)
    rw [ac, z2] at z1
    cases z1
  · have hy : a.testBit y ≠ b.testBit y ∨ b.testBit y ≠ c.testBit y := by
      rw [ha, hc]
      cases b.testBit y <;> simp
    obtain ⟨z, zy, z1, z2⟩ := key y hy
    rcases zy with zy | zy
    · rw [zy, ha] at z1
      cases z1
    · exact ⟨z, zy, z1, z2⟩
/-! ### the lowers -/
theorem drow_bit {l : Nat} : ∀ (xs d : List Nat) (x y : Nat), x < d.length → (((xs.foldl (fun d x => put d (l, x)) d).getD x 0).testBit y = true ↔ (d.getD x 0).testBit y = true ∨ (x ∈ xs ∧ y = l))
  | [], d, x, y, _ => by simp
  | a :: xs, d, x, y, hx => by
    rw [List.foldl_cons, drow_bit xs (put d (l, a)) x y (by rw [put_len]; exact hx)]
    unfold put
    rw [getD_set2]
    by_cases c : x = a ∧ a < d.length
    · rw [if_pos c, Nat.testBit_or, Nat.testBit_two_pow, Bool.or_eq_true, decide_eq_true_iff, c.1]
      constructor
      · rintro ((h | h) | ⟨h1, h2⟩)
        · exact Or.inl h
        · exact Or.inr ⟨List.mem_cons_self, h.symm⟩
        · exact Or.inr ⟨List.mem_cons_of_mem _ h1, h2⟩
      · rintro (h | ⟨_, h2⟩)
        · exact Or.inl (Or.inl h)
        · exact Or.inl (Or.inr h2.symm)
    · rw [if_neg c]
      have : x ≠ a := fun e => c ⟨e, e ▸ hx⟩
      constructor
      · rintro (h | ⟨h1, h2⟩)
        · exact Or.inl h
        · exact Or.inr ⟨List.mem_cons_of_mem _ h1, h2⟩
      · rintro (h | ⟨h1, h2⟩)
        · exact Or.inl h
        · rcases List.mem_cons.mp h1 with h1 | h1
          · exact absurd h1 this
          · exact Or.inr ⟨h1, h2⟩
theorem downs_bit {n : Nat} {rk : Nat → Nat} {u : List Nat} (O : Ordr n rk u) (hn : n ≤ 64) (hlt : AllLt n u) {x : Nat} (hx : x < n) (y : Nat) : ((downs u).getD x 0).testBit y = true ↔ Abv u x y := by
  have key : ∀ j, j ≤ n → ∀ y, ((((List.range j).foldl (dRow u) (List.replicate u.length 0)).getD x 0).testBit y = true ↔ (y < j ∧ Abv u x y)) := by
    intro j
    induction j with
    | zero =>
      intro _ y
      have e : (List.replicate u.length 0).getD x 0 = 0 := by
        rw [List.getD_eq_getElem?_getD, List.getElem?_replicate]
        split <;> rfl
      show ((List.replicate u.length 0).getD x 0).testBit y = true ↔ _
      rw [e, Nat.zero_testBit]
      constructor
      · intro h
        cases h
      · rintro ⟨h, _⟩
        omega
    | succ j ih =>
      intro hj y
      rw [List.range_succ, List.foldl_append]
      show (((bits (u.getD j 0)).foldl (fun d x => put d (j, x)) ((List.range j).foldl (dRow u) (List.replicate u.length 0))).getD x 0).testBit y = true ↔ _
      rw [drow_bit _ _ _ _ (by rw [foldl_len _ (dRow_len u), List.length_replicate, O.len]; exact hx)]
      have ih := ih (by omega) y
      rw [ih]
      have h64 : u.getD j 0 < 2 ^ 64 := Nat.lt_of_lt_of_le (hlt.getD j) (Nat.pow_le_pow_right (by decide) hn)
      rw [mem_bits h64]
      constructor
      · rintro (⟨h1, h2⟩ | ⟨h1, h2⟩)
        · exact ⟨by omega, h2⟩
        · rw [h2]
          exact ⟨by omega, h1⟩
      · rintro ⟨h1, h2⟩
        by_cases c : y = j
        · rw [c] at h2
          exact Or.inr ⟨h2, c⟩
        · exact Or.inl ⟨by omega, h2⟩
  unfold downs
  have k2 := key n (Nat.le_refl _) y
  rw [← O.len] at k2
  rw [k2]
  rw [O.len]
  constructor
  · exact fun h => h.2
  · exact fun h => ⟨O.len ▸ abv_lt h, h⟩
theorem ps_val {n : Nat} {rk : Nat → Nat} {ps : List (Nat × Nat)} (h : PsOk n rk ps) : ∀ q ∈ ps, q.1 < n ∧ q.2 < n := fun q hq => (h q hq).1
theorem laws_of {n : Nat} {rk : Nat → Nat} {ps : List (Nat × Nat)} (hn : n ≤ 64) (h : PsOk n rk ps) : Laws (ups n ps) (downs (ups n ps)) := by
  have O := ordr h
  have hlt := ups_lt (ps_val h)
  have p64 : 2 ^ n ≤ 2 ^ 64 := Nat.pow_le_pow_right (by decide) hn
  refine ⟨fun cd x hc fr => ?_, fun a b c ha hb hc h1 h2 => ?_⟩
  · rw [O.len] at hc
    obtain ⟨f1, f2, f3⟩ := fr
    rw [downs_len, O.len] at f1
    have db := fun y => downs_bit O hn hlt f1 y
    rw [lawB_iff (by omega)]
    have hxx : (rise (downs (ups n ps)) cd x).testBit x = true := by
      rw [rise_bit f2 f3]
      have : ((downs (ups n ps)).getD x 0).testBit x = false := by
        cases q : ((downs (ups n ps)).getD x 0).testBit x with
        | false => rfl
        | true => exact absurd ((db x).mp q) (irr O.rk x)
      rw [this]
      simp
    refine ⟨fun e => ?_, fun y hy hr => ?_⟩
    · rw [e, f2] at hxx
      cases hxx
    · rw [rise_bit f2 f3, hy] at hr
      have hd : ((downs (ups n ps)).getD x 0).testBit y = true := by simpa using hr
      exact ⟨x, (db y).mp hd, hxx, f2⟩
  · rw [O.len] at ha hb hc
    rw [lawB_iff (by omega)] at h1 h2 ⊢
    exact beat_tr O h1 h2
/-! ### the program's beats -/
theorem tops_bit {u : List Nat} {m : Nat} (hm : m < 2 ^ 64) (y : Nat) : (topsV u m).testBit y = true ↔ (m.testBit y = true ∧ u.getD y 0 &&& m = 0) := by
  have key : ∀ (xs : List Nat) (f : Nat), ((xs.foldl (fun f x => if u.getD x 0 &&& m = 0 then f ||| 2 ^ x else f) f).testBit y = true ↔ f.testBit y = true ∨ (y ∈ xs ∧ u.getD y 0 &&& m = 0)) := by
    intro xs
    induction xs with
    | nil => intro f; simp
    | cons a xs ih =>
      intro f
      rw [List.foldl_cons, ih]
      by_cases c : u.getD a 0 &&& m = 0
      · rw [if_pos c, Nat.testBit_or, Nat.testBit_two_pow, Bool.or_eq_true, decide_eq_true_iff]
        constructor
        · rintro ((h | h) | ⟨h1, h2⟩)
          · exact Or.inl h
          · rw [← h]
            exact Or.inr ⟨List.mem_cons_self, c⟩
          · exact Or.inr ⟨List.mem_cons_of_mem _ h1, h2⟩
        · rintro (h | ⟨h1, h2⟩)
          · exact Or.inl (Or.inl h)
          · rcases List.mem_cons.mp h1 with h1 | h1
            · exact Or.inl (Or.inr h1.symm)
            · exact Or.inr ⟨h1, h2⟩
      · rw [if_neg c]
        constructor
        · rintro (h | ⟨h1, h2⟩)
          · exact Or.inl h
          · exact Or.inr ⟨List.mem_cons_of_mem _ h1, h2⟩
        · rintro (h | ⟨h1, h2⟩)
          · exact Or.inl h
          · rcases List.mem_cons.mp h1 with h1 | h1
            · exact absurd (h1 ▸ h2) c
            · exact Or.inr ⟨h1, h2⟩
  unfold topsV
  rw [key, mem_bits hm]
  simp
theorem xor_bit {a b y : Nat} : (a ^^^ b).testBit y = true ↔ a.testBit y ≠ b.testBit y := by
  rw [Nat.testBit_xor]
  cases a.testBit y <;> cases b.testBit y <;> simp
theorem beatsV_iff {n : Nat} {rk : Nat → Nat} {u : List Nat} (O : Ordr n rk u) {c e : Nat} (hc : c < 2 ^ 64) (he : e < 2 ^ 64) : beatsV u c e = true ↔ Beat u c e := by
  have hx : c ^^^ e < 2 ^ 64 := Nat.xor_lt_two_pow hc he
  unfold beatsV
  rw [Bool.and_eq_true, bne_iff_ne, beq_iff_eq]
  have mx : ∀ z, (u.getD z 0 &&& (c ^^^ e) = 0) ↔ ∀ x, Abv u x z → ¬ c.testBit x ≠ e.testBit x := fun z => by
    constructor
    · intro h x h1 h2
      exact absurd h (and_ne.mpr ⟨x, h1, xor_bit.mpr h2⟩)
    · intro h
      refine Classical.byContradiction fun q => ?_
      obtain ⟨x, x1, x2⟩ := and_ne.mp q
      exact h x x1 (xor_bit.mp x2)
  constructor
  · rintro ⟨h1, h2⟩
    refine ⟨h1, fun y hy hcy => ?_⟩
    obtain ⟨z, z1, z2, z3⟩ := top_of O (fun y => c.testBit y ≠ e.testBit y) _ y (Nat.le_refl _) (by rw [hy, hcy]; exact Bool.noConfusion)
    have hz : (topsV u (c ^^^ e)).testBit z = true := (tops_bit hx z).mpr ⟨xor_bit.mpr z1, (mx z).mpr z3⟩
    have ez : e.testBit z = false := by
      cases q : e.testBit z with
      | false => rfl
      | true => exact absurd h2 (and_ne.mpr ⟨z, hz, q⟩)
    have cz : c.testBit z = true := by
      rw [ez] at z1
      simpa using z1
    rcases z2 with z2 | z2
    · rw [z2, hy] at ez
      cases ez
    · exact ⟨z, z2, cz, ez⟩
  · intro h
    refine ⟨h.1, Classical.byContradiction fun q => ?_⟩
    obtain ⟨z, z1, z2⟩ := and_ne.mp q
    obtain ⟨t1, t2⟩ := (tops_bit hx z).mp z1
    have := (top_in h (xor_bit.mp t1) ((mx z).mp t2)).2
    rw [z2] at this
    cases this
theorem beats_eq {n : Nat} {rk : Nat → Nat} {u : List Nat} (O : Ordr n rk u) {c e : Nat} (hc : c < 2 ^ 64) (he : e < 2 ^ 64) : beatsV u c e = lawB u c e := by
  rw [Bool.eq_iff_iff, beatsV_iff O hc he, lawB_iff he]
theorem mid_eq {n : Nat} {rk : Nat → Nat} {u : List Nat} (O : Ordr n rk u) (hn : n ≤ 64) {e c : Nat} (he : e < 2 ^ n) (hc : c < 2 ^ n) : (List.range (2 ^ n)).filter (betwV u e c) = lawMid u e c := by
  have p64 : 2 ^ n ≤ 2 ^ 64 := Nat.pow_le_pow_right (by decide) hn
  unfold lawMid
  rw [List.filter_filter, O.len]
  refine List.filter_congr fun x hx => ?_
  have hx := List.mem_range.mp hx
  unfold betwV
  rw [beats_eq O (by omega) (by omega), beats_eq O (by omega) (by omega), Bool.and_comm]
theorem way_in {u ds : List Nat} (L : Laws u ds) {e c r : Nat} (he : e < 2 ^ u.length) (hc : c < 2 ^ u.length) (hr : r < 2 ^ u.length) (w : WayOk u e c r) : r ∈ lawMid u e c ↔ (e = c ∨ lawB u c e = true) := by
  unfold lawMid
  rw [List.mem_filter, List.mem_filter, List.mem_range]
  simp only [Bool.or_eq_true, beq_iff_eq]
  constructor
  · rintro ⟨⟨_, h1⟩, h2⟩
    rcases h1 with h1 | h1
    · subst h1
      exact h2
    · rcases h2 with h2 | h2
      · subst h2
        exact Or.inr h1
      · exact Or.inr (L.trans c r e hc hr he h2 h1)
  · intro h
    rcases w with w | ⟨w1, w2⟩
    · subst w
      exact ⟨⟨hr, Or.inl rfl⟩, h⟩
    · exact ⟨⟨hr, Or.inr w1⟩, w2⟩
end Q

set_option Elab.async false
set_option linter.all false
set_option maxRecDepth 100000
set_option maxHeartbeats 2000000
set_option exponentiation.threshold 20000
namespace Q
open PySem PySem.Spec PyProof.Rows L2 Hx Er Kt Mb Mu
section
variable {w : World} {K : PySem.W.Frag} {mg : Str → Option Value} {base : Heap}
theorem sc_law_two_codes : FnScope ["store", "downs", "n", "e", "c", "free", "pairs"] ["store", "downs"] (defScope s_law_two_codes) := ⟨rfl, rfl, rfl, by decide +kernel, rfl, by decide +kernel, by decide +kernel⟩
def spTwo : Sp := fun vs H Q _ => ∃ (t : Sto) (d : Addr) (ds : List Nat), vs = [.ref t.s, .ref d] ∧ StA t H ∧ H d = some (.lst (ds.map nV)) ∧ ds.length ≤ 64 ∧ ∀ H' p (a b : Nat), H p = none → Wl t H H' → H' p = some (.tup [nV a, nV b]) → a < 2 ^ ds.length → b < 2 ^ ds.length → Q (.ref p) H'
theorem two_ok (T : Txt K mg) : OkF pw w K mg base "_law_two_codes" 5 ["store", "downs"] spTwo := by
  have G_law_take := take_ok (w := w) (base := base) T
  have G_law_sublot := sublot_ok (w := w) (base := base) T
  have G_law_risen := risen_ok (w := w) (base := base) T
  refine mkOk (k := 4) T.F__law_two_codes T.g__law_two_codes (fun _ _ _ _ _ _ _ us hl => match us, hl with | [_, _], _ => rfl) sc_law_two_codes (fun vs H Q E h => ?_) (fun f cdv A outer s H vs Q E hr h => ?_)
  · obtain ⟨t, d, ds, rfl, _⟩ := h
    rfl
  · obtain ⟨t, d, ds, rfl, hst, hd, hz, k⟩ := h
    have p0 := Nat.two_pow_pos ds.length
    refine ⟨_, (pss_cons (ps_set (i := 2) sc_law_two_codes.nd rfl (Or.inl rfl) (pe_callB call_len_seq (by rfl) T.z_len PySem.boot_len (pa_cons (pv 1) pa_nil)))
      (pss_cons (ps_set (i := 3) sc_law_two_codes.nd rfl (Or.inl rfl) (cl G_law_sublot hr (pa_cons (pv 0) (pa_cons (pv 2) pa_nil))))
      (pss_cons (ps_set (i := 4) sc_law_two_codes.nd rfl (Or.inl rfl) (cl G_law_risen hr (pa_cons (pv 0) (pa_cons (pv 1) (pa_cons (pv 3) (pa_cons (cl G_law_take hr (pa_cons (pv 0) (pa_cons pe_int pa_nil))) pa_nil))))))
      (pss_cons (ps_set (i := 5) sc_law_two_codes.nd rfl (Or.inl rfl) (cl G_law_sublot hr (pa_cons (pv 0) (pa_cons (pv 2) pa_nil))))
      (pss_cons (ps_set (i := 6) sc_law_two_codes.nd rfl (Or.inl rfl) (pe_lst (pa_cons (pe_tup (pa_cons (pv 3) (pa_cons (pv 4) pa_nil))) (pa_cons (pe_tup (pa_cons (pv 3) (pa_cons (pv 4) pa_nil))) (pa_cons (pe_tup (pa_cons (pv 3) (pa_cons (pv 4) pa_nil))) (pa_cons (pe_tup (pa_cons (pv 4) (pa_cons (pv 3) pa_nil))) (pa_cons (pe_tup (pa_cons (pv 3) (pa_cons (pv 3) pa_nil))) (pa_cons (pe_tup (pa_cons (pv 3) (pa_cons (pv 5) pa_nil))) (pa_cons (pe_tup (pa_cons pe_int (pa_cons (pe_op op_sub (pe_op op_shl1 pe_int (pv 2)) pe_int) pa_nil))) pa_nil)))))))))
      (pss_one (ps_ret (pe_ix ix_list (pv 6) (cl G_law_take hr (pa_cons (pv 0) (pa_cons (pe_callB call_len_seq (by rfl) T.z_len PySem.boot_len (pa_cons (pv 6) pa_nil)) pa_nil))) (fun _ _ => rfl))))))))), ?_⟩
    refine ⟨_, rfl, d, _, rfl, Or.inl (SqL.of hd), ?_⟩
    rw [List.length_map]
    refine ⟨_, rfl, _, rfl, t, ds.length, rfl, hst, hz, fun H1 e w1 he => ?_⟩
    refine ⟨_, rfl, _, rfl, _, rfl, _, rfl, t, 15, rfl, w1.2, small8 (by decide), fun H2 st w2 hs => ⟨t, d, ds, e, st, rfl, w2.2, (w1.trans w2).keep hst (notSto_nats ds) hd, hz, he, by omega, fun H3 c w3 hc => ?_⟩⟩
    refine ⟨_, rfl, _, rfl, t, ds.length, rfl, w3.2, hz, fun H4 f w4 hf => ?_⟩
    have wl4 := (w1.trans w2).trans (w3.trans w4)
    have e1 : ((2 ^ ds.length : Nat) : Int) - 1 = ((2 ^ ds.length - 1 : Nat) : Int) := by omega
    have two : ∀ x y : V, [x, y].length ≤ sizeLine := fun _ _ => by show 2 ≤ _; rw [sizeLine_eq]; decide
    refine ⟨_, rfl, _, rfl, two _ _, fun p1 h1 => ?_⟩
    refine ⟨_, rfl, _, rfl, two _ _, fun p2 h2 => ?_⟩
    refine ⟨_, rfl, _, rfl, two _ _, fun p3 h3 => ?_⟩
    refine ⟨_, rfl, _, rfl, two _ _, fun p4 h4 => ?_⟩
    refine ⟨_, rfl, _, rfl, two _ _, fun p5 h5 => ?_⟩
    refine ⟨_, rfl, _, rfl, two _ _, fun p6 h6 => ?_⟩
    refine ⟨_, rfl, ds.length, rfl, rfl, by omega, _, _, rfl, rfl, two _ _, fun p7 h7 => ?_⟩
    have n1 := Nx.mk0 (o := .tup [nV e, nV c]) wl4.2 h1
    have n2 := Nx.mk0 (o := .tup [nV e, nV c]) n1.wl.2 h2
    have n3 := Nx.mk0 (o := .tup [nV e, nV c]) n2.wl.2 h3
    have n4 := Nx.mk0 (o := .tup [nV c, nV e]) n3.wl.2 h4
    have n5 := Nx.mk0 (o := .tup [nV e, nV e]) n4.wl.2 h5
    have n6 := Nx.mk0 (o := .tup [nV e, nV f]) n5.wl.2 h6
    have n7 := Nx.mk0 (o := .tup [V.int 0, V.int (((2 ^ ds.length : Nat) : Int) - 1)]) n6.wl.2 h7
    refine ⟨by show 7 ≤ _; rw [sizeLine_eq]; decide, fun q hq => ?_⟩
    have n8 := Nx.mk0 (o := .lst [V.ref p1, V.ref p2, V.ref p3, V.ref p4, V.ref p5, V.ref p6, V.ref p7]) n7.wl.2 hq
    refine ⟨_, rfl, _, rfl, _, rfl, q, _, rfl, Or.inl (SqL.of upd_same), t, 7, rfl, n8.wl.2, small8 (by decide), fun H5 r w5 hr7 => ?_⟩
    have b1 := n1.back wl4
    have b2 := n2.back b1.wl
    have b3 := n3.back b2.wl
    have b4 := n4.back b3.wl
    have b5 := n5.back b4.wl
    have b6 := n6.back b5.wl
    have b7 := n7.back b6.wl
    have b8 := n8.back b7.wl
    have t8 := n8.wl.trans w5
    have t7 := n7.wl.trans t8
    have t6 := n6.wl.trans t7
    have t5 := n5.wl.trans t6
    have t4 := n4.wl.trans t5
    have t3 := n3.wl.trans t4
    have t2 := n2.wl.trans t3
    have hv : ∃ (p : Addr) (a b : Nat), H p = none ∧ H5 p = some (.tup [nV a, nV b]) ∧ a < 2 ^ ds.length ∧ b < 2 ^ ds.length ∧ ([V.ref p1, V.ref p2, V.ref p3, V.ref p4, V.ref p5, V.ref p6, V.ref p7] : List V)[r]? = some (.ref p) := by
      match r, hr7 with
      | 0, _ => exact ⟨p1, e, c, b1.no, t2.tup n1.wl.2 _ _ n1.at_, he, hc, rfl⟩
      | 1, _ => exact ⟨p2, e, c, b2.no, t3.tup n2.wl.2 _ _ n2.at_, he, hc, rfl⟩
      | 2, _ => exact ⟨p3, e, c, b3.no, t4.tup n3.wl.2 _ _ n3.at_, he, hc, rfl⟩
      | 3, _ => exact ⟨p4, c, e, b4.no, t5.tup n4.wl.2 _ _ n4.at_, hc, he, rfl⟩
      | 4, _ => exact ⟨p5, e, e, b5.no, t6.tup n5.wl.2 _ _ n5.at_, he, he, rfl⟩
      | 5, _ => exact ⟨p6, e, f, b6.no, t7.tup n6.wl.2 _ _ n6.at_, he, hf, rfl⟩
      | 6, _ => exact ⟨p7, 0, 2 ^ ds.length - 1, b7.no, by rw [t8.tup n7.wl.2 _ _ n7.at_, e1]; rfl, p0, by omega, rfl⟩
    obtain ⟨p, a, b, hp, hp5, ha, hb, hget⟩ := hv
    have q5 : H5 q = some (.lst [V.ref p1, V.ref p2, V.ref p3, V.ref p4, V.ref p5, V.ref p6, V.ref p7]) := w5.keep n8.wl.2 rfl n8.at_
    exact rdV q5 hget (k H5 p a b hp (b8.wl.trans w5) hp5 ha hb)
end
end Q

set_option Elab.async false
set_option linter.all false
set_option maxRecDepth 100000
set_option maxHeartbeats 2000000
set_option exponentiation.threshold 20000
namespace Q
open PySem PySem.Spec PyProof.Rows L2 Hx Er Kt Mb Mu
structure Ask where
  e : Nat
  c : Nat
  lots : List Nat
  way : Nat
structure Wd where
  n : Nat
  ps : List (Nat × Nat)
  asks : List Ask
  wrong : List Int
def AskOk (us : List Nat) (n : Nat) (a : Ask) : Prop := a.e < 2 ^ n ∧ a.c < 2 ^ n ∧ (∀ x ∈ a.lots, x < 2 ^ n) ∧ a.way < 2 ^ n ∧ WayOk us a.e a.c a.way
def AskAt (F : Addr → Prop) (H : Hp) (b : Addr) (a : Ask) : Prop := ∃ l, F l ∧ H b = some (.tup [nV a.e, nV a.c, .ref l, nV a.way]) ∧ H l = some (.lst (a.lots.map nV))
def WdOk (W : Wd) : Prop := W.n ≤ 24 ∧ W.ps.length ≤ 300 ∧ (∃ rk, PsOk W.n rk W.ps) ∧ (∀ a ∈ W.asks, AskOk (ups W.n W.ps) W.n a ∧ a.lots.length = 3) ∧ W.asks.length = 3 ∧ W.wrong.length = 2 ∧ ∀ z ∈ W.wrong, ¬inR W.n z ∧ smallI z
/-- a world at p, its lists at addresses of a kind -/
def WdAt (F : Addr → Prop) (H : Hp) (p : Addr) (W : Wd) : Prop := ∃ a b c, (F a ∧ F b ∧ F c) ∧ H p = some (.tup [nV W.n, .ref a, .ref b, .ref c]) ∧ LPairs H a W.ps ∧ (∃ bs : List Addr, H b = some (.lst (bs.map V.ref)) ∧ Al2 (AskAt F H) bs W.asks) ∧ H c = some (.lst (W.wrong.map V.int))
theorem AskAt.same {F : Addr → Prop} {H H' : Hp} {b : Addr} {a : Ask} (h : AskAt F H b a) (s : Same H H') : AskAt F H' b a := by
  obtain ⟨l, h0, h1, h2⟩ := h
  exact ⟨l, h0, s _ _ h1, s _ _ h2⟩
theorem AskAt.wl {F : Addr → Prop} {t : Sto} {H H' : Hp} {b : Addr} {a : Ask} (st : StA t H) (w : Wl t H H') (h : AskAt F H b a) : AskAt F H' b a := by
  obtain ⟨l, h0, h1, h2⟩ := h
  exact ⟨l, h0, w.tup st _ _ h1, w.keep st (notSto_nats _) h2⟩
theorem AskAt.imp {F F' : Addr → Prop} {H : Hp} {b : Addr} {a : Ask} (h : AskAt F H b a) (i : ∀ x, F x → F' x) : AskAt F' H b a := by
  obtain ⟨l, h0, h1, h2⟩ := h
  exact ⟨l, i l h0, h1, h2⟩
theorem AskAt.upd {F : Addr → Prop} {H : Hp} {b lA : Addr} {a : Ask} {xs : List V} {o : HO} (e : H lA = some (.lst xs)) (hn : ¬F lA) (h : AskAt F H b a) : AskAt F (upd H lA o) b a := by
  obtain ⟨l, h0, h1, h2⟩ := h
  refine ⟨l, h0, upd_tup e _ _ h1, ?_⟩
  rw [upd_ne (fun c => hn (by rw [← c]; exact h0))]
  exact h2
theorem WdAt.same {F : Addr → Prop} {H H' : Hp} {p : Addr} {W : Wd} (h : WdAt F H p W) (s : Same H H') : WdAt F H' p W := by
  obtain ⟨a, b, c, h0, h1, h2, ⟨bs, h3, h4⟩, h5⟩ := h
  exact ⟨a, b, c, h0, s _ _ h1, h2.same s, ⟨bs, s _ _ h3, h4.mono fun _ _ h => h.same s⟩, s _ _ h5⟩
theorem WdAt.imp {F F' : Addr → Prop} {H : Hp} {p : Addr} {W : Wd} (h : WdAt F H p W) (i : ∀ x, F x → F' x) : WdAt F' H p W := by
  obtain ⟨a, b, c, h0, h1, h2, ⟨bs, h3, h4⟩, h5⟩ := h
  exact ⟨a, b, c, ⟨i _ h0.1, i _ h0.2.1, i _ h0.2.2⟩, h1, h2, ⟨bs, h3, h4.mono fun _ _ h => h.imp i⟩, h5⟩
theorem WdAt.upd {F : Addr → Prop} {H : Hp} {p lA : Addr} {W : Wd} {xs : List V} {o : HO} (e : H lA = some (.lst xs)) (hn : ¬F lA) (h : WdAt F H p W) : WdAt F (upd H lA o) p W := by
  obtain ⟨a, b, c, h0, h1, ⟨as, h2, h2'⟩, ⟨bs, h3, h4⟩, h5⟩ := h
  refine ⟨a, b, c, h0, upd_tup e _ _ h1, ⟨as, ?_, h2'.mono (upd_tup e)⟩, ⟨bs, ?_, h4.mono fun _ _ h => h.upd e hn⟩, ?_⟩
  · rw [upd_ne (fun z => hn (by rw [← z]; exact h0.1))]
    exact h2
  · rw [upd_ne (fun z => hn (by rw [← z]; exact h0.2.1))]
    exact h3
  · rw [upd_ne (fun z => hn (by rw [← z]; exact h0.2.2))]
    exact h5
theorem LPairs.wl {t : Sto} {H H' : Hp} {a : Addr} {ps : List (Nat × Nat)} (st : StA t H) (w : Wl t H H') (h : LPairs H a ps) : LPairs H' a ps := by
  obtain ⟨as, h1, h2⟩ := h
  exact ⟨as, w.keep st (notSto_refs as) h1, h2.mono (w.tup st)⟩
theorem WdAt.wl {F : Addr → Prop} {t : Sto} {H H' : Hp} {p : Addr} {W : Wd} (st : StA t H) (w : Wl t H H') (h : WdAt F H p W) : WdAt F H' p W := by
  obtain ⟨a, b, c, h0, h1, h2, ⟨bs, h3, h4⟩, h5⟩ := h
  exact ⟨a, b, c, h0, w.tup st _ _ h1, LPairs.wl st w h2, ⟨bs, w.keep st (notSto_refs bs) h3, h4.mono fun _ _ h => h.wl st w⟩, w.keep st (notSto_ints _) h5⟩
section
variable {w : World} {K : PySem.W.Frag} {mg : Str → Option Value} {base : Heap}
theorem sc_law_one_world : FnScope ["store", "n", "pairs", "ups", "downs", "asked", "k", "e", "c", "lots", "m"] ["store"] (defScope s_law_one_world) := ⟨rfl, rfl, rfl, by decide +kernel, rfl, by decide +kernel, by decide +kernel⟩
def spOne : Sp := fun vs H Q _ => ∃ (t : Sto), vs = [.ref t.s] ∧ StA t H ∧ ∀ H' p (W : Wd), H p = none → Wl t H H' → WdAt (fun x => H x = none) H' p W → WdOk W → Q (.ref p) H'
theorem one_ok (T : Txt K mg) : OkF pw w K mg base "_law_one_world" 6 ["store"] spOne := by
  have G_law_take := take_ok (w := w) (base := base) T
  have G_law_strewn := strewn_ok (w := w) (base := base) T
  have G_law_ups := law_ups_ok (w := w) (base := base) T
  have G_law_downs := law_downs_ok (w := w) (base := base) T
  have G_law_two_codes := two_ok (w := w) (base := base) T
  have G_law_sublot := sublot_ok (w := w) (base := base) T
  have G_law_on_the_way := way_ok (w := w) (base := base) T
  have G_law_beyond := beyond_ok (w := w) (base := base) T
  refine mkOk (k := 5) T.F__law_one_world T.g__law_one_world (fun _ _ _ _ _ _ _ us hl => match us, hl with | [_], _ => rfl) sc_law_one_world (fun vs H Q E h => ?_) (fun f cdv A outer s H vs Q E hr h => ?_)
  · obtain ⟨t, rfl, _⟩ := h
    rfl
  · obtain ⟨t, rfl, hst, k⟩ := h
    refine ⟨_, (pss_cons (ps_set (i := 1) sc_law_one_world.nd rfl (Or.inr rfl) (cl G_law_take hr (pa_cons (pv 0) (pa_cons (pe_ix ix_list (pe_lst (pa_cons pe_int (pa_cons pe_int (pa_cons pe_int (pa_cons pe_int (pa_cons pe_int (pa_cons pe_int (pa_cons pe_int (pa_cons pe_int (pa_cons pe_int (pa_cons pe_int pa_nil))))))))))) (cl G_law_take hr (pa_cons (pv 0) (pa_cons pe_int pa_nil))) (fun _ _ => rfl)) pa_nil))))
      (pss_cons (ps_set (i := 2) sc_law_one_world.nd rfl (Or.inl rfl) (cl G_law_strewn hr (pa_cons (pv 0) (pa_cons (pv 1) pa_nil))))
      (pss_cons (ps_set (i := 3) sc_law_one_world.nd rfl (Or.inl rfl) (cl G_law_ups hr (pa_cons (pv 1) (pa_cons (pv 2) pa_nil))))
      (pss_cons (ps_set (i := 4) sc_law_one_world.nd rfl (Or.inl rfl) (cl G_law_downs hr (pa_cons (pv 3) pa_nil)))
      (pss_cons (ps_set (i := 5) sc_law_one_world.nd rfl (Or.inl rfl) (pe_lst pa_nil))
      (pss_cons (ps_for passW rfl (pi_range1 (by rfl) T.z_range (pa_cons pe_int pa_nil)) (pg_name (i := 6) sc_law_one_world.nd rfl (Or.inl rfl))
      (pss_cons (ps_asg (cl G_law_two_codes hr (pa_cons (pv 0) (pa_cons (pv 4) pa_nil))) (pg_tup rfl (pgs_cons (pg_name (i := 7) sc_law_one_world.nd rfl (Or.inl rfl)) (pgs_cons (pg_name (i := 8) sc_law_one_world.nd rfl (Or.inl rfl)) pgs_nil))))
      (pss_cons (ps_setLc (i := 9) (own := [("m", 10)]) rfl sc_law_one_world.nd rfl rfl (sw_true rfl rfl rfl (by decide +kernel)) (pi_range1 (by rfl) T.z_range (pa_cons pe_int pa_nil)) (blkOk_by (N := ["store", "n", "pairs", "ups", "downs", "asked", "k", "e", "c", "lots", "m"]) (sc := defScope s_law_one_world) (by decide +kernel)) (fun _ _ _ _ _ => (pg_name (i := 10) sc_law_one_world.nd rfl (Or.inl rfl))) (fun _ _ _ _ _ => pts_nil) (fun _ _ _ _ _ => (cl G_law_sublot hr (pa_cons (pv 0) (pa_cons (pv 1) pa_nil)))))
      (pss_one (ps_expr (pe_bm PySem.F.plainAttrs_list PySem.F.slot_list_append PySem.F.type_list_append mt_append (pv 5) (pa_cons (pe_tup (pa_cons (pv 7) (pa_cons (pv 8) (pa_cons (pv 9) (pa_cons (cl G_law_on_the_way hr (pa_cons (pv 0) (pa_cons (pv 3) (pa_cons (pv 4) (pa_cons (pv 7) (pa_cons (pv 8) pa_nil)))))) pa_nil))))) pa_nil)))))))
      (pss_one (ps_ret (pe_tup (pa_cons (pv 1) (pa_cons (pv 2) (pa_cons (pv 5) (pa_cons (pe_lc (own := [("k", 6)]) rfl sc_law_one_world.nd (pi_range1 (by rfl) T.z_range (pa_cons pe_int pa_nil)) (blkOk_by (N := ["store", "n", "pairs", "ups", "downs", "asked", "k", "e", "c", "lots", "m"]) (sc := defScope s_law_one_world) (by decide +kernel)) (fun _ _ _ _ _ => (pg_name (i := 6) sc_law_one_world.nd rfl (Or.inl rfl))) (fun _ _ _ _ _ => pts_nil) (fun _ _ _ _ _ => (cl G_law_beyond hr (pa_cons (pv 0) (pa_cons (pe_op op_sub (pe_op op_shl1 pe_int (pv 1)) pe_int) pa_nil))))) pa_nil))))))))))))), ?_⟩
    -- n
    refine ⟨_, rfl, by show 10 ≤ _; rw [sizeLine_eq]; decide, fun q hq => ?_⟩
    have nq := Nx.mk0 (o := .lst [V.int 6, V.int 6, V.int 6, V.int 6, V.int 6, V.int 6, V.int 6, V.int 10, V.int 10, V.int 25]) hst hq
    refine ⟨_, rfl, t, 10, rfl, nq.wl.2, small8 (by decide), fun H1 r w1 hr10 => ?_⟩
    have nq1 := nq.more hst w1
    have hv : ∃ v : Nat, 0 < v ∧ v ≤ 25 ∧ ([V.int 6, V.int 6, V.int 6, V.int 6, V.int 6, V.int 6, V.int 6, V.int 10, V.int 10, V.int 25] : List V)[r]? = some (nV v) := by
      match r, hr10 with
      | 0, _ => exact ⟨6, by decide, by decide, rfl⟩
      | 1, _ => exact ⟨6, by decide, by decide, rfl⟩
      | 2, _ => exact ⟨6, by decide, by decide, rfl⟩
      | 3, _ => exact ⟨6, by decide, by decide, rfl⟩
      | 4, _ => exact ⟨6, by decide, by decide, rfl⟩
      | 5, _ => exact ⟨6, by decide, by decide, rfl⟩
      | 6, _ => exact ⟨6, by decide, by decide, rfl⟩
      | 7, _ => exact ⟨10, by decide, by decide, rfl⟩
      | 8, _ => exact ⟨10, by decide, by decide, rfl⟩
      | 9, _ => exact ⟨25, by decide, by decide, rfl⟩
    obtain ⟨v, v0, v25, hv⟩ := hv
    refine rdV nq1.at_ hv ⟨t, v, rfl, nq1.wl.2, small8 (Nat.le_trans v25 (by decide)), fun H2 n w2 hn2 => ?_⟩
    have hn : n ≤ 24 := by omega
    have wl2 := nq1.wl.trans w2
    -- pairs
    refine ⟨_, rfl, _, rfl, t, n, rfl, wl2.2, hn, fun H3 p ps rk hp w3 hps hpl hok => ?_⟩
    have wl3 := wl2.trans w3
    have hval : ∀ q ∈ ps, q.1 < n ∧ q.2 < n := fun q h => (hok q h).1
    refine ⟨_, rfl, _, rfl, n, p, ps, rfl, by omega, hps, hval, fun H4 u nu => ?_⟩
    have ul := ups_len n ps
    have ua := ups_lt hval
    refine ⟨_, rfl, u, ups n ps, rfl, nu.at_, by omega, by rw [ul]; exact ua, fun H5 d nd => ?_⟩
    have dl := downs_len (ups n ps)
    have wl5 := (wl3.trans (Wl.of wl3.2 nu.same)).trans (Wl.of (wl3.2.same nu.same) nd.same)
    have u5 := nd.same _ _ nu.at_
    have d5 := nd.at_
    have p5 := (hps.same nu.same).same nd.same
    have LW := laws_of (by omega) hok
    generalize hus : ups n ps = us at *
    generalize hds : downs us = ds at *
    rw [ul] at dl
    -- asked
    refine ⟨Nat.zero_le _, fun lA hA => ?_⟩
    have st5 := wl5.2
    refine ⟨3, rfl, by decide, by decide, ?_⟩
    refine forN (n := 3) (fun i σ G => ∃ (bs : List Addr) (asks : List Ask) (y6 y7 y8 y9 : Option V), σ = [some (.ref t.s), some (nV n), some (.ref p), some (.ref u), some (.ref d), some (.ref lA), y6, y7, y8, y9, none] ∧ Nx t H5 G lA (.lst (bs.map V.ref)) ∧ Al2 (AskAt (fun x => H x = none ∧ x ≠ lA) G) bs asks ∧ bs.length = i ∧ ∀ a ∈ asks, AskOk us n a ∧ a.lots.length = 3)
      ⟨[], [], _, _, _, _, rfl, Nx.mk0 st5 hA, .nil, rfl, fun _ h => nomatch h⟩ ?_ ?_
    · rintro i σ G hi ⟨bs, asks, y6, y7, y8, y9, rfl, nx, hal, hbl, hao⟩
      have dG : G d = some (.lst (ds.map nV)) := nx.wl.keep st5 (notSto_nats ds) d5
      refine ⟨_, rfl, _, rfl, t, d, ds, rfl, nx.wl.2, dG, by omega, fun G1 q e c hq wq htp he hc => ⟨q, _, rfl, SqT.of htp, rfl, _, _, rfl, _, _, rfl, rfl, ?_⟩⟩
      rw [dl] at he hc
      have nx1 := nx.more st5 wq
      have hal1 := hal.mono fun _ _ h => AskAt.wl nx.wl.2 wq h
      -- lots
      refine ⟨3, rfl, by decide, by decide, fun l hl => ?_⟩
      refine lcN (n := 3) (fun j G2 => ∃ xs : List Nat, Nx t G1 G2 l (.lst (xs.map nV)) ∧ xs.length = j ∧ ∀ x ∈ xs, x < 2 ^ n) ⟨[], Nx.mk0 nx1.wl.2 hl, rfl, fun _ h => nomatch h⟩ (fun j G2 hj z => ?_) (fun G2 z => ?_)
      · obtain ⟨xs, nw, hx, hf⟩ := z
        refine ⟨rfl, _, rfl, _, rfl, t, n, rfl, nw.wl.2, by omega, fun G3 r w3 hr3 => ?_⟩
        have nw3 := nw.more nx1.wl.2 w3
        refine ⟨_, nw3.at_, by rw [List.length_map, sizeLine_eq]; omega, xs ++ [r], ?_, by rw [List.length_append, hx]; rfl, ?_⟩
        · exact mapp xs r ▸ nw3.put nx1.wl.2
        · intro x h
          rcases List.mem_append.mp h with h | h
          · exact hf x h
          · rw [List.mem_singleton.mp h]
            exact hr3
      · obtain ⟨xs, nw, hx, hf⟩ := z
        have nx2 := nx1.more st5 nw.wl
        have hal2 := hal1.mono fun _ _ h => AskAt.wl nx1.wl.2 nw.wl h
        have dG2 : G2 d = some (.lst (ds.map nV)) := nx2.wl.keep st5 (notSto_nats ds) d5
        have uG2 : G2 u = some (.lst (us.map nV)) := nx2.wl.keep st5 (notSto_nats us) u5
        refine ⟨.ref lA, rfl, Or.inl ⟨rfl, _, SqL.of nx2.at_⟩, _, rfl, _, rfl, _, rfl, _, rfl, _, rfl, _, rfl, _, rfl, _, rfl, t, u, d, us, ds, e, c, rfl, nx2.wl.2, uG2, dG2, by omega, by omega, LW, by rw [dl]; exact he, by rw [dl]; exact hc, fun G3 way w3 hw1 hw2 => ⟨by show 4 ≤ _; rw [sizeLine_eq]; decide, fun z hz => ?_⟩⟩
        rw [dl] at hw1
        have nx3 := nx2.more st5 w3
        have hal3 := hal2.mono fun _ _ h => AskAt.wl nx2.wl.2 w3 h
        have l3 : G3 l = some (.lst (xs.map nV)) := w3.keep nx2.wl.2 (notSto_nats xs) nw.at_
        have nz := Nx.mk0 (o := .tup [nV e, nV c, .ref l, nV way]) nx3.wl.2 hz
        have nx4 := nx3.more st5 nz.wl
        have hal4 := hal3.mono fun _ _ h => AskAt.wl nx3.wl.2 nz.wl h
        refine ⟨lA, _, _, rfl, rfl, nx4.at_, by rw [List.length_map, sizeLine_eq]; omega, ?_⟩
        refine ⟨bs ++ [z], asks ++ [⟨e, c, xs, way⟩], _, _, _, _, rfl, ?_, ?_, by rw [List.length_append, hbl]; rfl, ?_⟩
        · rw [List.map_append]
          exact nx4.put st5
        · exact (hal4.mono fun _ _ h => h.upd nx4.at_ (fun z => z.2 rfl)).snoc (AskAt.upd nx4.at_ (fun z => z.2 rfl) ⟨l, ⟨((wl5.trans nx.wl).trans wq).free nw.no, fun z => by have := nw.no; rw [z, nx1.at_] at this; cases this⟩, upd_same, nz.wl.keep nx3.wl.2 (notSto_nats xs) l3⟩)
        · intro a h
          rcases List.mem_append.mp h with h | h
          · exact hao a h
          · rw [List.mem_singleton.mp h]
            exact ⟨⟨he, hc, hf, hw1, hw2⟩, hx⟩
    · rintro σ G ⟨bs, asks, y6, y7, y8, y9, rfl, nx, hal, hbl, hao⟩
      refine ⟨_, rfl, _, rfl, _, rfl, 2, rfl, by decide, by decide, fun l hl => ?_⟩
      have e1 : ((2 ^ n : Nat) : Int) - 1 = ((2 ^ n - 1 : Nat) : Int) := by
        have := Nat.two_pow_pos n
        omega
      refine lcN (n := 2) (fun j G2 => ∃ xs : List Int, Nx t G G2 l (.lst (xs.map V.int)) ∧ xs.length = j ∧ ∀ x ∈ xs, ¬inR n x ∧ smallI x) ⟨[], Nx.mk0 nx.wl.2 hl, rfl, fun _ h => nomatch h⟩ (fun j G2 hj z => ?_) (fun G2 z => ?_)
      · obtain ⟨xs, nw, hx, hf⟩ := z
        have small : 2 ^ n - 1 < 2 ^ 64 := by
          have : 2 ^ n ≤ 2 ^ 64 := Nat.pow_le_pow_right (by decide) (by omega)
          omega
        refine ⟨rfl, _, rfl, _, rfl, n, rfl, rfl, by omega, _, _, rfl, rfl, t, 2 ^ n - 1, ?_, nw.wl.2, small, fun G3 z w3 hz1 hz2 => ?_⟩
        · show [V.ref t.s, V.int (((2 ^ n : Nat) : Int) - 1)] = _
          rw [e1]
        have nw3 := nw.more nx.wl.2 w3
        refine ⟨_, nw3.at_, by rw [List.length_map, sizeLine_eq]; omega, xs ++ [z], ?_, by rw [List.length_append, hx]; rfl, ?_⟩
        · rw [List.map_append]
          exact nw3.put nx.wl.2
        · intro x h
          rcases List.mem_append.mp h with h | h
          · exact hf x h
          · rw [List.mem_singleton.mp h]
            exact ⟨fun q => by obtain ⟨q1, q2⟩ := q; omega, smallN hz2 (by decide) (by decide)⟩
      · obtain ⟨xs, nw, hx, hf⟩ := z
        refine ⟨by show 4 ≤ _; rw [sizeLine_eq]; decide, fun z hz => ?_⟩
        have nz := Nx.mk0 (o := .tup [nV n, .ref p, .ref lA, .ref l]) nw.wl.2 hz
        have wlz := nx.wl.trans (nw.wl.trans nz.wl)
        have wgz := nw.wl.trans nz.wl
        refine k _ z ⟨n, ps, asks, xs⟩ ((wl5.trans (nx.wl.trans nw.wl)).free hz) (wl5.trans wlz) ⟨p, lA, l, ⟨wl2.free hp, wl5.free hA, (wl5.trans nx.wl).free nw.no⟩, nz.at_, LPairs.wl st5 wlz p5, ⟨bs, wgz.keep nx.wl.2 (notSto_refs bs) nx.at_, hal.mono fun _ _ h => (AskAt.wl nx.wl.2 wgz h).imp fun _ z => z.1⟩, nz.wl.keep nw.wl.2 (notSto_ints xs) nw.at_⟩ ?_
        refine ⟨hn, hpl, ⟨rk, hok⟩, ?_, by rw [← hal.1]; exact hbl, hx, hf⟩
        show ∀ a ∈ asks, AskOk (ups n ps) n a ∧ a.lots.length = 3
        rw [hus]
        exact hao
end
end Q

set_option Elab.async false
set_option linter.all false
set_option maxRecDepth 100000
set_option maxHeartbeats 2000000
namespace Q
open PySem PySem.Spec PyProof.Rows L2 Hx Er Kt Mb Mu
/-- equal values, to a depth -/
inductive DQ (H : Hp) : Nat → V → V → Prop where
  | int (j : Nat) (i : Int) : DQ H (j + 1) (.int i) (.int i)
  | bl (j : Nat) (b : Bool) : DQ H (j + 1) (.bl b) (.bl b)
  | str (j : Nat) (s : Str) : DQ H (j + 1) (.str s) (.str s)
  | lst {j : Nat} {a b : Addr} {xs ys : List V} (ha : H a = some (.lst xs)) (hb : H b = some (.lst ys)) (hl : xs.length = ys.length) (hz : xs.length ≤ 1000) (hx : ∀ (i : Nat) (x y : V), xs[i]? = some x → ys[i]? = some y → DQ H j x y) : DQ H (j + 1) (.ref a) (.ref b)
  | tup {j : Nat} {a b : Addr} {xs ys : List V} (ha : H a = some (.tup xs)) (hb : H b = some (.tup ys)) (hl : xs.length = ys.length) (hz : xs.length ≤ 1000) (hx : ∀ (i : Nat) (x y : V), xs[i]? = some x → ys[i]? = some y → DQ H j x y) : DQ H (j + 1) (.ref a) (.ref b)
theorem DQ.same {H H' : Hp} (s : Same H H') {j : Nat} {x y : V} (h : DQ H j x y) : DQ H' j x y := by
  induction h with
  | int j i => exact .int j i
  | bl j b => exact .bl j b
  | str j z => exact .str j z
  | lst ha hb hl hz _ ih => exact .lst (s _ _ ha) (s _ _ hb) hl hz ih
  | tup ha hb hl hz _ ih => exact .tup (s _ _ ha) (s _ _ hb) hl hz ih
theorem inV_reps (n : Nat) : inV (.bl false) (List.replicate n (.bl true)) = false := by
  induction n with
  | zero => rfl
  | succ n ih =>
    rw [List.replicate_succ]
    unfold inV at *
    rw [List.any_cons, ih]
    rfl
section
variable {w : World} {K : PySem.W.Frag} {mg : Str → Option Value} {base : Heap}
def spEq (j : Nat) : Sp := fun vs H Q _ => ∃ x y, vs = [x, y] ∧ DQ H j x y ∧ ∀ H', Same H H' → Q (.bl true) H'
theorem sc_law_equal : FnScope ["told", "wanted", "k"] ["told", "wanted"] (defScope s_law_equal) := ⟨rfl, rfl, rfl, by decide +kernel, rfl, by decide +kernel, by decide +kernel⟩
theorem equal_ok (T : Txt K mg) : ∀ j, OkF pw w K mg base "_law_equal" (j + 1) ["told", "wanted"] (spEq j) := by
  intro j
  induction j with
  | zero =>
    refine mkOk (k := 0) T.F__law_equal T.g__law_equal (fun _ _ _ _ _ _ _ us hl => match us, hl with | [_, _], _ => rfl) sc_law_equal (fun vs H Q E h => ?_) (fun f cdv A outer s H vs Q E hr h => ?_)
    · obtain ⟨x, y, rfl, _⟩ := h
      rfl
    · obtain ⟨x, y, rfl, hd, _⟩ := h
      cases hd
  | succ j ih =>
    have G_law_equal := ih
    refine mkOk (k := j + 1) T.F__law_equal T.g__law_equal (fun _ _ _ _ _ _ _ us hl => match us, hl with | [_, _], _ => rfl) sc_law_equal (fun vs H Q E h => ?_) (fun f cdv A outer s H vs Q E hr h => ?_)
    · obtain ⟨x, y, rfl, _⟩ := h
      rfl
    · obtain ⟨x, y, rfl, hd, k⟩ := h
      refine ⟨_, (pss_cons (ps_if (PW.pt (pw_or (pt_val (pe_callB call_isi (by rfl) T.z_isinstance (by decide +kernel) (pa_cons (pv 1) (pa_cons (pe_bltn (v := .ty "list") (by rfl) T.z_list (by decide +kernel) rfl) pa_nil)))) (pw_or1 (pt_val (pe_callB call_isi (by rfl) T.z_isinstance (by decide +kernel) (pa_cons (pv 1) (pa_cons (pe_bltn (v := .ty "tuple") (by rfl) T.z_tuple (by decide +kernel) rfl) pa_nil))))))) (pss_cons (ps_if (PW.pt (pw_or (pt_cmpR op_ne (pe_callB call_isi (by rfl) T.z_isinstance (by decide +kernel) (pa_cons (pv 0) (pa_cons (pe_bltn (v := .ty "list") (by rfl) T.z_list (by decide +kernel) rfl) pa_nil))) (pe_callB call_isi (by rfl) T.z_isinstance (by decide +kernel) (pa_cons (pv 1) (pa_cons (pe_bltn (v := .ty "list") (by rfl) T.z_list (by decide +kernel) rfl) pa_nil))) (nomark _)) (pw_or1 (pt_cmpR op_ne (pe_callB call_isi (by rfl) T.z_isinstance (by decide +kernel) (pa_cons (pv 0) (pa_cons (pe_bltn (v := .ty "tuple") (by rfl) T.z_tuple (by decide +kernel) rfl) pa_nil))) (pe_callB call_isi (by rfl) T.z_isinstance (by decide +kernel) (pa_cons (pv 1) (pa_cons (pe_bltn (v := .ty "tuple") (by rfl) T.z_tuple (by decide +kernel) rfl) pa_nil))) (nomark _))))) (pss_one (ps_ret pe_bl)) pss_nil)
      (pss_cons (ps_if (pt_cmpR op_ne (pe_callB call_len_seq (by rfl) T.z_len PySem.boot_len (pa_cons (pv 0) pa_nil)) (pe_callB call_len_seq (by rfl) T.z_len PySem.boot_len (pa_cons (pv 1) pa_nil)) (nomark _)) (pss_one (ps_ret pe_bl)) pss_nil)
      (pss_one (ps_ret (pe_cmpR op_notIn_seq pe_bl (pe_lc (own := [("k", 2)]) rfl sc_law_equal.nd (pi_range1 (by rfl) T.z_range (pa_cons (pe_callB call_len_seq (by rfl) T.z_len PySem.boot_len (pa_cons (pv 1) pa_nil)) pa_nil)) (blkOk_by (N := ["told", "wanted", "k"]) (sc := defScope s_law_equal) (by decide +kernel)) (fun _ _ _ _ _ => (pg_name (i := 2) sc_law_equal.nd rfl (Or.inl rfl))) (fun _ _ _ _ _ => pts_nil) (fun _ _ _ _ _ => (cl G_law_equal hr (pa_cons (pe_ix (show IxR _ (rIx K) from ix_seq) (pv 0) (pv 2) (fun _ _ => rfl)) (pa_cons (pe_ix (show IxR _ (rIx K) from ix_seq) (pv 1) (pv 2) (fun _ _ => rfl)) pa_nil)) (hk := Nat.le_refl _)))) (by rfl)))))) pss_nil)
      (pss_cons (ps_if (PW.pt (pw_or (pt_cmpR op_isN (pv 1) pe_non (nomark _)) (pw_or1 (pt_cmpR op_isN (pv 0) pe_non (nomark _))))) (pss_one (ps_ret (pe_and (pe_cmpR op_isN (pv 1) pe_non (nomark _)) (pe_one (pe_cmpR op_isN (pv 0) pe_non (nomark _)))))) pss_nil)
      (pss_cons (ps_if (PW.pt (pw_or (pt_cmpR op_ne (pe_callB call_isi (by rfl) T.z_isinstance (by decide +kernel) (pa_cons (pv 0) (pa_cons (pe_bltn (v := .ty "bool") (by rfl) T.z_bool (by decide +kernel) rfl) pa_nil))) (pe_callB call_isi (by rfl) T.z_isinstance (by decide +kernel) (pa_cons (pv 1) (pa_cons (pe_bltn (v := .ty "bool") (by rfl) T.z_bool (by decide +kernel) rfl) pa_nil))) (nomark _)) (pw_or1 (pt_cmpR op_ne (pe_callB call_isi (by rfl) T.z_isinstance (by decide +kernel) (pa_cons (pv 0) (pa_cons (pe_bltn (v := .ty "str") (by rfl) T.z_str (by decide +kernel) rfl) pa_nil))) (pe_callB call_isi (by rfl) T.z_isinstance (by decide +kernel) (pa_cons (pv 1) (pa_cons (pe_bltn (v := .ty "str") (by rfl) T.z_str (by decide +kernel) rfl) pa_nil))) (nomark _))))) (pss_one (ps_ret pe_bl)) pss_nil)
      (pss_one (ps_ret (pe_and (pe_cmpR op_eq (pe_callB call_isi (by rfl) T.z_isinstance (by decide +kernel) (pa_cons (pv 0) (pa_cons (pe_bltn (v := .ty "int") (by rfl) T.z_int (by decide +kernel) rfl) pa_nil))) (pe_callB call_isi (by rfl) T.z_isinstance (by decide +kernel) (pa_cons (pv 1) (pa_cons (pe_bltn (v := .ty "int") (by rfl) T.z_int (by decide +kernel) rfl) pa_nil))) (nomark _)) (pe_one (pe_cmpR op_eq (pv 0) (pv 1) (nomark _))))))))), ?_⟩
      cases hd with
      | int j i =>
        have ty : TyX K H (.int i) (.type "int") := .base (.int i)
        refine ⟨_, rfl, _, _, _, _, false, rfl, .ty "list", ty, by kernel_rfl, _, rfl, iteB (fun h => nomatch h) (fun _ => ?_)⟩
        refine ⟨_, rfl, _, _, _, _, false, rfl, .ty "tuple", ty, by kernel_rfl, _, rfl, iteB (fun h => nomatch h) (fun _ => ?_)⟩
        refine ⟨_, rfl, rfl, _, rfl, iteD (fun h => nomatch h) (fun _ => ?_)⟩
        refine ⟨_, rfl, rfl, _, rfl, iteD (fun h => nomatch h) (fun _ => ?_)⟩
        refine ⟨_, rfl, _, _, _, _, false, rfl, .ty "bool", ty, by kernel_rfl, _, rfl, _, _, _, _, false, rfl, .ty "bool", ty, by kernel_rfl, rfl, _, rfl, iteN (fun h => absurd rfl h) (fun _ => ?_)⟩
        refine ⟨_, rfl, _, _, _, _, false, rfl, .ty "str", ty, by kernel_rfl, _, rfl, _, _, _, _, false, rfl, .ty "str", ty, by kernel_rfl, rfl, _, rfl, iteN (fun h => absurd rfl h) (fun _ => ?_)⟩
        refine ⟨_, rfl, _, _, _, _, true, rfl, .ty "int", ty, by kernel_rfl, _, rfl, _, _, _, _, true, rfl, .ty "int", ty, by kernel_rfl, rfl, _, rfl, iteD (fun _ => ?_) (fun h => absurd rfl h)⟩
        refine ⟨_, rfl, _, rfl, by rfl, ?_⟩
        rw [decide_eq_true rfl]
        exact k H (fun _ _ h => h)
      | bl j b =>
        have ty : TyX K H (.bl b) (.type "bool") := .base (.bl b)
        refine ⟨_, rfl, _, _, _, _, false, rfl, .ty "list", ty, by kernel_rfl, _, rfl, iteB (fun h => nomatch h) (fun _ => ?_)⟩
        refine ⟨_, rfl, _, _, _, _, false, rfl, .ty "tuple", ty, by kernel_rfl, _, rfl, iteB (fun h => nomatch h) (fun _ => ?_)⟩
        refine ⟨_, rfl, rfl, _, rfl, iteD (fun h => nomatch h) (fun _ => ?_)⟩
        refine ⟨_, rfl, rfl, _, rfl, iteD (fun h => nomatch h) (fun _ => ?_)⟩
        refine ⟨_, rfl, _, _, _, _, true, rfl, .ty "bool", ty, by kernel_rfl, _, rfl, _, _, _, _, true, rfl, .ty "bool", ty, by kernel_rfl, rfl, _, rfl, iteN (fun h => absurd rfl h) (fun _ => ?_)⟩
        refine ⟨_, rfl, _, _, _, _, false, rfl, .ty "str", ty, by kernel_rfl, _, rfl, _, _, _, _, false, rfl, .ty "str", ty, by kernel_rfl, rfl, _, rfl, iteN (fun h => absurd rfl h) (fun _ => ?_)⟩
        refine ⟨_, rfl, _, _, _, _, true, rfl, .ty "int", ty, by kernel_rfl, _, rfl, _, _, _, _, true, rfl, .ty "int", ty, by kernel_rfl, rfl, _, rfl, iteD (fun _ => ?_) (fun h => absurd rfl h)⟩
        refine ⟨_, rfl, _, rfl, by rfl, ?_⟩
        rw [decide_eq_true rfl]
        exact k H (fun _ _ h => h)
      | str j z =>
        have ty : TyX K H (.str z) (.type "str") := .base (.str z)
        refine ⟨_, rfl, _, _, _, _, false, rfl, .ty "list", ty, by kernel_rfl, _, rfl, iteB (fun h => nomatch h) (fun _ => ?_)⟩
        refine ⟨_, rfl, _, _, _, _, false, rfl, .ty "tuple", ty, by kernel_rfl, _, rfl, iteB (fun h => nomatch h) (fun _ => ?_)⟩
        refine ⟨_, rfl, rfl, _, rfl, iteD (fun h => nomatch h) (fun _ => ?_)⟩
        refine ⟨_, rfl, rfl, _, rfl, iteD (fun h => nomatch h) (fun _ => ?_)⟩
        refine ⟨_, rfl, _, _, _, _, false, rfl, .ty "bool", ty, by kernel_rfl, _, rfl, _, _, _, _, false, rfl, .ty "bool", ty, by kernel_rfl, rfl, _, rfl, iteN (fun h => absurd rfl h) (fun _ => ?_)⟩
        refine ⟨_, rfl, _, _, _, _, true, rfl, .ty "str", ty, by kernel_rfl, _, rfl, _, _, _, _, true, rfl, .ty "str", ty, by kernel_rfl, rfl, _, rfl, iteN (fun h => absurd rfl h) (fun _ => ?_)⟩
        refine ⟨_, rfl, _, _, _, _, false, rfl, .ty "int", ty, by kernel_rfl, _, rfl, _, _, _, _, false, rfl, .ty "int", ty, by kernel_rfl, rfl, _, rfl, iteD (fun _ => ?_) (fun h => absurd rfl h)⟩
        refine ⟨_, rfl, _, rfl, by rfl, ?_⟩
        rw [decide_eq_true rfl]
        exact k H (fun _ _ h => h)
      | @lst j a b xs ys ha hb hl hz hx =>
        have ta : TyX K H (.ref a) (.type "list") := .base (.lst ha)
        have tb : TyX K H (.ref b) (.type "list") := .base (.lst hb)
        refine ⟨_, rfl, _, _, _, _, true, rfl, .ty "list", tb, by kernel_rfl, _, rfl, iteB (fun _ => ?_) (fun h => nomatch h)⟩
        refine iteB (fun _ => ?_) (fun h => nomatch h)
        refine ⟨_, rfl, _, _, _, _, true, rfl, .ty "list", ta, by kernel_rfl, _, rfl, _, _, _, _, true, rfl, .ty "list", tb, by kernel_rfl, rfl, _, rfl, iteN (fun h => absurd rfl h) (fun _ => ?_)⟩
        refine ⟨_, rfl, _, _, _, _, false, rfl, .ty "tuple", ta, by kernel_rfl, _, rfl, _, _, _, _, false, rfl, .ty "tuple", tb, by kernel_rfl, rfl, _, rfl, iteN (fun h => absurd rfl h) (fun _ => ?_)⟩
        refine ⟨_, rfl, a, _, rfl, Or.inl (SqL.of ha), _, rfl, b, _, rfl, Or.inl (SqL.of hb), rfl, _, rfl, iteN (fun h => absurd (by rw [hl]) h) (fun _ => ?_)⟩
        refine ⟨_, rfl, b, _, rfl, Or.inl (SqL.of hb), _, rfl, by omega, by omega, fun l hnl => ?_⟩
        refine lcN (n := ys.length) (fun i G => Nw H G l (.lst (List.replicate i (.bl true)))) (Nw.mk0 hnl) (fun i G hi nw => ?_) (fun G nw => ?_)
        · have g1 : xs[i]? = some xs[i] := List.getElem?_eq_getElem (by omega)
          have g2 : ys[i]? = some ys[i] := List.getElem?_eq_getElem hi
          refine ⟨rfl, _, rfl, _, rfl, Or.inl (rdV (nw.same _ _ ha) g1 ⟨_, rfl, _, rfl, Or.inl (rdV (nw.same _ _ hb) g2 (tnil ⟨_, _, rfl, (hx i _ _ g1 g2).same nw.same, fun H' s => ?_⟩))⟩)⟩
          have nw := nw.more s
          refine ⟨_, nw.at_, by rw [List.length_replicate, sizeLine_eq]; omega, ?_⟩
          rw [List.replicate_succ']
          exact nw.put
        · refine ⟨l, _, rfl, Or.inl (SqL.of nw.at_), rfl, ?_, ?_⟩
          · rw [List.all_replicate]
            simp
            right
            rfl
          · rw [inV_reps]
            exact k _ nw.same
      | @tup j a b xs ys ha hb hl hz hx =>
        have ta : TyX K H (.ref a) (.type "tuple") := .base (.tup ha)
        have tb : TyX K H (.ref b) (.type "tuple") := .base (.tup hb)
        refine ⟨_, rfl, _, _, _, _, false, rfl, .ty "list", tb, by kernel_rfl, _, rfl, iteB (fun h => nomatch h) (fun _ => ?_)⟩
        refine ⟨_, rfl, _, _, _, _, true, rfl, .ty "tuple", tb, by kernel_rfl, _, rfl, iteB (fun _ => ?_) (fun h => nomatch h)⟩
        refine ⟨_, rfl, _, _, _, _, false, rfl, .ty "list", ta, by kernel_rfl, _, rfl, _, _, _, _, false, rfl, .ty "list", tb, by kernel_rfl, rfl, _, rfl, iteN (fun h => absurd rfl h) (fun _ => ?_)⟩
        refine ⟨_, rfl, _, _, _, _, true, rfl, .ty "tuple", ta, by kernel_rfl, _, rfl, _, _, _, _, true, rfl, .ty "tuple", tb, by kernel_rfl, rfl, _, rfl, iteN (fun h => absurd rfl h) (fun _ => ?_)⟩
        refine ⟨_, rfl, a, _, rfl, Or.inr (SqT.of ha), _, rfl, b, _, rfl, Or.inr (SqT.of hb), rfl, _, rfl, iteN (fun h => absurd (by rw [hl]) h) (fun _ => ?_)⟩
        refine ⟨_, rfl, b, _, rfl, Or.inr (SqT.of hb), _, rfl, by omega, by omega, fun l hnl => ?_⟩
        refine lcN (n := ys.length) (fun i G => Nw H G l (.lst (List.replicate i (.bl true)))) (Nw.mk0 hnl) (fun i G hi nw => ?_) (fun G nw => ?_)
        · have g1 : xs[i]? = some xs[i] := List.getElem?_eq_getElem (by omega)
          have g2 : ys[i]? = some ys[i] := List.getElem?_eq_getElem hi
          refine ⟨rfl, _, rfl, _, rfl, Or.inr (Or.inl (rdT (nw.same _ _ ha) g1 ⟨_, rfl, _, rfl, Or.inr (Or.inl (rdT (nw.same _ _ hb) g2 (tnil ⟨_, _, rfl, (hx i _ _ g1 g2).same nw.same, fun H' s => ?_⟩)))⟩))⟩
          have nw := nw.more s
          refine ⟨_, nw.at_, by rw [List.length_replicate, sizeLine_eq]; omega, ?_⟩
          rw [List.replicate_succ']
          exact nw.put
        · refine ⟨l, _, rfl, Or.inl (SqL.of nw.at_), rfl, ?_, ?_⟩
          · rw [List.all_replicate]
            simp
            right
            rfl
          · rw [inV_reps]
            exact k _ nw.same
end
end Q

set_option Elab.async false
set_option linter.all false
set_option maxRecDepth 100000
set_option maxHeartbeats 2000000
namespace Q
open PySem PySem.Spec PyProof.Rows L2 Hx Er Kt Mb Mu L2H
theorem errAt_same {H H' : Hp} {d : Option Addr} {fs : List (Str × V)} (h : ErrAt H d fs) (s : Same H H') : ErrAt H' d fs := by
  obtain ⟨dd, h1, h2⟩ := h
  exact ⟨dd, h1, s _ _ h2⟩
theorem words_split : Txt.split (("BadOrder BadLot NoLine NoStation NoDrive TwiceCode NotGood NoLeader Nobody TooEarly NoRank NoStep NoBeat " : Str) ++ ("NoOrder BadWish BadRow BadLevels BadChain BadParts BadPlan BadWord BadText TooMany BadSize" : Str)) " " = errs := by decide +kernel
section
variable {w : World} {K : PySem.W.Frag} {mg : Str → Option Value} {base : Heap}
/-- what an error of class x is turned into -/
def spTu (K : PySem.W.Frag) (x f : Str) : Addr → Value → Option Addr → Sp := fun a c d vs H Q _ => vs = [.ref a] ∧ ∃ i : Int, c = .ref (eC K x) ∧ ErrAt H d [(f, .int i)] ∧ ∀ H' p, H p = none → Same H H' → H' p = some (.tup [.str x, .int i]) → Q (.ref p) H'
theorem sc_law_turned : FnScope ["e", "kinds", "words", "names", "found", "k"] ["e"] (defScope s_law_turned) := ⟨rfl, rfl, rfl, by decide +kernel, rfl, by decide +kernel, by decide +kernel⟩
theorem turned_BadLot (T : Txt K mg) {oc cdv : Value} {dV kV doc pm ct : Value} {an od : Option Addr} {osl : Array (Option Value)} (lk : K.lookup (He.ga K "_law_turned") = some ⟨oc, od, .func (PySem.W.fnOf "_law_turned" "_law_turned" (defArgs s_law_turned) (defBody s_law_turned) (defScope s_law_turned) dV kV doc pm an cdv ct), osl⟩) (hcd : PySem.W.codeIn K cdv "_law_turned" = true) :
    FnP pw w K mg base (L2N.CX pw w) 1 (He.ga K "_law_turned") (PySem.W.fnOf "_law_turned" "_law_turned" (defArgs s_law_turned) (defBody s_law_turned) (defScope s_law_turned) dV kV doc pm an cdv ct) ["e"] (spTu K "BadLot" "lot") := by
  refine fn_ofP (k := 0) lk hcd sc_law_turned (fun a c d vs H Q E h => ?_) (fun A outer s H vs Q E p c d hot hz hr h => ?_)
  · obtain ⟨rfl, _⟩ := h
    rfl
  · obtain ⟨rfl, i, rfl, ea0, k⟩ := h
    have hotc : HotC (cxH (L2N.CX pw w) pw w K mg base ["e", "kinds", "words", "names", "found", "k"] "_law_turned" (defScope s_law_turned) (He.ga K "_law_turned") cdv A outer s H E p) := ⟨p, hot, List.mem_cons_self⟩
    have hp : p ∈ (cxH (L2N.CX pw w) pw w K mg base ["e", "kinds", "words", "names", "found", "k"] "_law_turned" (defScope s_law_turned) (He.ga K "_law_turned") cdv A outer s H E p).pn := List.mem_cons_self
    have hf : ∃ vs, p.2.data = .fields vs := by
      obtain ⟨_, vs, hd, _⟩ := hot
      exact ⟨vs, hd⟩
    refine ⟨_, (pss_cons (ps_set (i := 1) sc_law_turned.nd rfl (Or.inr rfl) (pe_lst (pa_cons (pe_callB (call_isP T.E_BadLot.err hp hz hf) (by rfl) T.z_isinstance (by decide +kernel) (pa_cons (pv 0) (pa_cons (pe_glob (v := .ref (He.ga K "BadOrder")) (by rfl) T.g_BadOrder rfl) pa_nil))) (pa_cons (pe_callB (call_isP T.E_BadLot.err hp hz hf) (by rfl) T.z_isinstance (by decide +kernel) (pa_cons (pv 0) (pa_cons (pe_glob (v := .ref (He.ga K "BadLot")) (by rfl) T.g_BadLot rfl) pa_nil))) (pa_cons (pe_callB (call_isP T.E_BadLot.err hp hz hf) (by rfl) T.z_isinstance (by decide +kernel) (pa_cons (pv 0) (pa_cons (pe_glob (v := .ref (He.ga K "NoLine")) (by rfl) T.g_NoLine rfl) pa_nil))) (pa_cons (pe_callB (call_isP T.E_BadLot.err hp hz hf) (by rfl) T.z_isinstance (by decide +kernel) (pa_cons (pv 0) (pa_cons (pe_glob (v := .ref (He.ga K "NoStation")) (by rfl) T.g_NoStation rfl) pa_nil))) pa_nil))))))
      (pss_cons (ps_set (i := 1) sc_law_turned.nd rfl (Or.inr rfl) (pe_op op_cat (pv 1) (pe_lst (pa_cons (pe_callB (call_isP T.E_BadLot.err hp hz hf) (by rfl) T.z_isinstance (by decide +kernel) (pa_cons (pv 0) (pa_cons (pe_glob (v := .ref (He.ga K "NoDrive")) (by rfl) T.g_NoDrive rfl) pa_nil))) (pa_cons (pe_callB (call_isP T.E_BadLot.err hp hz hf) (by rfl) T.z_isinstance (by decide +kernel) (pa_cons (pv 0) (pa_cons (pe_glob (v := .ref (He.ga K "TwiceCode")) (by rfl) T.g_TwiceCode rfl) pa_nil))) (pa_cons (pe_callB (call_isP T.E_BadLot.err hp hz hf) (by rfl) T.z_isinstance (by decide +kernel) (pa_cons (pv 0) (pa_cons (pe_glob (v := .ref (He.ga K "NotGood")) (by rfl) T.g_NotGood rfl) pa_nil))) (pa_cons (pe_callB (call_isP T.E_BadLot.err hp hz hf) (by rfl) T.z_isinstance (by decide +kernel) (pa_cons (pv 0) (pa_cons (pe_glob (v := .ref (He.ga K "NoLeader")) (by rfl) T.g_NoLeader rfl) pa_nil))) pa_nil)))))))
      (pss_cons (ps_set (i := 1) sc_law_turned.nd rfl (Or.inr rfl) (pe_op op_cat (pv 1) (pe_lst (pa_cons (pe_callB (call_isP T.E_BadLot.err hp hz hf) (by rfl) T.z_isinstance (by decide +kernel) (pa_cons (pv 0) (pa_cons (pe_glob (v := .ref (He.ga K "Nobody")) (by rfl) T.g_Nobody rfl) pa_nil))) (pa_cons (pe_callB (call_isP T.E_BadLot.err hp hz hf) (by rfl) T.z_isinstance (by decide +kernel) (pa_cons (pv 0) (pa_cons (pe_glob (v := .ref (He.ga K "TooEarly")) (by rfl) T.g_TooEarly rfl) pa_nil))) (pa_cons (pe_callB (call_isP T.E_BadLot.err hp hz hf) (by rfl) T.z_isinstance (by decide +kernel) (pa_cons (pv 0) (pa_cons (pe_glob (v := .ref (He.ga K "NoRank")) (by rfl) T.g_NoRank rfl) pa_nil))) (pa_cons (pe_callB (call_isP T.E_BadLot.err hp hz hf) (by rfl) T.z_isinstance (by decide +kernel) (pa_cons (pv 0) (pa_cons (pe_glob (v := .ref (He.ga K "NoStep")) (by rfl) T.g_NoStep rfl) pa_nil))) pa_nil)))))))
      (pss_cons (ps_set (i := 1) sc_law_turned.nd rfl (Or.inr rfl) (pe_op op_cat (pv 1) (pe_lst (pa_cons (pe_callB (call_isP T.E_BadLot.err hp hz hf) (by rfl) T.z_isinstance (by decide +kernel) (pa_cons (pv 0) (pa_cons (pe_glob (v := .ref (He.ga K "NoBeat")) (by rfl) T.g_NoBeat rfl) pa_nil))) (pa_cons (pe_callB (call_isP T.E_BadLot.err hp hz hf) (by rfl) T.z_isinstance (by decide +kernel) (pa_cons (pv 0) (pa_cons (pe_glob (v := .ref (He.ga K "NoOrder")) (by rfl) T.g_NoOrder rfl) pa_nil))) (pa_cons (pe_callB (call_isP T.E_BadLot.err hp hz hf) (by rfl) T.z_isinstance (by decide +kernel) (pa_cons (pv 0) (pa_cons (pe_glob (v := .ref (He.ga K "BadWish")) (by rfl) T.g_BadWish rfl) pa_nil))) (pa_cons (pe_callB (call_isP T.E_BadLot.err hp hz hf) (by rfl) T.z_isinstance (by decide +kernel) (pa_cons (pv 0) (pa_cons (pe_glob (v := .ref (He.ga K "BadRow")) (by rfl) T.g_BadRow rfl) pa_nil))) pa_nil)))))))
      (pss_cons (ps_set (i := 1) sc_law_turned.nd rfl (Or.inr rfl) (pe_op op_cat (pv 1) (pe_lst (pa_cons (pe_callB (call_isP T.E_BadLot.err hp hz hf) (by rfl) T.z_isinstance (by decide +kernel) (pa_cons (pv 0) (pa_cons (pe_glob (v := .ref (He.ga K "BadLevels")) (by rfl) T.g_BadLevels rfl) pa_nil))) (pa_cons (pe_callB (call_isP T.E_BadLot.err hp hz hf) (by rfl) T.z_isinstance (by decide +kernel) (pa_cons (pv 0) (pa_cons (pe_glob (v := .ref (He.ga K "BadChain")) (by rfl) T.g_BadChain rfl) pa_nil))) (pa_cons (pe_callB (call_isP T.E_BadLot.err hp hz hf) (by rfl) T.z_isinstance (by decide +kernel) (pa_cons (pv 0) (pa_cons (pe_glob (v := .ref (He.ga K "BadParts")) (by rfl) T.g_BadParts rfl) pa_nil))) (pa_cons (pe_callB (call_isP T.E_BadLot.err hp hz hf) (by rfl) T.z_isinstance (by decide +kernel) (pa_cons (pv 0) (pa_cons (pe_glob (v := .ref (He.ga K "BadPlan")) (by rfl) T.g_BadPlan rfl) pa_nil))) pa_nil)))))))
      (pss_cons (ps_set (i := 1) sc_law_turned.nd rfl (Or.inr rfl) (pe_op op_cat (pv 1) (pe_lst (pa_cons (pe_callB (call_isP T.E_BadLot.err hp hz hf) (by rfl) T.z_isinstance (by decide +kernel) (pa_cons (pv 0) (pa_cons (pe_glob (v := .ref (He.ga K "BadWord")) (by rfl) T.g_BadWord rfl) pa_nil))) (pa_cons (pe_callB (call_isP T.E_BadLot.err hp hz hf) (by rfl) T.z_isinstance (by decide +kernel) (pa_cons (pv 0) (pa_cons (pe_glob (v := .ref (He.ga K "BadText")) (by rfl) T.g_BadText rfl) pa_nil))) (pa_cons (pe_callB (call_isP T.E_BadLot.err hp hz hf) (by rfl) T.z_isinstance (by decide +kernel) (pa_cons (pv 0) (pa_cons (pe_glob (v := .ref (He.ga K "TooMany")) (by rfl) T.g_TooMany rfl) pa_nil))) (pa_cons (pe_callB (call_isP T.E_BadLot.err hp hz hf) (by rfl) T.z_isinstance (by decide +kernel) (pa_cons (pv 0) (pa_cons (pe_glob (v := .ref (He.ga K "BadSize")) (by rfl) T.g_BadSize rfl) pa_nil))) pa_nil)))))))
      (pss_cons (ps_set (i := 2) sc_law_turned.nd rfl (Or.inl rfl) pe_str)
      (pss_cons (ps_set (i := 2) sc_law_turned.nd rfl (Or.inl rfl) (pe_op op_add_str (pv 2) pe_str))
      (pss_cut (ps_set (i := 3) sc_law_turned.nd rfl (Or.inr rfl) (pe_bm PySem.F.plainAttrs_str PySem.F.slot_str_split PySem.F.type_str_split mt_split (pv 2) (pa_cons pe_str pa_nil)))
      (pss_cons (ps_setLcP (i := 4) (own := [("k", 5)]) hotc sc_law_turned.nd rfl rfl (sw_true rfl rfl rfl (by decide +kernel)) (pi_range1H (by rfl) T.z_range (pa_cons (pe_callB call_len_seq (by rfl) T.z_len PySem.boot_len (pa_cons (pv 3) pa_nil)) pa_nil)) (blkOk_by (N := ["e", "kinds", "words", "names", "found", "k"]) (sc := defScope s_law_turned) (by decide +kernel)) (fun _ _ _ _ _ => (pg_name (i := 5) sc_law_turned.nd rfl (Or.inl rfl))) (fun _ _ _ _ _ => (pts_one (pt_val (pe_ix (show IxR _ (rIxL K) from ix_list) (pv 1) (pv 5) (fun _ _ => rfl))))) (fun _ _ _ _ _ => (pe_ix (show IxR _ (rIxL K) from ix_list) (pv 3) (pv 5) (fun _ _ => rfl))))
      (pss_cons (ps_if (PW.pt (pw_or (pt_cmpR op_ne (pe_callB call_len_seq (by rfl) T.z_len PySem.boot_len (pa_cons (pv 4) pa_nil)) pe_int (nomark _)) (pw_or1 (pt_not (pt_val (pe_callB (call_isP T.E_BadLot.err hp hz hf) (by rfl) T.z_isinstance (by decide +kernel) (pa_cons (pv 0) (pa_cons (pe_bltn (v := .ty "ValueError") (by rfl) T.z_ValueError (by decide +kernel) rfl) pa_nil)))))))) (pss_one ps_no) pss_nil)
      (pss_cons (ps_if (pt_cmpR op_eq (pe_ix ix_list (pv 4) pe_int (fun _ _ => rfl)) pe_str (nomark _)) (pss_one ps_no) pss_nil)
      (pss_cons (ps_if (pt_cmpR op_eq (pe_ix ix_list (pv 4) pe_int (fun _ _ => rfl)) pe_str (nomark _)) (pss_one (ps_ret (pe_tup (pa_cons (pe_ix ix_list (pv 4) pe_int (fun _ _ => rfl)) (pa_cons (pe_fldP T.E_BadLot.err (T.E_BadLot.no "lot" (by decide +kernel)) hp hz hf (pv 0)) pa_nil))))) pss_nil)
      (pss_one ps_no)))))))))))))), ?_⟩
    refine ⟨_, rfl, _, _, _, _, rfl, (fun _ h => h), T.K_BadLot "BadOrder" (by decide +kernel), ea0, _, rfl, _, _, _, _, rfl, (fun _ h => h), T.K_BadLot "BadLot" (by decide +kernel), ea0, _, rfl, _, _, _, _, rfl, (fun _ h => h), T.K_BadLot "NoLine" (by decide +kernel), ea0, _, rfl, _, _, _, _, rfl, (fun _ h => h), T.K_BadLot "NoStation" (by decide +kernel), ea0, by decide, fun l0 h0 => ?_⟩
    have s0 := same_new (o := .lst [V.bl (decide (("BadOrder" : Str) = "BadLot")), V.bl (decide (("BadLot" : Str) = "BadLot")), V.bl (decide (("NoLine" : Str) = "BadLot")), V.bl (decide (("NoStation" : Str) = "BadLot"))]) h0
    have e0 := errAt_same ea0 s0
    refine ⟨_, rfl, _, rfl, _, _, _, _, rfl, (fun _ h => h), T.K_BadLot "NoDrive" (by decide +kernel), e0, _, rfl, _, _, _, _, rfl, (fun _ h => h), T.K_BadLot "TwiceCode" (by decide +kernel), e0, _, rfl, _, _, _, _, rfl, (fun _ h => h), T.K_BadLot "NotGood" (by decide +kernel), e0, _, rfl, _, _, _, _, rfl, (fun _ h => h), T.K_BadLot "NoLeader" (by decide +kernel), e0, by decide, fun b1 g1 => ?_⟩
    have t1 := same_new (o := .lst [V.bl (decide (("NoDrive" : Str) = "BadLot")), V.bl (decide (("TwiceCode" : Str) = "BadLot")), V.bl (decide (("NotGood" : Str) = "BadLot")), V.bl (decide (("NoLeader" : Str) = "BadLot"))]) g1
    refine ⟨l0, b1, _, _, rfl, rfl, t1 _ _ upd_same, upd_same, by decide, fun l1 h1 => ?_⟩
    have s1 := (s0.trans t1).trans (same_new (o := .lst [V.bl (decide (("BadOrder" : Str) = "BadLot")), V.bl (decide (("BadLot" : Str) = "BadLot")), V.bl (decide (("NoLine" : Str) = "BadLot")), V.bl (decide (("NoStation" : Str) = "BadLot")), V.bl (decide (("NoDrive" : Str) = "BadLot")), V.bl (decide (("TwiceCode" : Str) = "BadLot")), V.bl (decide (("NotGood" : Str) = "BadLot")), V.bl (decide (("NoLeader" : Str) = "BadLot"))]) h1)
    have e1 := errAt_same ea0 s1
    refine ⟨_, rfl, _, rfl, _, _, _, _, rfl, (fun _ h => h), T.K_BadLot "Nobody" (by decide +kernel), e1, _, rfl, _, _, _, _, rfl, (fun _ h => h), T.K_BadLot "TooEarly" (by decide +kernel), e1, _, rfl, _, _, _, _, rfl, (fun _ h => h), T.K_BadLot "NoRank" (by decide +kernel), e1, _, rfl, _, _, _, _, rfl, (fun _ h => h), T.K_BadLot "NoStep" (by decide +kernel), e1, by decide, fun b2 g2 => ?_⟩
    have t2 := same_new (o := .lst [V.bl (decide (("Nobody" : Str) = "BadLot")), V.bl (decide (("TooEarly" : Str) = "BadLot")), V.bl (decide (("NoRank" : Str) = "BadLot")), V.bl (decide (("NoStep" : Str) = "BadLot"))]) g2
    refine ⟨l1, b2, _, _, rfl, rfl, t2 _ _ upd_same, upd_same, by decide, fun l2 h2 => ?_⟩
    have s2 := (s1.trans t2).trans (same_new (o := .lst [V.bl (decide (("BadOrder" : Str) = "BadLot")), V.bl (decide (("BadLot" : Str) = "BadLot")), V.bl (decide (("NoLine" : Str) = "BadLot")), V.bl (decide (("NoStation" : Str) = "BadLot")), V.bl (decide (("NoDrive" : Str) = "BadLot")), V.bl (decide (("TwiceCode" : Str) = "BadLot")), V.bl (decide (("NotGood" : Str) = "BadLot")), V.bl (decide (("NoLeader" : Str) = "BadLot")), V.bl (decide (("Nobody" : Str) = "BadLot")), V.bl (decide (("TooEarly" : Str) = "BadLot")), V.bl (decide (("NoRank" : Str) = "BadLot")), V.bl (decide (("NoStep" : Str) = "BadLot"))]) h2)
    have e2 := errAt_same ea0 s2
    refine ⟨_, rfl, _, rfl, _, _, _, _, rfl, (fun _ h => h), T.K_BadLot "NoBeat" (by decide +kernel), e2, _, rfl, _, _, _, _, rfl, (fun _ h => h), T.K_BadLot "NoOrder" (by decide +kernel), e2, _, rfl, _, _, _, _, rfl, (fun _ h => h), T.K_BadLot "BadWish" (by decide +kernel), e2, _, rfl, _, _, _, _, rfl, (fun _ h => h), T.K_BadLot "BadRow" (by decide +kernel), e2, by decide, fun b3 g3 => ?_⟩
    have t3 := same_new (o := .lst [V.bl (decide (("NoBeat" : Str) = "BadLot")), V.bl (decide (("NoOrder" : Str) = "BadLot")), V.bl (decide (("BadWish" : Str) = "BadLot")), V.bl (decide (("BadRow" : Str) = "BadLot"))]) g3
    refine ⟨l2, b3, _, _, rfl, rfl, t3 _ _ upd_same, upd_same, by decide, fun l3 h3 => ?_⟩
    have s3 := (s2.trans t3).trans (same_new (o := .lst [V.bl (decide (("BadOrder" : Str) = "BadLot")), V.bl (decide (("BadLot" : Str) = "BadLot")), V.bl (decide (("NoLine" : Str) = "BadLot")), V.bl (decide (("NoStation" : Str) = "BadLot")), V.bl (decide (("NoDrive" : Str) = "BadLot")), V.bl (decide (("TwiceCode" : Str) = "BadLot")), V.bl (decide (("NotGood" : Str) = "BadLot")), V.bl (decide (("NoLeader" : Str) = "BadLot")), V.bl (decide (("Nobody" : Str) = "BadLot")), V.bl (decide (("TooEarly" : Str) = "BadLot")), V.bl (decide (("NoRank" : Str) = "BadLot")), V.bl (decide (("NoStep" : Str) = "BadLot")), V.bl (decide (("NoBeat" : Str) = "BadLot")), V.bl (decide (("NoOrder" : Str) = "BadLot")), V.bl (decide (("BadWish" : Str) = "BadLot")), V.bl (decide (("BadRow" : Str) = "BadLot"))]) h3)
    have e3 := errAt_same ea0 s3
    refine ⟨_, rfl, _, rfl, _, _, _, _, rfl, (fun _ h => h), T.K_BadLot "BadLevels" (by decide +kernel), e3, _, rfl, _, _, _, _, rfl, (fun _ h => h), T.K_BadLot "BadChain" (by decide +kernel), e3, _, rfl, _, _, _, _, rfl, (fun _ h => h), T.K_BadLot "BadParts" (by decide +kernel), e3, _, rfl, _, _, _, _, rfl, (fun _ h => h), T.K_BadLot "BadPlan" (by decide +kernel), e3, by decide, fun b4 g4 => ?_⟩
    have t4 := same_new (o := .lst [V.bl (decide (("BadLevels" : Str) = "BadLot")), V.bl (decide (("BadChain" : Str) = "BadLot")), V.bl (decide (("BadParts" : Str) = "BadLot")), V.bl (decide (("BadPlan" : Str) = "BadLot"))]) g4
    refine ⟨l3, b4, _, _, rfl, rfl, t4 _ _ upd_same, upd_same, by decide, fun l4 h4 => ?_⟩
    have s4 := (s3.trans t4).trans (same_new (o := .lst [V.bl (decide (("BadOrder" : Str) = "BadLot")), V.bl (decide (("BadLot" : Str) = "BadLot")), V.bl (decide (("NoLine" : Str) = "BadLot")), V.bl (decide (("NoStation" : Str) = "BadLot")), V.bl (decide (("NoDrive" : Str) = "BadLot")), V.bl (decide (("TwiceCode" : Str) = "BadLot")), V.bl (decide (("NotGood" : Str) = "BadLot")), V.bl (decide (("NoLeader" : Str) = "BadLot")), V.bl (decide (("Nobody" : Str) = "BadLot")), V.bl (decide (("TooEarly" : Str) = "BadLot")), V.bl (decide (("NoRank" : Str) = "BadLot")), V.bl (decide (("NoStep" : Str) = "BadLot")), V.bl (decide (("NoBeat" : Str) = "BadLot")), V.bl (decide (("NoOrder" : Str) = "BadLot")), V.bl (decide (("BadWish" : Str) = "BadLot")), V.bl (decide (("BadRow" : Str) = "BadLot")), V.bl (decide (("BadLevels" : Str) = "BadLot")), V.bl (decide (("BadChain" : Str) = "BadLot")), V.bl (decide (("BadParts" : Str) = "BadLot")), V.bl (decide (("BadPlan" : Str) = "BadLot"))]) h4)
    have e4 := errAt_same ea0 s4
    refine ⟨_, rfl, _, rfl, _, _, _, _, rfl, (fun _ h => h), T.K_BadLot "BadWord" (by decide +kernel), e4, _, rfl, _, _, _, _, rfl, (fun _ h => h), T.K_BadLot "BadText" (by decide +kernel), e4, _, rfl, _, _, _, _, rfl, (fun _ h => h), T.K_BadLot "TooMany" (by decide +kernel), e4, _, rfl, _, _, _, _, rfl, (fun _ h => h), T.K_BadLot "BadSize" (by decide +kernel), e4, by decide, fun b5 g5 => ?_⟩
    have t5 := same_new (o := .lst [V.bl (decide (("BadWord" : Str) = "BadLot")), V.bl (decide (("BadText" : Str) = "BadLot")), V.bl (decide (("TooMany" : Str) = "BadLot")), V.bl (decide (("BadSize" : Str) = "BadLot"))]) g5
    refine ⟨l4, b5, _, _, rfl, rfl, t5 _ _ upd_same, upd_same, by decide, fun l5 h5 => ?_⟩
    have s5 := (s4.trans t5).trans (same_new (o := .lst [V.bl (decide (("BadOrder" : Str) = "BadLot")), V.bl (decide (("BadLot" : Str) = "BadLot")), V.bl (decide (("NoLine" : Str) = "BadLot")), V.bl (decide (("NoStation" : Str) = "BadLot")), V.bl (decide (("NoDrive" : Str) = "BadLot")), V.bl (decide (("TwiceCode" : Str) = "BadLot")), V.bl (decide (("NotGood" : Str) = "BadLot")), V.bl (decide (("NoLeader" : Str) = "BadLot")), V.bl (decide (("Nobody" : Str) = "BadLot")), V.bl (decide (("TooEarly" : Str) = "BadLot")), V.bl (decide (("NoRank" : Str) = "BadLot")), V.bl (decide (("NoStep" : Str) = "BadLot")), V.bl (decide (("NoBeat" : Str) = "BadLot")), V.bl (decide (("NoOrder" : Str) = "BadLot")), V.bl (decide (("BadWish" : Str) = "BadLot")), V.bl (decide (("BadRow" : Str) = "BadLot")), V.bl (decide (("BadLevels" : Str) = "BadLot")), V.bl (decide (("BadChain" : Str) = "BadLot")), V.bl (decide (("BadParts" : Str) = "BadLot")), V.bl (decide (("BadPlan" : Str) = "BadLot")), V.bl (decide (("BadWord" : Str) = "BadLot")), V.bl (decide (("BadText" : Str) = "BadLot")), V.bl (decide (("TooMany" : Str) = "BadLot")), V.bl (decide (("BadSize" : Str) = "BadLot"))]) h5)
    have e5 := errAt_same ea0 s5
    refine ⟨_, rfl, _, _, rfl, rfl, by decide +kernel, ?_⟩
    refine ⟨fun σ' G => ∃ (l5 nl : Addr) (y2 : Option V), σ' = [some (.ref p.1), some (.ref l5), y2, some (.ref nl), none, none] ∧ Same H G ∧ G l5 = some (.lst (errs.map fun x : Str => V.bl (decide (x = "BadLot")))) ∧ G nl = some (.lst (errs.map V.str)), ?_, ?_⟩
    · refine ⟨_, rfl, rfl, _, _, rfl, rfl, by decide +kernel, by decide +kernel, fun nl hnl => ?_⟩
      rw [words_split]
      exact ⟨l5, nl, _, rfl, s5.trans (same_new hnl), same_new hnl _ _ upd_same, upd_same⟩
    rintro σ' G ⟨l5, nl, y2, rfl, sn, kn, nn⟩
    refine ⟨_, rfl, nl, _, rfl, Or.inl (SqL.of nn), _, rfl, by decide, by decide, fun l hl => ?_⟩
    refine lcN (n := (errs.map V.str).length) (fun i G2 => Nw G G2 l (.lst (((errs.take i).filter fun x : Str => decide (x = "BadLot")).map V.str))) (Nw.mk0 hl) (fun i G2 hi nw => ?_) (fun G2 nw => ?_)
    · rw [List.length_map] at hi
      have gi : errs[i]? = some errs[i] := List.getElem?_eq_getElem hi
      have gk : (errs.map fun x : Str => V.bl (decide (x = "BadLot")))[i]? = some (.bl (decide (errs[i] = "BadLot"))) := by rw [List.getElem?_map, gi]; rfl
      have gn : (errs.map V.str)[i]? = some (.str errs[i]) := by rw [List.getElem?_map, gi]; rfl
      refine ⟨rfl, _, rfl, _, rfl, rdV (nw.same _ _ kn) gk ⟨_, rfl, iteD (fun c => ?_) (fun c => ?_)⟩⟩
      · refine ⟨_, rfl, _, rfl, rdV (nw.same _ _ nn) gn ⟨_, nw.at_, ?_, ?_⟩⟩
        · have := List.length_filter_le (fun x => decide (x = ("BadLot" : Str))) (errs.take i)
          rw [List.length_take] at this
          rw [List.length_map, sizeLine_eq]
          have : errs.length = 24 := rfl
          omega
        · rw [filter_take_succ _ gi, if_pos (decide_eq_true c), List.map_append]
          exact nw.put
      · rw [filter_take_succ _ gi, if_neg (by rw [decide_eq_false c]; exact Bool.false_ne_true), List.append_nil]
        exact nw
    · rw [List.length_map, List.take_length] at nw
      have fe : (errs.filter fun x : Str => decide (x = "BadLot")).map V.str = [V.str "BadLot"] := by kernel_rfl
      rw [fe] at nw
      refine ⟨_, rfl, l, _, rfl, Or.inl (SqL.of nw.at_), rfl, _, rfl, iteN (fun h => absurd rfl h) (fun _ => ?_)⟩
      have eG := errAt_same (errAt_same ea0 sn) nw.same
      refine ⟨_, rfl, _, _, true, _, rfl, (fun _ h => h), T.V_BadLot, eG, _, rfl, ?_⟩
      refine iteB (fun h => nomatch h) (fun _ => ?_)
      refine ⟨_, rfl, tc (rd0 nw.at_ rfl ⟨rfl, _, rfl, iteD (fun h => absurd (V.str.inj h) (by decide +kernel)) (fun _ => ?_)⟩)⟩
      refine ⟨_, rfl, tc (rd0 nw.at_ rfl ⟨rfl, _, rfl, iteD (fun _ => ?_) (fun h => absurd rfl h)⟩)⟩
      refine ⟨_, rfl, tc (rd0 nw.at_ rfl ⟨_, rfl, _, _, rfl, eG, rfl, by show 2 ≤ _; rw [sizeLine_eq]; decide, fun q hq => ?_⟩)⟩
      refine k _ q ?_ ((sn.trans nw.same).trans (same_new hq)) upd_same
      exact (sn.trans nw.same).free hq
theorem turned_TooMany (T : Txt K mg) {oc cdv : Value} {dV kV doc pm ct : Value} {an od : Option Addr} {osl : Array (Option Value)} (lk : K.lookup (He.ga K "_law_turned") = some ⟨oc, od, .func (PySem.W.fnOf "_law_turned" "_law_turned" (defArgs s_law_turned) (defBody s_law_turned) (defScope s_law_turned) dV kV doc pm an cdv ct), osl⟩) (hcd : PySem.W.codeIn K cdv "_law_turned" = true) :
    FnP pw w K mg base (L2N.CX pw w) 1 (He.ga K "_law_turned") (PySem.W.fnOf "_law_turned" "_law_turned" (defArgs s_law_turned) (defBody s_law_turned) (defScope s_law_turned) dV kV doc pm an cdv ct) ["e"] (spTu K "TooMany" "limit") := by
  refine fn_ofP (k := 0) lk hcd sc_law_turned (fun a c d vs H Q E h => ?_) (fun A outer s H vs Q E p c d hot hz hr h => ?_)
  · obtain ⟨rfl, _⟩ := h
    rfl
  · obtain ⟨rfl, i, rfl, ea0, k⟩ := h
    have hotc : HotC (cxH (L2N.CX pw w) pw w K mg base ["e", "kinds", "words", "names", "found", "k"] "_law_turned" (defScope s_law_turned) (He.ga K "_law_turned") cdv A outer s H E p) := ⟨p, hot, List.mem_cons_self⟩
    have hp : p ∈ (cxH (L2N.CX pw w) pw w K mg base ["e", "kinds", "words", "names", "found", "k"] "_law_turned" (defScope s_law_turned) (He.ga K "_law_turned") cdv A outer s H E p).pn := List.mem_cons_self
    have hf : ∃ vs, p.2.data = .fields vs := by
      obtain ⟨_, vs, hd, _⟩ := hot
      exact ⟨vs, hd⟩
    refine ⟨_, (pss_cons (ps_set (i := 1) sc_law_turned.nd rfl (Or.inr rfl) (pe_lst (pa_cons (pe_callB (call_isP T.E_TooMany.err hp hz hf) (by rfl) T.z_isinstance (by decide +kernel) (pa_cons (pv 0) (pa_cons (pe_glob (v := .ref (He.ga K "BadOrder")) (by rfl) T.g_BadOrder rfl) pa_nil))) (pa_cons (pe_callB (call_isP T.E_TooMany.err hp hz hf) (by rfl) T.z_isinstance (by decide +kernel) (pa_cons (pv 0) (pa_cons (pe_glob (v := .ref (He.ga K "BadLot")) (by rfl) T.g_BadLot rfl) pa_nil))) (pa_cons (pe_callB (call_isP T.E_TooMany.err hp hz hf) (by rfl) T.z_isinstance (by decide +kernel) (pa_cons (pv 0) (pa_cons (pe_glob (v := .ref (He.ga K "NoLine")) (by rfl) T.g_NoLine rfl) pa_nil))) (pa_cons (pe_callB (call_isP T.E_TooMany.err hp hz hf) (by rfl) T.z_isinstance (by decide +kernel) (pa_cons (pv 0) (pa_cons (pe_glob (v := .ref (He.ga K "NoStation")) (by rfl) T.g_NoStation rfl) pa_nil))) pa_nil))))))
      (pss_cons (ps_set (i := 1) sc_law_turned.nd rfl (Or.inr rfl) (pe_op op_cat (pv 1) (pe_lst (pa_cons (pe_callB (call_isP T.E_TooMany.err hp hz hf) (by rfl) T.z_isinstance (by decide +kernel) (pa_cons (pv 0) (pa_cons (pe_glob (v := .ref (He.ga K "NoDrive")) (by rfl) T.g_NoDrive rfl) pa_nil))) (pa_cons (pe_callB (call_isP T.E_TooMany.err hp hz hf) (by rfl) T.z_isinstance (by decide +kernel) (pa_cons (pv 0) (pa_cons (pe_glob (v := .ref (He.ga K "TwiceCode")) (by rfl) T.g_TwiceCode rfl) pa_nil))) (pa_cons (pe_callB (call_isP T.E_TooMany.err hp hz hf) (by rfl) T.z_isinstance (by decide +kernel) (pa_cons (pv 0) (pa_cons (pe_glob (v := .ref (He.ga K "NotGood")) (by rfl) T.g_NotGood rfl) pa_nil))) (pa_cons (pe_callB (call_isP T.E_TooMany.err hp hz hf) (by rfl) T.z_isinstance (by decide +kernel) (pa_cons (pv 0) (pa_cons (pe_glob (v := .ref (He.ga K "NoLeader")) (by rfl) T.g_NoLeader rfl) pa_nil))) pa_nil)))))))
      (pss_cons (ps_set (i := 1) sc_law_turned.nd rfl (Or.inr rfl) (pe_op op_cat (pv 1) (pe_lst (pa_cons (pe_callB (call_isP T.E_TooMany.err hp hz hf) (by rfl) T.z_isinstance (by decide +kernel) (pa_cons (pv 0) (pa_cons (pe_glob (v := .ref (He.ga K "Nobody")) (by rfl) T.g_Nobody rfl) pa_nil))) (pa_cons (pe_callB (call_isP T.E_TooMany.err hp hz hf) (by rfl) T.z_isinstance (by decide +kernel) (pa_cons (pv 0) (pa_cons (pe_glob (v := .ref (He.ga K "TooEarly")) (by rfl) T.g_TooEarly rfl) pa_nil))) (pa_cons (pe_callB (call_isP T.E_TooMany.err hp hz hf) (by rfl) T.z_isinstance (by decide +kernel) (pa_cons (pv 0) (pa_cons (pe_glob (v := .ref (He.ga K "NoRank")) (by rfl) T.g_NoRank rfl) pa_nil))) (pa_cons (pe_callB (call_isP T.E_TooMany.err hp hz hf) (by rfl) T.z_isinstance (by decide +kernel) (pa_cons (pv 0) (pa_cons (pe_glob (v := .ref (He.ga K "NoStep")) (by rfl) T.g_NoStep rfl) pa_nil))) pa_nil)))))))
      (pss_cons (ps_set (i := 1) sc_law_turned.nd rfl (Or.inr rfl) (pe_op op_cat (pv 1) (pe_lst (pa_cons (pe_callB (call_isP T.E_TooMany.err hp hz hf) (by rfl) T.z_isinstance (by decide +kernel) (pa_cons (pv 0) (pa_cons (pe_glob (v := .ref (He.ga K "NoBeat")) (by rfl) T.g_NoBeat rfl) pa_nil))) (pa_cons (pe_callB (call_isP T.E_TooMany.err hp hz hf) (by rfl) T.z_isinstance (by decide +kernel) (pa_cons (pv 0) (pa_cons (pe_glob (v := .ref (He.ga K "NoOrder")) (by rfl) T.g_NoOrder rfl) pa_nil))) (pa_cons (pe_callB (call_isP T.E_TooMany.err hp hz hf) (by rfl) T.z_isinstance (by decide +kernel) (pa_cons (pv 0) (pa_cons (pe_glob (v := .ref (He.ga K "BadWish")) (by rfl) T.g_BadWish rfl) pa_nil))) (pa_cons (pe_callB (call_isP T.E_TooMany.err hp hz hf) (by rfl) T.z_isinstance (by decide +kernel) (pa_cons (pv 0) (pa_cons (pe_glob (v := .ref (He.ga K "BadRow")) (by rfl) T.g_BadRow rfl) pa_nil))) pa_nil)))))))
      (pss_cons (ps_set (i := 1) sc_law_turned.nd rfl (Or.inr rfl) (pe_op op_cat (pv 1) (pe_lst (pa_cons (pe_callB (call_isP T.E_TooMany.err hp hz hf) (by rfl) T.z_isinstance (by decide +kernel) (pa_cons (pv 0) (pa_cons (pe_glob (v := .ref (He.ga K "BadLevels")) (by rfl) T.g_BadLevels rfl) pa_nil))) (pa_cons (pe_callB (call_isP T.E_TooMany.err hp hz hf) (by rfl) T.z_isinstance (by decide +kernel) (pa_cons (pv 0) (pa_cons (pe_glob (v := .ref (He.ga K "BadChain")) (by rfl) T.g_BadChain rfl) pa_nil))) (pa_cons (pe_callB (call_isP T.E_TooMany.err hp hz hf) (by rfl) T.z_isinstance (by decide +kernel) (pa_cons (pv 0) (pa_cons (pe_glob (v := .ref (He.ga K "BadParts")) (by rfl) T.g_BadParts rfl) pa_nil))) (pa_cons (pe_callB (call_isP T.E_TooMany.err hp hz hf) (by rfl) T.z_isinstance (by decide +kernel) (pa_cons (pv 0) (pa_cons (pe_glob (v := .ref (He.ga K "BadPlan")) (by rfl) T.g_BadPlan rfl) pa_nil))) pa_nil)))))))
      (pss_cons (ps_set (i := 1) sc_law_turned.nd rfl (Or.inr rfl) (pe_op op_cat (pv 1) (pe_lst (pa_cons (pe_callB (call_isP T.E_TooMany.err hp hz hf) (by rfl) T.z_isinstance (by decide +kernel) (pa_cons (pv 0) (pa_cons (pe_glob (v := .ref (He.ga K "BadWord")) (by rfl) T.g_BadWord rfl) pa_nil))) (pa_cons (pe_callB (call_isP T.E_TooMany.err hp hz hf) (by rfl) T.z_isinstance (by decide +kernel) (pa_cons (pv 0) (pa_cons (pe_glob (v := .ref (He.ga K "BadText")) (by rfl) T.g_BadText rfl) pa_nil))) (pa_cons (pe_callB (call_isP T.E_TooMany.err hp hz hf) (by rfl) T.z_isinstance (by decide +kernel) (pa_cons (pv 0) (pa_cons (pe_glob (v := .ref (He.ga K "TooMany")) (by rfl) T.g_TooMany rfl) pa_nil))) (pa_cons (pe_callB (call_isP T.E_TooMany.err hp hz hf) (by rfl) T.z_isinstance (by decide +kernel) (pa_cons (pv 0) (pa_cons (pe_glob (v := .ref (He.ga K "BadSize")) (by rfl) T.g_BadSize rfl) pa_nil))) pa_nil)))))))
      (pss_cons (ps_set (i := 2) sc_law_turned.nd rfl (Or.inl rfl) pe_str)
      (pss_cons (ps_set (i := 2) sc_law_turned.nd rfl (Or.inl rfl) (pe_op op_add_str (pv 2) pe_str))
      (pss_cut (ps_set (i := 3) sc_law_turned.nd rfl (Or.inr rfl) (pe_bm PySem.F.plainAttrs_str PySem.F.slot_str_split PySem.F.type_str_split mt_split (pv 2) (pa_cons pe_str pa_nil)))
      (pss_cons (ps_setLcP (i := 4) (own := [("k", 5)]) hotc sc_law_turned.nd rfl rfl (sw_true rfl rfl rfl (by decide +kernel)) (pi_range1H (by rfl) T.z_range (pa_cons (pe_callB call_len_seq (by rfl) T.z_len PySem.boot_len (pa_cons (pv 3) pa_nil)) pa_nil)) (blkOk_by (N := ["e", "kinds", "words", "names", "found", "k"]) (sc := defScope s_law_turned) (by decide +kernel)) (fun _ _ _ _ _ => (pg_name (i := 5) sc_law_turned.nd rfl (Or.inl rfl))) (fun _ _ _ _ _ => (pts_one (pt_val (pe_ix (show IxR _ (rIxL K) from ix_list) (pv 1) (pv 5) (fun _ _ => rfl))))) (fun _ _ _ _ _ => (pe_ix (show IxR _ (rIxL K) from ix_list) (pv 3) (pv 5) (fun _ _ => rfl))))
      (pss_cons (ps_if (PW.pt (pw_or (pt_cmpR op_ne (pe_callB call_len_seq (by rfl) T.z_len PySem.boot_len (pa_cons (pv 4) pa_nil)) pe_int (nomark _)) (pw_or1 (pt_not (pt_val (pe_callB (call_isP T.E_TooMany.err hp hz hf) (by rfl) T.z_isinstance (by decide +kernel) (pa_cons (pv 0) (pa_cons (pe_bltn (v := .ty "ValueError") (by rfl) T.z_ValueError (by decide +kernel) rfl) pa_nil)))))))) (pss_one ps_no) pss_nil)
      (pss_cons (ps_if (pt_cmpR op_eq (pe_ix ix_list (pv 4) pe_int (fun _ _ => rfl)) pe_str (nomark _)) (pss_one (ps_ret (pe_tup (pa_cons (pe_ix ix_list (pv 4) pe_int (fun _ _ => rfl)) (pa_cons (pe_fldP T.E_TooMany.err (T.E_TooMany.no "limit" (by decide +kernel)) hp hz hf (pv 0)) pa_nil))))) pss_nil)
      (pss_cons (ps_if (pt_cmpR op_eq (pe_ix ix_list (pv 4) pe_int (fun _ _ => rfl)) pe_str (nomark _)) (pss_one ps_no) pss_nil)
      (pss_one ps_no)))))))))))))), ?_⟩
    refine ⟨_, rfl, _, _, _, _, rfl, (fun _ h => h), T.K_TooMany "BadOrder" (by decide +kernel), ea0, _, rfl, _, _, _, _, rfl, (fun _ h => h), T.K_TooMany "BadLot" (by decide +kernel), ea0, _, rfl, _, _, _, _, rfl, (fun _ h => h), T.K_TooMany "NoLine" (by decide +kernel), ea0, _, rfl, _, _, _, _, rfl, (fun _ h => h), T.K_TooMany "NoStation" (by decide +kernel), ea0, by decide, fun l0 h0 => ?_⟩
    have s0 := same_new (o := .lst [V.bl (decide (("BadOrder" : Str) = "TooMany")), V.bl (decide (("BadLot" : Str) = "TooMany")), V.bl (decide (("NoLine" : Str) = "TooMany")), V.bl (decide (("NoStation" : Str) = "TooMany"))]) h0
    have e0 := errAt_same ea0 s0
    refine ⟨_, rfl, _, rfl, _, _, _, _, rfl, (fun _ h => h), T.K_TooMany "NoDrive" (by decide +kernel), e0, _, rfl, _, _, _, _, rfl, (fun _ h => h), T.K_TooMany "TwiceCode" (by decide +kernel), e0, _, rfl, _, _, _, _, rfl, (fun _ h => h), T.K_TooMany "NotGood" (by decide +kernel), e0, _, rfl, _, _, _, _, rfl, (fun _ h => h), T.K_TooMany "NoLeader" (by decide +kernel), e0, by decide, fun b1 g1 => ?_⟩
    have t1 := same_new (o := .lst [V.bl (decide (("NoDrive" : Str) = "TooMany")), V.bl (decide (("TwiceCode" : Str) = "TooMany")), V.bl (decide (("NotGood" : Str) = "TooMany")), V.bl (decide (("NoLeader" : Str) = "TooMany"))]) g1
    refine ⟨l0, b1, _, _, rfl, rfl, t1 _ _ upd_same, upd_same, by decide, fun l1 h1 => ?_⟩
    have s1 := (s0.trans t1).trans (same_new (o := .lst [V.bl (decide (("BadOrder" : Str) = "TooMany")), V.bl (decide (("BadLot" : Str) = "TooMany")), V.bl (decide (("NoLine" : Str) = "TooMany")), V.bl (decide (("NoStation" : Str) = "TooMany")), V.bl (decide (("NoDrive" : Str) = "TooMany")), V.bl (decide (("TwiceCode" : Str) = "TooMany")), V.bl (decide (("NotGood" : Str) = "TooMany")), V.bl (decide (("NoLeader" : Str) = "TooMany"))]) h1)
    have e1 := errAt_same ea0 s1
    refine ⟨_, rfl, _, rfl, _, _, _, _, rfl, (fun _ h => h), T.K_TooMany "Nobody" (by decide +kernel), e1, _, rfl, _, _, _, _, rfl, (fun _ h => h), T.K_TooMany "TooEarly" (by decide +kernel), e1, _, rfl, _, _, _, _, rfl, (fun _ h => h), T.K_TooMany "NoRank" (by decide +kernel), e1, _, rfl, _, _, _, _, rfl, (fun _ h => h), T.K_TooMany "NoStep" (by decide +kernel), e1, by decide, fun b2 g2 => ?_⟩
    have t2 := same_new (o := .lst [V.bl (decide (("Nobody" : Str) = "TooMany")), V.bl (decide (("TooEarly" : Str) = "TooMany")), V.bl (decide (("NoRank" : Str) = "TooMany")), V.bl (decide (("NoStep" : Str) = "TooMany"))]) g2
    refine ⟨l1, b2, _, _, rfl, rfl, t2 _ _ upd_same, upd_same, by decide, fun l2 h2 => ?_⟩
    have s2 := (s1.trans t2).trans (same_new (o := .lst [V.bl (decide (("BadOrder" : Str) = "TooMany")), V.bl (decide (("BadLot" : Str) = "TooMany")), V.bl (decide (("NoLine" : Str) = "TooMany")), V.bl (decide (("NoStation" : Str) = "TooMany")), V.bl (decide (("NoDrive" : Str) = "TooMany")), V.bl (decide (("TwiceCode" : Str) = "TooMany")), V.bl (decide (("NotGood" : Str) = "TooMany")), V.bl (decide (("NoLeader" : Str) = "TooMany")), V.bl (decide (("Nobody" : Str) = "TooMany")), V.bl (decide (("TooEarly" : Str) = "TooMany")), V.bl (decide (("NoRank" : Str) = "TooMany")), V.bl (decide (("NoStep" : Str) = "TooMany"))]) h2)
    have e2 := errAt_same ea0 s2
    refine ⟨_, rfl, _, rfl, _, _, _, _, rfl, (fun _ h => h), T.K_TooMany "NoBeat" (by decide +kernel), e2, _, rfl, _, _, _, _, rfl, (fun _ h => h), T.K_TooMany "NoOrder" (by decide +kernel), e2, _, rfl, _, _, _, _, rfl, (fun _ h => h), T.K_TooMany "BadWish" (by decide +kernel), e2, _, rfl, _, _, _, _, rfl, (fun _ h => h), T.K_TooMany "BadRow" (by decide +kernel), e2, by decide, fun b3 g3 => ?_⟩
    have t3 := same_new (o := .lst [V.bl (decide (("NoBeat" : Str) = "TooMany")), V.bl (decide (("NoOrder" : Str) = "TooMany")), V.bl (decide (("BadWish" : Str) = "TooMany")), V.bl (decide (("BadRow" : Str) = "TooMany"))]) g3
    refine ⟨l2, b3, _, _, rfl, rfl, t3 _ _ upd_same, upd_same, by decide, fun l3 h3 => ?_⟩
    have s3 := (s2.trans t3).trans (same_new (o := .lst [V.bl (decide (("BadOrder" : Str) = "TooMany")), V.bl (decide (("BadLot" : Str) = "TooMany")), V.bl (decide (("NoLine" : Str) = "TooMany")), V.bl (decide (("NoStation" : Str) = "TooMany")), V.bl (decide (("NoDrive" : Str) = "TooMany")), V.bl (decide (("TwiceCode" : Str) = "TooMany")), V.bl (decide (("NotGood" : Str) = "TooMany")), V.bl (decide (("NoLeader" : Str) = "TooMany")), V.bl (decide (("Nobody" : Str) = "TooMany")), V.bl (decide (("TooEarly" : Str) = "TooMany")), V.bl (decide (("NoRank" : Str) = "TooMany")), V.bl (decide (("NoStep" : Str) = "TooMany")), V.bl (decide (("NoBeat" : Str) = "TooMany")), V.bl (decide (("NoOrder" : Str) = "TooMany")), V.bl (decide (("BadWish" : Str) = "TooMany")), V.bl (decide (("BadRow" : Str) = "TooMany"))]) h3)
    have e3 := errAt_same ea0 s3
    refine ⟨_, rfl, _, rfl, _, _, _, _, rfl, (fun _ h => h), T.K_TooMany "BadLevels" (by decide +kernel), e3, _, rfl, _, _, _, _, rfl, (fun _ h => h), T.K_TooMany "BadChain" (by decide +kernel), e3, _, rfl, _, _, _, _, rfl, (fun _ h => h), T.K_TooMany "BadParts" (by decide +kernel), e3, _, rfl, _, _, _, _, rfl, (fun _ h => h), T.K_TooMany "BadPlan" (by decide +kernel), e3, by decide, fun b4 g4 => ?_⟩
    have t4 := same_new (o := .lst [V.bl (decide (("BadLevels" : Str) = "TooMany")), V.bl (decide (("BadChain" : Str) = "TooMany")), V.bl (decide (("BadParts" : Str) = "TooMany")), V.bl (decide (("BadPlan" : Str) = "TooMany"))]) g4
    refine ⟨l3, b4, _, _, rfl, rfl, t4 _ _ upd_same, upd_same, by decide, fun l4 h4 => ?_⟩
    have s4 := (s3.trans t4).trans (same_new (o := .lst [V.bl (decide (("BadOrder" : Str) = "TooMany")), V.bl (decide (("BadLot" : Str) = "TooMany")), V.bl (decide (("NoLine" : Str) = "TooMany")), V.bl (decide (("NoStation" : Str) = "TooMany")), V.bl (decide (("NoDrive" : Str) = "TooMany")), V.bl (decide (("TwiceCode" : Str) = "TooMany")), V.bl (decide (("NotGood" : Str) = "TooMany")), V.bl (decide (("NoLeader" : Str) = "TooMany")), V.bl (decide (("Nobody" : Str) = "TooMany")), V.bl (decide (("TooEarly" : Str) = "TooMany")), V.bl (decide (("NoRank" : Str) = "TooMany")), V.bl (decide (("NoStep" : Str) = "TooMany")), V.bl (decide (("NoBeat" : Str) = "TooMany")), V.bl (decide (("NoOrder" : Str) = "TooMany")), V.bl (decide (("BadWish" : Str) = "TooMany")), V.bl (decide (("BadRow" : Str) = "TooMany")), V.bl (decide (("BadLevels" : Str) = "TooMany")), V.bl (decide (("BadChain" : Str) = "TooMany")), V.bl (decide (("BadParts" : Str) = "TooMany")), V.bl (decide (("BadPlan" : Str) = "TooMany"))]) h4)
    have e4 := errAt_same ea0 s4
    refine ⟨_, rfl, _, rfl, _, _, _, _, rfl, (fun _ h => h), T.K_TooMany "BadWord" (by decide +kernel), e4, _, rfl, _, _, _, _, rfl, (fun _ h => h), T.K_TooMany "BadText" (by decide +kernel), e4, _, rfl, _, _, _, _, rfl, (fun _ h => h), T.K_TooMany "TooMany" (by decide +kernel), e4, _, rfl, _, _, _, _, rfl, (fun _ h => h), T.K_TooMany "BadSize" (by decide +kernel), e4, by decide, fun b5 g5 => ?_⟩
    have t5 := same_new (o := .lst [V.bl (decide (("BadWord" : Str) = "TooMany")), V.bl (decide (("BadText" : Str) = "TooMany")), V.bl (decide (("TooMany" : Str) = "TooMany")), V.bl (decide (("BadSize" : Str) = "TooMany"))]) g5
    refine ⟨l4, b5, _, _, rfl, rfl, t5 _ _ upd_same, upd_same, by decide, fun l5 h5 => ?_⟩
    have s5 := (s4.trans t5).trans (same_new (o := .lst [V.bl (decide (("BadOrder" : Str) = "TooMany")), V.bl (decide (("BadLot" : Str) = "TooMany")), V.bl (decide (("NoLine" : Str) = "TooMany")), V.bl (decide (("NoStation" : Str) = "TooMany")), V.bl (decide (("NoDrive" : Str) = "TooMany")), V.bl (decide (("TwiceCode" : Str) = "TooMany")), V.bl (decide (("NotGood" : Str) = "TooMany")), V.bl (decide (("NoLeader" : Str) = "TooMany")), V.bl (decide (("Nobody" : Str) = "TooMany")), V.bl (decide (("TooEarly" : Str) = "TooMany")), V.bl (decide (("NoRank" : Str) = "TooMany")), V.bl (decide (("NoStep" : Str) = "TooMany")), V.bl (decide (("NoBeat" : Str) = "TooMany")), V.bl (decide (("NoOrder" : Str) = "TooMany")), V.bl (decide (("BadWish" : Str) = "TooMany")), V.bl (decide (("BadRow" : Str) = "TooMany")), V.bl (decide (("BadLevels" : Str) = "TooMany")), V.bl (decide (("BadChain" : Str) = "TooMany")), V.bl (decide (("BadParts" : Str) = "TooMany")), V.bl (decide (("BadPlan" : Str) = "TooMany")), V.bl (decide (("BadWord" : Str) = "TooMany")), V.bl (decide (("BadText" : Str) = "TooMany")), V.bl (decide (("TooMany" : Str) = "TooMany")), V.bl (decide (("BadSize" : Str) = "TooMany"))]) h5)
    have e5 := errAt_same ea0 s5
    refine ⟨_, rfl, _, _, rfl, rfl, by decide +kernel, ?_⟩
    refine ⟨fun σ' G => ∃ (l5 nl : Addr) (y2 : Option V), σ' = [some (.ref p.1), some (.ref l5), y2, some (.ref nl), none, none] ∧ Same H G ∧ G l5 = some (.lst (errs.map fun x : Str => V.bl (decide (x = "TooMany")))) ∧ G nl = some (.lst (errs.map V.str)), ?_, ?_⟩
    · refine ⟨_, rfl, rfl, _, _, rfl, rfl, by decide +kernel, by decide +kernel, fun nl hnl => ?_⟩
      rw [words_split]
      exact ⟨l5, nl, _, rfl, s5.trans (same_new hnl), same_new hnl _ _ upd_same, upd_same⟩
    rintro σ' G ⟨l5, nl, y2, rfl, sn, kn, nn⟩
    refine ⟨_, rfl, nl, _, rfl, Or.inl (SqL.of nn), _, rfl, by decide, by decide, fun l hl => ?_⟩
    refine lcN (n := (errs.map V.str).length) (fun i G2 => Nw G G2 l (.lst (((errs.take i).filter fun x : Str => decide (x = "TooMany")).map V.str))) (Nw.mk0 hl) (fun i G2 hi nw => ?_) (fun G2 nw => ?_)
    · rw [List.length_map] at hi
      have gi : errs[i]? = some errs[i] := List.getElem?_eq_getElem hi
      have gk : (errs.map fun x : Str => V.bl (decide (x = "TooMany")))[i]? = some (.bl (decide (errs[i] = "TooMany"))) := by rw [List.getElem?_map, gi]; rfl
      have gn : (errs.map V.str)[i]? = some (.str errs[i]) := by rw [List.getElem?_map, gi]; rfl
      refine ⟨rfl, _, rfl, _, rfl, rdV (nw.same _ _ kn) gk ⟨_, rfl, iteD (fun c => ?_) (fun c => ?_)⟩⟩
      · refine ⟨_, rfl, _, rfl, rdV (nw.same _ _ nn) gn ⟨_, nw.at_, ?_, ?_⟩⟩
        · have := List.length_filter_le (fun x => decide (x = ("TooMany" : Str))) (errs.take i)
          rw [List.length_take] at this
          rw [List.length_map, sizeLine_eq]
          have : errs.length = 24 := rfl
          omega
        · rw [filter_take_succ _ gi, if_pos (decide_eq_true c), List.map_append]
          exact nw.put
      · rw [filter_take_succ _ gi, if_neg (by rw [decide_eq_false c]; exact Bool.false_ne_true), List.append_nil]
        exact nw
    · rw [List.length_map, List.take_length] at nw
      have fe : (errs.filter fun x : Str => decide (x = "TooMany")).map V.str = [V.str "TooMany"] := by kernel_rfl
      rw [fe] at nw
      refine ⟨_, rfl, l, _, rfl, Or.inl (SqL.of nw.at_), rfl, _, rfl, iteN (fun h => absurd rfl h) (fun _ => ?_)⟩
      have eG := errAt_same (errAt_same ea0 sn) nw.same
      refine ⟨_, rfl, _, _, true, _, rfl, (fun _ h => h), T.V_TooMany, eG, _, rfl, ?_⟩
      refine iteB (fun h => nomatch h) (fun _ => ?_)
      refine ⟨_, rfl, tc (rd0 nw.at_ rfl ⟨rfl, _, rfl, iteD (fun _ => ?_) (fun h => absurd rfl h)⟩)⟩
      refine ⟨_, rfl, tc (rd0 nw.at_ rfl ⟨_, rfl, _, _, rfl, eG, rfl, by show 2 ≤ _; rw [sizeLine_eq]; decide, fun q hq => ?_⟩)⟩
      refine k _ q ?_ ((sn.trans nw.same).trans (same_new hq)) upd_same
      exact (sn.trans nw.same).free hq
end
end Q

set_option Elab.async false
set_option linter.all false
set_option maxRecDepth 100000
set_option maxHeartbeats 2000000
namespace Q
open PySem PySem.Spec PyProof.Rows L2 Hx Er Kt Mb Mu L2H LamX
section
variable {w : World} {K : PySem.W.Frag} {mg : Str → Option Value} {base : Heap}
/-- what a caught error is turned into -/
def spAsk (K : PySem.W.Frag) : Addr → Value → Option Addr → Sp := fun a c d vs H Q E => spTu K "BadLot" "lot" a c d vs H Q E ∨ spTu K "TooMany" "limit" a c d vs H Q E
theorem sc_law_asks : FnScope ["call", "e"] ["call"] (defScope s_law_asks) := ⟨rfl, rfl, rfl, by decide +kernel, rfl, by decide +kernel, by decide +kernel⟩
theorem turned_all (T : Txt K mg) : ∃ fd, FnP pw w K mg base (L2N.CX pw w) 1 (He.ga K "_law_turned") fd ["e"] (spAsk K) ∧ Binds K fd ["e"] [] ∧ PySem.W.keepIn K (.ref (He.ga K "_law_turned")) = true := by
  obtain ⟨fd, G⟩ := T.F__law_turned
  obtain ⟨oc, od, dV, kV, doc, pm, an, cdv, ct, osl, rfl, lk, hcd, hd, hk⟩ := G.ex
  refine ⟨_, FnP_or (turned_BadLot T lk hcd) (turned_TooMany T lk hcd), ?_, G.kp⟩
  refine .all fun us hl => ?_
  have e : dV = .none := by
    rcases hd with ⟨_, h⟩ | ⟨h, _⟩
    · exact h
    · exact absurd rfl h
  subst e
  exact match us, hl with | [_], _ => rfl
/-- the lambdas' names -/
def lamQ (x : Str) : Str := (envOfC x { kind := .function, names := [], isGenerator := false, isCoroutine := false } 0 0 .none).qual ++ "<lambda>"
theorem lamQ_eq (x : Str) (sc : Scope) (a f : Addr) (cd : Value) : (envOfC x sc a f cd).qual ++ "<lambda>" = lamQ x := rfl
/-- asks(lambda: body) -/
theorem pe_ask {N : List Str} {q : Str} {sc0 : Scope} {f : Addr} {c P : Addr} {A : Around} {outer : List Env} {s : Shared} {H : Hp} {E : XK} {j : Nat} {TT : List (Addr × Str)} {params : Arguments} {body : Expr} {sc : Scope} {t : XK → TE} {p lpos pos : Pos} (T : Txt K mg) (TB : TabB base mg c P)
    (hr : Room j (A.deeper (envOfC q sc0 s.heap.objs.size f (.ref c)))) (hj : 10 ≤ j)
    (hmT : (P, lamQ q) ∈ TT) (hu : ∀ p ∈ TT, p.1 = P → p.2 = lamQ q)
    (hbody : ∀ (A' : Around) (outer' : List Env) (s' : Shared) (H' : Hp) (E' : XK) (f' c' : Addr), Room 8 (A'.deeper (lamEnv (cxOf (L2N.CX pw w) pw w K mg base N q sc0 f (.ref c) A outer s H E) sc s'.heap.objs.size f' c')) → PE (Lg.lamC (L2N.CX pw w) (cxOf (L2N.CX pw w) pw w K mg base N q sc0 f (.ref c) A outer s H E) A' outer' s' H' E' sc f' c') body (t E'))
    (hg : Gl (cxOf (L2N.CX pw w) pw w K mg base N q sc0 f (.ref c) A outer s H E) "_law_asks" := by rfl) (L : LamS sc0 sc := by exact lamS_by (by decide +kernel))
    (hdef : defaultsOf params (cxOf (L2N.CX pw w) pw w K mg base N q sc0 f (.ref c) A outer s H E).env = ([], []) := by rfl)
    (hbind : ∀ (q : Str) (cl : List (Str × Addr)) (pm cv ctv : Value), bindArgs (PySem.W.kla_fn "<lambda>" q params body sc cl pm cv ctv) ⟨[], []⟩ = pure [] := by intro _ _ _ _ _; rfl) :
    PE (cxOf (L2N.CX pw w) pw w K mg base N q sc0 f (.ref c) A outer s H E) (.Call (.Name "_law_asks" p) [.Lambda params body sc lpos] [] pos) (tLam TT (TTask K (He.ga K "BusError") "told" (spAsk K)) t) := by
  obtain ⟨fd, G⟩ := T.F__law_asks
  obtain ⟨oc, od, dV, kV, doc, pm, an, cdv, ct, osl, rfl, lk, hcd, hd, hk⟩ := G.ex
  have e : dV = .none := by
    rcases hd with ⟨_, h⟩ | ⟨h, _⟩
    · exact h
    · exact absurd rfl h
  subst e
  obtain ⟨fdT, F, hbT, hkT⟩ := turned_all (w := w) (base := base) T
  exact Lg.pe_lamcallC (CX := L2N.CX pw w) (CXg := CX0) (fun _ _ _ _ _ h => h) (x := "_law_asks") (a := "call") (k := 8) hg T.g__law_asks G.kp lk hcd (.all fun us hl => match us, hl with | [_], _ => rfl) sc_law_asks rfl (Or.inl rfl)
    (ask_gives (p13 := p) (cstr := .none) (k := 8) (y := "BusError") (x := "_law_turned") (e := "e") (by rfl) T.g_BusError (by decide) (by rfl) T.g__law_turned hkT (by decide) F (by decide) hbT sc_law_asks.nd rfl rfl (by decide) (by decide) (fun _ => rfl))
    TB rfl (lamQ_eq q sc0 s.heap.objs.size f (.ref c) ▸ hmT) (lamQ_eq q sc0 s.heap.objs.size f (.ref c) ▸ hu) (hr.mono hj) L hdef hbind hbody
end
end Q
namespace Q
open PySem PySem.Spec PyProof.Rows L2 Hx Er Kt
theorem passC {P : Program} {w : World} {K : PySem.W.Frag} {mg : Str → Option Value} {base : Heap} {N : List Str} {q : Str} {sc0 : Scope} {f : Addr} {cd : Value} {A : Around} {outer : List Env} {s : Shared} {H : Hp} {E : XK} {A' : Around} {outer' : List Env} {s' : Shared} {H' : Hp} {E' : XK} {sc : Scope} {f' c' : Addr} :
    Passes (L2N.CX P w) (Lg.lamC (L2N.CX P w) (cxOf (L2N.CX P w) P w K mg base N q sc0 f cd A outer s H E) A' outer' s' H' E' sc f' c') E' := L2N.passes_call (L2N.takes_of rfl rfl rfl rfl) fun _ _ _ _ h => h
end Q

set_option Elab.async false
set_option linter.all false
set_option maxRecDepth 100000
set_option maxHeartbeats 2000000
namespace Q
open PySem PySem.Spec PyProof.Rows L2 Hx Er Kt Mb Mu L2H LamX
section
variable {w : World} {K : PySem.W.Frag} {mg : Str → Option Value} {base : Heap}
/-- the tables of the two defs that make lambdas -/
def tabs (K : PySem.W.Frag) : List (Addr × Str) := [((He.cT K ("_law_refused", none)).2, lamQ "_law_refused"), ((He.cT K ("_law_order_told", none)).2, lamQ "_law_order_told")]
theorem tabS_mono {G G' : Hp} {P : Addr} {q : Str} (t : TabS G P q) (e : ∀ b o, G b = some o → (∀ xs, o ≠ .lst xs) → G' b = some o) : TabS G' P q := by
  obtain ⟨ps, h1, h2, h3⟩ := t
  refine ⟨ps, e _ _ h1 (fun _ h => nomatch h), h2, fun pos cv hc => ?_⟩
  obtain ⟨c, e1, e2⟩ := h3 pos cv hc
  exact ⟨c, e1, e _ _ e2 (fun _ h => nomatch h)⟩
theorem tabs_mono {T : List (Addr × Str)} {G G' : Hp} (t : Tabs T G) (e : ∀ b o, G b = some o → (∀ xs, o ≠ .lst xs) → G' b = some o) : Tabs T G' := fun p hp => tabS_mono (t p hp) e
/-- a list laid on the way: the heap before is kept but for tables, the tables stand -/
structure Te (K : PySem.W.Frag) (H G : Hp) (l : Addr) (o : HO) : Prop where
  no : ∀ u, H l = some u → (∀ ps, u ≠ .tbl ps) → False
  ext : ExtN H G
  tab : Tabs (tabs K) G
  at_ : G l = some o
theorem Te.mk0 {H G : Hp} {l : Addr} {o : HO} (e : ExtN H G) (t : Tabs (tabs K) G) (h : G l = none) : Te K H (upd G l o) l o := by
  refine ⟨fun u hu hn => ?_, fun b u hb hn => ?_, t.ext (same_new h), upd_same⟩
  · have := e l u hu hn
    rw [h] at this
    cases this
  · exact same_new h _ _ (e b u hb hn)
theorem Te.put {H G : Hp} {l : Addr} {xs : List V} {u : HO} (t : Te K H G l (.lst xs)) : Te K H (upd G l u) l u := by
  refine ⟨t.no, fun b q hb hn => ?_, tabs_mono t.tab fun b q hb hn => ?_, upd_same⟩
  · have : b ≠ l := fun e => t.no q (e ▸ hb) hn
    rw [upd_ne this]
    exact t.ext b q hb hn
  · have : b ≠ l := fun e => by
      rw [e, t.at_] at hb
      exact hn xs (Option.some.inj hb).symm
    rw [upd_ne this]
    exact hb
theorem Te.more {H G G1 : Hp} {l : Addr} {xs : List V} (t : Te K H G l (.lst xs)) (e : ExtN G G1) (t1 : Tabs (tabs K) G1) : Te K H G1 l (.lst xs) := ⟨t.no, t.ext.trans e, t1, e _ _ t.at_ (fun _ h => nomatch h)⟩
theorem ordAt_ext {H H' : Hp} {o : Addr} {n : Nat} {us : List Nat} (h : OrdAt K H o n us) (e : ExtN H H') : OrdAt K H' o n us := by
  obtain ⟨dx, u, l, r, d, h1, h2⟩ := h
  exact ⟨dx, u, l, r, d, e _ _ h1 (fun _ h => nomatch h), e _ _ h2 (fun _ h => nomatch h)⟩
/-- what an ask makes of an error -/
def askE (K : PySem.W.Frag) (Q : VK) : XK := fun cls d H' => ∃ b, PySem.W.exmOne K cls (.ref (He.ga K "BusError")) = some b ∧ (b = true → ∀ a, H' a = none → spAsk K a cls d [.ref a] H' Q E0) ∧ (b = false → False)
theorem bad_lot (T : Txt K mg) {i : Int} {H : Hp} {Q : VK} (k : ∀ H' p, Same H H' → H' p = some (.tup [.str "BadLot", .int i]) → Q (.ref p) H') : bad K "BadLot" "lot" i H (askE K Q) := fun d hd =>
  ⟨true, T.x_BadLot, fun _ a ha => Or.inl ⟨rfl, i, rfl, ⟨d, rfl, upd_same⟩, fun H' p _ s hp => k H' p ((same_new hd).trans s) hp⟩, fun h => nomatch h⟩
theorem bad_many (T : Txt K mg) {H : Hp} {Q : VK} (k : ∀ H' p, Same H H' → H' p = some (.tup [.str "TooMany", .int 7]) → Q (.ref p) H') : bad K "TooMany" "limit" 7 H (askE K Q) := fun d hd =>
  ⟨true, T.x_TooMany, fun _ a ha => Or.inr ⟨rfl, 7, rfl, ⟨d, rfl, upd_same⟩, fun H' p _ s hp => k H' p ((same_new hd).trans s) hp⟩, fun h => nomatch h⟩
def TupB (G : Hp) (q : Addr) (z : Int) : Prop := G q = some (.tup [.str "BadLot", .int z])
theorem dq_lists {G : Hp} {a b : Addr} {ps qs : List Addr} {zs : List Int} (ha : G a = some (.lst (ps.map V.ref))) (hb : G b = some (.lst (qs.map V.ref))) (h1 : Al2 (TupB G) ps zs) (h2 : Al2 (TupB G) qs zs) (hz : zs.length ≤ 1000) : DQ G 3 (.ref a) (.ref b) := by
  refine .lst ha hb (by rw [List.length_map, List.length_map, h1.1, h2.1]) (by rw [List.length_map, h1.1]; exact hz) fun i x y hx hy => ?_
  obtain ⟨p, hp, rfl⟩ := ref_get hx
  obtain ⟨q, hq, rfl⟩ := ref_get hy
  have hi : i < zs.length := by
    rw [← h1.1]
    exact (List.getElem?_eq_some_iff.mp hp).1
  have hz := List.getElem?_eq_getElem hi
  refine .tup (h1.2 i p _ hp hz) (h2.2 i q _ hq hz) rfl (by show 2 ≤ 1000; decide) fun j x y hx hy => ?_
  match j, hx, hy with
  | 0, hx, hy =>
    obtain rfl := Option.some.inj hx
    obtain rfl := Option.some.inj hy
    exact .str 0 _
  | 1, hx, hy =>
    obtain rfl := Option.some.inj hx
    obtain rfl := Option.some.inj hy
    exact .int 0 _
theorem Al2.ext {G G' : Hp} {ps : List Addr} {zs : List Int} (h : Al2 (TupB G) ps zs) (e : ExtN G G') : Al2 (TupB G') ps zs := h.mono fun _ _ h => e _ _ h (fun _ h => nomatch h)
theorem Al2.upd {G : Hp} {l : Addr} {xs : List V} {o : HO} {ps : List Addr} {zs : List Int} (hl : G l = some (.lst xs)) (h : Al2 (TupB G) ps zs) : Al2 (TupB (upd G l o)) ps zs := h.mono fun _ _ h => upd_tup hl _ _ h
theorem sc_law_refused : FnScope ["order", "e", "c", "wrong", "told", "k"] ["order", "e", "c", "wrong"] (defScope s_law_refused) := ⟨rfl, rfl, rfl, by decide +kernel, rfl, by decide +kernel, by decide +kernel⟩
def spRef (K : PySem.W.Frag) : Sp := fun vs H Q _ => ∃ (o wr : Addr) (n e c : Nat) (us : List Nat) (z0 z1 : Int), vs = [.ref o, nV e, nV c, .ref wr] ∧ OrdAt K H o n us ∧ us.length = n ∧ n ≤ 64 ∧ e < 2 ^ n ∧ c < 2 ^ n ∧ H wr = some (.lst [.int z0, .int z1]) ∧ ¬inR n z0 ∧ smallI z0 ∧ ¬inR n z1 ∧ smallI z1 ∧ Tabs (tabs K) H ∧
  ∀ H', ExtN H H' → Tabs (tabs K) H' → Q (.bl true) H'
theorem refused_ok (T : Txt K mg) (TBs : ∀ x, x ∈ tf → TabB base mg (He.cT K x).1 (He.cT K x).2) : OkF pw w K mg base "_law_refused" 20 ["order", "e", "c", "wrong"] (spRef K) := by
  have G_middle_codes := middle_codes_ok (w := w) (base := base) T
  have G_beats := beats_ok (w := w) (base := base) T
  have G_law_equal := equal_ok (w := w) (base := base) T 3
  have TB := TBs ("_law_refused", none) (by decide +kernel)
  have hu : ∀ p ∈ tabs K, p.1 = (He.cT K ("_law_refused", none)).2 → p.2 = lamQ "_law_refused" := fun p hp e => by
    rcases List.mem_cons.mp hp with h | h
    · rw [h]
    · have h := List.mem_singleton.mp h
      rw [h] at e
      exact absurd e.symm T.tab_ne0
  have hmem : ((He.cT K ("_law_refused", none)).2, lamQ "_law_refused") ∈ tabs K := List.mem_cons_self
  refine mkOkT (k := 19) T.F__law_refused T.g__law_refused (fun _ _ _ _ _ _ _ us hl => match us, hl with | [_, _, _, _], _ => rfl) sc_law_refused (fun vs H Q E h => ?_) (fun f A outer s H vs Q E hr h => ?_)
  · obtain ⟨o, wr, n, e, c, us, z0, z1, rfl, _⟩ := h
    rfl
  · obtain ⟨o, wr, n, e, c, us, z0, z1, rfl, ho, hl, hn, he, hc, hw, b0, s0, b1, s1, hT, k⟩ := h
    have nt : ∀ xs : List V, ∀ ps, HO.lst xs ≠ .tbl ps := fun _ _ h => nomatch h
    refine ⟨_, (pss_cons (ps_set (i := 4) sc_law_refused.nd rfl (Or.inl rfl) (pe_lst (pa_cons (pe_ask T TB hr (by decide) (TT := tabs K) hmem hu (fun _ _ _ _ _ _ _ hr2 => (cl G_middle_codes hr2 (pa_cons (pv 0) (pa_cons (pe_ix (show IxR _ (rIxL K) from ix_list) (pv 3) pe_int (fun _ _ => rfl)) (pa_cons (pe_ix (show IxR _ (rIxL K) from ix_list) (pv 3) pe_int (fun _ _ => rfl)) pa_nil))) (hx := passC)))) pa_nil)))
      (pss_cons (ps_expr (pe_bm PySem.F.plainAttrs_list PySem.F.slot_list_append PySem.F.type_list_append mt_append (pv 4) (pa_cons (pe_ask T TB hr (by decide) (TT := tabs K) hmem hu (fun _ _ _ _ _ _ _ hr2 => (cl G_middle_codes hr2 (pa_cons (pv 0) (pa_cons (pe_ix (show IxR _ (rIxL K) from ix_list) (pv 3) pe_int (fun _ _ => rfl)) (pa_cons (pv 2) pa_nil))) (hx := passC)))) pa_nil)))
      (pss_cons (ps_expr (pe_bm PySem.F.plainAttrs_list PySem.F.slot_list_append PySem.F.type_list_append mt_append (pv 4) (pa_cons (pe_ask T TB hr (by decide) (TT := tabs K) hmem hu (fun _ _ _ _ _ _ _ hr2 => (cl G_middle_codes hr2 (pa_cons (pv 0) (pa_cons (pv 1) (pa_cons (pe_ix (show IxR _ (rIxL K) from ix_list) (pv 3) pe_int (fun _ _ => rfl)) pa_nil))) (hx := passC)))) pa_nil)))
      (pss_cons (ps_expr (pe_bm PySem.F.plainAttrs_list PySem.F.slot_list_append PySem.F.type_list_append mt_append (pv 4) (pa_cons (pe_ask T TB hr (by decide) (TT := tabs K) hmem hu (fun _ _ _ _ _ _ _ hr2 => (cl G_beats hr2 (pa_cons (pv 0) (pa_cons (pe_ix (show IxR _ (rIxL K) from ix_list) (pv 3) pe_int (fun _ _ => rfl)) (pa_cons (pe_ix (show IxR _ (rIxL K) from ix_list) (pv 3) pe_int (fun _ _ => rfl)) pa_nil))) (hx := passC)))) pa_nil)))
      (pss_one (ps_ret (cl G_law_equal hr (pa_cons (pv 4) (pa_cons (pe_lc (own := [("k", 5)]) rfl sc_law_refused.nd (pi_list (pe_lst (pa_cons pe_int (pa_cons pe_int (pa_cons pe_int (pa_cons pe_int pa_nil)))))) (blkOk_by (N := ["order", "e", "c", "wrong", "told", "k"]) (sc := defScope s_law_refused) (by decide +kernel)) (fun _ _ _ _ _ => (pg_name (i := 5) sc_law_refused.nd rfl (Or.inl rfl))) (fun _ _ _ _ _ => pts_nil) (fun _ _ _ _ _ => (pe_tup (pa_cons pe_str (pa_cons (pe_ix (show IxR _ (rIxL K) from ix_list) (pv 3) (pv 5) (fun _ _ => rfl)) pa_nil))))) pa_nil))))))))), ?_⟩
    refine ⟨hT, fun H1 eN T1 => ?_⟩
    have w1 := eN _ _ hw (nt _)
    refine ⟨_, rfl, _, rfl, tc (rd0 w1 rfl ⟨_, rfl, tc (rd0 w1 rfl (tnil ⟨o, n, us, z0, z1, rfl, ordAt_ext ho eN, hl, hn, s0, s1, fun e' c' h1 _ h3 => absurd (h1 ▸ inR_nat.mpr h3) b0, fun h => absurd h b0, fun _ => bad_lot T fun G1 p1 g1 hp1 => ?_, fun h => absurd h b0⟩))⟩)⟩
    refine ⟨by show 1 ≤ _; rw [sizeLine_eq]; decide, fun l hl0 => ?_⟩
    have te1 := Te.mk0 (o := .lst [V.ref p1]) (eN.trans (ExtN.of g1)) (T1.ext g1) hl0
    have al1 : Al2 (TupB (upd G1 l (.lst [V.ref p1]))) [p1] [z0] := Al2.nil.snoc (a := p1) (p := z0) (same_new hl0 _ _ hp1)
    refine ⟨.ref l, rfl, Or.inl ⟨rfl, _, SqL.of te1.at_⟩, te1.tab, fun H2 e2 T2 => ?_⟩
    have w2 := (te1.ext.trans e2) _ _ hw (nt _)
    have ho2 := ordAt_ext ho (te1.ext.trans e2)
    refine ⟨_, rfl, _, rfl, tc (rd0 w2 rfl ⟨_, rfl, tnil ⟨o, n, us, z1, c, rfl, ho2, hl, hn, s1, smallW hn hc, fun e' c' h1 _ h3 => absurd (h1 ▸ inR_nat.mpr h3) b1, fun h => absurd h b1, fun _ => bad_lot T fun G2 p2 g2 hp2 => ?_, fun h => absurd h b1⟩⟩)⟩
    have tm2 := te1.more (e2.trans (ExtN.of g2)) (T2.ext g2)
    refine ⟨l, _, _, rfl, rfl, tm2.at_, by show 1 < _; rw [sizeLine_eq]; decide, ?_⟩
    have te2 := tm2.put (u := .lst ([V.ref p1] ++ [V.ref p2]))
    have al2 := ((Al2.upd (o := .lst ([V.ref p1] ++ [V.ref p2])) tm2.at_ (Al2.ext al1 (e2.trans (ExtN.of g2)))).snoc (a := p2) (p := z1) (upd_tup tm2.at_ _ _ hp2))
    refine ⟨.ref l, rfl, Or.inl ⟨rfl, _, SqL.of te2.at_⟩, te2.tab, fun H3 e3 T3 => ?_⟩
    have w3 := (te2.ext.trans e3) _ _ hw (nt _)
    have ho3 := ordAt_ext ho (te2.ext.trans e3)
    refine ⟨_, rfl, _, rfl, _, rfl, tc (rd0 w3 rfl (tnil ⟨o, n, us, e, z1, rfl, ho3, hl, hn, smallW hn he, s1, fun e' c' _ h2 _ h4 => absurd (h2 ▸ inR_nat.mpr h4) b1, fun _ h => absurd h b1, fun h => absurd (inR_nat.mpr he) h, fun _ _ => bad_lot T fun G3 p3 g3 hp3 => ?_⟩))⟩
    have tm3 := te2.more (e3.trans (ExtN.of g3)) (T3.ext g3)
    refine ⟨l, _, _, rfl, rfl, tm3.at_, by show 2 < _; rw [sizeLine_eq]; decide, ?_⟩
    have te3 := tm3.put (u := .lst ([V.ref p1, V.ref p2] ++ [V.ref p3]))
    have al3 := ((Al2.upd (o := .lst ([V.ref p1, V.ref p2] ++ [V.ref p3])) tm3.at_ (Al2.ext al2 (e3.trans (ExtN.of g3)))).snoc (a := p3) (p := z1) (upd_tup tm3.at_ _ _ hp3))
    refine ⟨.ref l, rfl, Or.inl ⟨rfl, _, SqL.of te3.at_⟩, te3.tab, fun H4 e4 T4 => ?_⟩
    have w4 := (te3.ext.trans e4) _ _ hw (nt _)
    have ho4 := ordAt_ext ho (te3.ext.trans e4)
    refine ⟨_, rfl, _, rfl, tc (rd0 w4 rfl ⟨_, rfl, tc (rd0 w4 rfl (tnil ⟨o, n, us, z1, z0, rfl, ho4, hl, hn, s1, s0, fun c' e' h1 _ h3 => absurd (h1 ▸ inR_nat.mpr h3) b1, fun _ => bad_lot T fun G4 p4 g4 hp4 => ?_, fun h => absurd h b1⟩))⟩)⟩
    have tm4 := te3.more (e4.trans (ExtN.of g4)) (T4.ext g4)
    refine ⟨l, _, _, rfl, rfl, tm4.at_, by show 3 < _; rw [sizeLine_eq]; decide, ?_⟩
    have te4 := tm4.put (u := .lst ([V.ref p1, V.ref p2, V.ref p3] ++ [V.ref p4]))
    have al4 := ((Al2.upd (o := .lst ([V.ref p1, V.ref p2, V.ref p3] ++ [V.ref p4])) tm4.at_ (Al2.ext al3 (e4.trans (ExtN.of g4)))).snoc (a := p4) (p := z1) (upd_tup tm4.at_ _ _ hp4))
    refine ⟨_, rfl, by show 4 ≤ _; rw [sizeLine_eq]; decide, fun kl hkl => ⟨kl, rfl, ⟨_, SqL.of upd_same⟩, fun l2 hl2 => ?_⟩⟩
    have tk := te4.more (ExtN.of (same_new (o := .lst [V.int 0, V.int 1, V.int 1, V.int 1]) hkl)) (te4.tab.ext (same_new hkl))
    have wk := tk.ext _ _ hw (nt _)
    have hpick : ∀ (i : Nat) (x : V), ([V.int 0, V.int 1, V.int 1, V.int 1] : List V)[i]? = some x → ∃ (kk z : Int), x = .int kk ∧ atI [V.int z0, V.int z1] kk = some (.int z) ∧ [z0, z1, z1, z1][i]? = some z := fun i x hx => by
      match i, hx with
      | 0, hx => exact ⟨0, z0, (Option.some.inj hx).symm, rfl, rfl⟩
      | 1, hx => exact ⟨1, z1, (Option.some.inj hx).symm, rfl, rfl⟩
      | 2, hx => exact ⟨1, z1, (Option.some.inj hx).symm, rfl, rfl⟩
      | 3, hx => exact ⟨1, z1, (Option.some.inj hx).symm, rfl, rfl⟩
    refine lc_list (K := K) (a := kl) (xs := [V.int 0, V.int 1, V.int 1, V.int 1]) (fun i G => ∃ qs : List Addr, Nw (upd _ kl (.lst [V.int 0, V.int 1, V.int 1, V.int 1])) G l2 (.lst (qs.map V.ref)) ∧ Al2 (TupB G) qs ([z0, z1, z1, z1].take i)) ⟨[], Nw.mk0 hl2, .nil⟩ (fun i G _ ⟨_, z, _⟩ => SqL.of (z.same _ _ upd_same)) (fun i x G hi z => ?_) (fun G z => ?_)
    · obtain ⟨qs, nw, al⟩ := z
      obtain ⟨kk, z, rfl, hat, hzz⟩ := hpick i x hi
      have hi4 := (List.getElem?_eq_some_iff.mp hi).1
      have hqs : qs.length ≤ 4 := by
        rw [al.1, List.length_take]
        exact Nat.min_le_right _ _
      refine ⟨rfl, _, rfl, _, rfl, rd0 (nw.same _ _ wk) hat ⟨by show 2 ≤ _; rw [sizeLine_eq]; decide, fun q hq => ?_⟩⟩
      have nq := nw.more (same_new (o := .tup [V.str "BadLot", V.int z]) hq)
      refine ⟨_, nq.at_, by rw [List.length_map, sizeLine_eq]; omega, qs ++ [q], ?_, ?_⟩
      · rw [List.map_append]
        exact nq.put
      · rw [take_step hzz]
        exact (Al2.upd nq.at_ (al.mono fun _ _ h => same_new hq _ _ h)).snoc (upd_tup nq.at_ _ _ upd_same)
    · obtain ⟨qs, nw, al⟩ := z
      refine ⟨_, _, rfl, dq_lists (ps := [p1, p2, p3, p4]) (zs := [z0, z1, z1, z1]) (nw.same _ _ tk.at_) nw.at_ (((al4.mono fun _ _ h => same_new hkl _ _ h).mono fun _ _ h => nw.same _ _ h)) al (by show 4 ≤ 1000; decide), fun H' s => ?_⟩
      exact k H' ((tk.ext.trans (ExtN.of nw.same)).trans (ExtN.of s)) ((tk.tab.ext nw.same).ext s)
end
end Q

set_option Elab.async false
set_option linter.all false
set_option maxRecDepth 100000
set_option maxHeartbeats 2000000
namespace Q
open PySem PySem.Spec PyProof.Rows L2 Hx Er Kt Mb Mu L2H LamX
section
variable {w : World} {K : PySem.W.Frag} {mg : Str → Option Value} {base : Heap}
theorem dq_bools {G : Hp} {a b : Addr} {bs : List Bool} (ha : G a = some (.lst (bs.map V.bl))) (hb : G b = some (.lst (bs.map V.bl))) (hz : bs.length ≤ 1000) : DQ G 3 (.ref a) (.ref b) := by
  refine .lst ha hb rfl (by rw [List.length_map]; exact hz) fun i x y hx hy => ?_
  rw [hx] at hy
  obtain rfl := Option.some.inj hy
  rw [List.getElem?_map] at hx
  cases e : bs[i]? with
  | none => rw [e] at hx; cases hx
  | some q =>
    rw [e] at hx
    obtain rfl := Option.some.inj hx
    exact .bl 1 q
theorem dq_nats {G : Hp} {a b : Addr} {xs : List Nat} {j : Nat} (ha : G a = some (.lst (xs.map nV))) (hb : G b = some (.lst (xs.map nV))) (hz : xs.length ≤ 1000) : DQ G (j + 2) (.ref a) (.ref b) := by
  refine .lst ha hb rfl (by rw [List.length_map]; exact hz) fun i x y hx hy => ?_
  rw [hx] at hy
  obtain rfl := Option.some.inj hy
  obtain ⟨q, _, rfl⟩ := nat_get hx
  exact .int j q
theorem sc_law_beats_told : FnScope ["order", "ups", "e", "c", "lots", "lot", "told", "due"] ["order", "ups", "e", "c", "lots"] (defScope s_law_beats_told) := ⟨rfl, rfl, rfl, by decide +kernel, rfl, by decide +kernel, by decide +kernel⟩
def spBT (K : PySem.W.Frag) : Sp := fun vs H Q _ => ∃ (o u lt : Addr) (n e c : Nat) (us ls : List Nat), vs = [.ref o, .ref u, nV e, nV c, .ref lt] ∧ OrdAt K H o n us ∧ H u = some (.lst (us.map nV)) ∧ us.length = n ∧ n ≤ 64 ∧ e < 2 ^ n ∧ c < 2 ^ n ∧ H lt = some (.lst (ls.map nV)) ∧ (∀ x ∈ ls, x < 2 ^ n) ∧
  (∀ a b, a < 2 ^ n → b < 2 ^ n → beatsV us a b = lawB us a b) ∧ ∀ H', Same H H' → Q (.bl true) H'
theorem beats_told_ok (T : Txt K mg) : OkF pw w K mg base "_law_beats_told" 8 ["order", "ups", "e", "c", "lots"] (spBT K) := by
  have G_beats := beats_ok (w := w) (base := base) T
  have G_law_beats := law_beats_ok (w := w) (base := base) T
  have G_law_equal := equal_ok (w := w) (base := base) T 3
  refine mkOk (k := 7) T.F__law_beats_told T.g__law_beats_told (fun _ _ _ _ _ _ _ us hl => match us, hl with | [_, _, _, _, _], _ => rfl) sc_law_beats_told (fun vs H Q E h => ?_) (fun f cdv A outer s H vs Q E hr h => ?_)
  · obtain ⟨o, u, lt, n, e, c, us, ls, rfl, _⟩ := h
    rfl
  · obtain ⟨o, u, lt, n, e, c, us, ls, rfl, ho, hu, hl, hn, he, hc, hlt, hls, heq, k⟩ := h
    refine ⟨_, (pss_cons (ps_for passW rfl (pi_list (pv 4)) (pg_name (i := 5) sc_law_beats_told.nd rfl (Or.inl rfl))
      (pss_cons (ps_set (i := 6) sc_law_beats_told.nd rfl (Or.inl rfl) (pe_lst (pa_cons (cl G_beats hr (pa_cons (pv 0) (pa_cons (pv 5) (pa_cons (pv 2) pa_nil)))) (pa_cons (cl G_beats hr (pa_cons (pv 0) (pa_cons (pv 2) (pa_cons (pv 5) pa_nil)))) (pa_cons (cl G_beats hr (pa_cons (pv 0) (pa_cons (pv 3) (pa_cons (pv 5) pa_nil)))) (pa_cons (cl G_beats hr (pa_cons (pv 0) (pa_cons (pv 5) (pa_cons (pv 3) pa_nil)))) pa_nil))))))
      (pss_cons (ps_set (i := 7) sc_law_beats_told.nd rfl (Or.inl rfl) (pe_lst (pa_cons (cl G_law_beats hr (pa_cons (pv 1) (pa_cons (pv 5) (pa_cons (pv 2) pa_nil)))) (pa_cons (cl G_law_beats hr (pa_cons (pv 1) (pa_cons (pv 2) (pa_cons (pv 5) pa_nil)))) (pa_cons (cl G_law_beats hr (pa_cons (pv 1) (pa_cons (pv 3) (pa_cons (pv 5) pa_nil)))) (pa_cons (cl G_law_beats hr (pa_cons (pv 1) (pa_cons (pv 5) (pa_cons (pv 3) pa_nil)))) pa_nil))))))
      (pss_one (ps_if (pt_not (pt_val (cl G_law_equal hr (pa_cons (pv 6) (pa_cons (pv 7) pa_nil))))) (pss_one (ps_ret pe_bl)) pss_nil)))))
      (pss_one (ps_ret pe_bl))), ?_⟩
    refine ⟨_, rfl, lt, rfl, ⟨_, SqL.of hlt⟩, ?_⟩
    refine for_list (K := K) (a := lt) (xs := ls.map nV) (fun i σ G => ∃ y5 y6 y7, σ = [some (.ref o), some (.ref u), some (nV e), some (nV c), some (.ref lt), y5, y6, y7] ∧ Same H G) ⟨_, _, _, rfl, fun _ _ h => h⟩ (fun i σ G _ ⟨_, _, _, _, z⟩ => SqL.of (z _ _ hlt)) ?_ ?_
    · rintro i x σ G hi ⟨y5, y6, y7, rfl, s⟩
      obtain ⟨x, hx, rfl⟩ := nat_get hi
      have x1 := hls x (nat_mem hx)
      refine ⟨_, rfl, _, rfl, _, rfl, tnil (spBeats_nat (ho.same s) hl hn x1 he fun G1 s1 => ?_)⟩
      have s1 := s.trans s1
      refine ⟨_, rfl, _, rfl, _, rfl, tnil (spBeats_nat (ho.same s1) hl hn he x1 fun G2 s2 => ?_)⟩
      have s2 := s1.trans s2
      refine ⟨_, rfl, _, rfl, _, rfl, tnil (spBeats_nat (ho.same s2) hl hn hc x1 fun G3 s3 => ?_)⟩
      have s3 := s2.trans s3
      refine ⟨_, rfl, _, rfl, _, rfl, tnil (spBeats_nat (ho.same s3) hl hn x1 hc fun G4 s4 => ?_)⟩
      have s4 := s3.trans s4
      refine ⟨by show 4 ≤ _; rw [sizeLine_eq]; decide, fun l1 hl1 => ?_⟩
      have n1 := Nw.mk0 (o := .lst ([beatsV us x e, beatsV us e x, beatsV us c x, beatsV us x c].map V.bl)) hl1
      have s5 := s4.trans n1.same
      have hx' : x < 2 ^ us.length := by rw [hl]; exact x1
      have he' : e < 2 ^ us.length := by rw [hl]; exact he
      have hc' : c < 2 ^ us.length := by rw [hl]; exact hc
      refine ⟨_, rfl, _, rfl, _, rfl, tnil (spLB_nat (s5 _ _ hu) (by omega) hx' he' fun G6 t6 => ?_)⟩
      have s6 := s5.trans t6
      refine ⟨_, rfl, _, rfl, _, rfl, tnil (spLB_nat (s6 _ _ hu) (by omega) he' hx' fun G7 t7 => ?_)⟩
      have s7 := s6.trans t7
      refine ⟨_, rfl, _, rfl, _, rfl, tnil (spLB_nat (s7 _ _ hu) (by omega) hc' hx' fun G8 t8 => ?_)⟩
      have s8 := s7.trans t8
      refine ⟨_, rfl, _, rfl, _, rfl, tnil (spLB_nat (s8 _ _ hu) (by omega) hx' hc' fun G9 t9 => ?_)⟩
      have s9 := s8.trans t9
      have n9 := (((n1.more t6).more t7).more t8).more t9
      refine ⟨by show 4 ≤ _; rw [sizeLine_eq]; decide, fun l2 hl2 => ?_⟩
      have n2 := Nw.mk0 (o := .lst ([beatsV us x e, beatsV us e x, beatsV us c x, beatsV us x c].map V.bl)) hl2
      have e2 : [V.bl (lawB us x e), V.bl (lawB us e x), V.bl (lawB us c x), V.bl (lawB us x c)] = [beatsV us x e, beatsV us e x, beatsV us c x, beatsV us x c].map V.bl := by
        rw [heq x e x1 he, heq e x he x1, heq c x hc x1, heq x c x1 hc]
        rfl
      rw [e2]
      refine ⟨_, rfl, _, rfl, tnil ⟨_, _, rfl, dq_bools (n2.same _ _ n9.at_) n2.at_ (by show 4 ≤ 1000; decide), fun G10 t10 => ⟨_, rfl, ?_⟩⟩⟩
      exact iteB (fun h => nomatch h) (fun _ => ⟨_, _, _, rfl, (s9.trans n2.same).trans t10⟩)
    · rintro σ G ⟨y5, y6, y7, rfl, s⟩
      exact k _ s
end
end Q

set_option Elab.async false
set_option linter.all false
set_option maxRecDepth 100000
set_option maxHeartbeats 2000000
namespace Q
open PySem PySem.Spec PyProof.Rows L2 Hx Er Kt Mb Mu L2H LamX
section
variable {w : World} {K : PySem.W.Frag} {mg : Str → Option Value} {base : Heap}
theorem eqV_nat (a b : Nat) : eqV (nV a) (nV b) = decide (a = b) := by
  show ((a : Int) == (b : Int)) = _
  by_cases h : a = b
  · subst h
    simp
  · have : (a : Int) ≠ (b : Int) := fun e => h (by omega)
    rw [decide_eq_false h]
    simpa using this
theorem inV_nats (x : Nat) : ∀ xs : List Nat, inV (nV x) (xs.map nV) = decide (x ∈ xs)
  | [] => rfl
  | a :: r => by
    have ih := inV_nats x r
    unfold inV at *
    rw [List.map_cons, List.any_cons, ih, eqV_nat]
    by_cases h : a = x
    · subst h
      simp
    · have h2 : ¬ x = a := fun e => h e.symm
      simp [h, h2]
theorem flat_nats : ∀ xs : List Nat, (xs.map nV).all flatV = true
  | [] => rfl
  | a :: r => by
    rw [List.map_cons, List.all_cons, flat_nats r]
    rfl
theorem mid_len {u : List Nat} {e c : Nat} (h : u.length ≤ 7) : (lawMid u e c).length ≤ 128 := by
  unfold lawMid
  refine Nat.le_trans (List.length_filter_le _ _) (Nat.le_trans (List.length_filter_le _ _) ?_)
  rw [List.length_range]
  exact Nat.le_trans (Nat.pow_le_pow_right (by decide) h) (by decide)
theorem sc_law_order_told : FnScope ["order", "world", "n", "pairs", "asked", "wrong", "ups", "e", "c", "lots", "way", "told", "due"] ["order", "world"] (defScope s_law_order_told) := ⟨rfl, rfl, rfl, by decide +kernel, rfl, by decide +kernel, by decide +kernel⟩
def spTold (K : PySem.W.Frag) : Sp := fun vs H Q _ => ∃ (o wd : Addr) (W : Wd), vs = [.ref o, .ref wd] ∧ OrdAt K H o W.n (ups W.n W.ps) ∧ WdAt (fun _ => True) H wd W ∧ WdOk W ∧ Tabs (tabs K) H ∧ ∀ H', ExtN H H' → Tabs (tabs K) H' → Q (.bl true) H'
theorem order_told_ok (T : Txt K mg) (TBs : ∀ x, x ∈ tf → TabB base mg (He.cT K x).1 (He.cT K x).2) : OkF pw w K mg base "_law_order_told" 22 ["order", "world"] (spTold K) := by
  have G_middle_codes := middle_codes_ok (w := w) (base := base) T
  have G_law_ups := law_ups_ok (w := w) (base := base) T
  have G_law_refused := refused_ok (w := w) (base := base) T TBs
  have G_law_beats_told := beats_told_ok (w := w) (base := base) T
  have G_law_equal := equal_ok (w := w) (base := base) T 3
  have G_law_middle := middle_ok (w := w) (base := base) T
  have G_law_beats := law_beats_ok (w := w) (base := base) T
  have TB := TBs ("_law_order_told", none) (by decide +kernel)
  have hmem : ((He.cT K ("_law_order_told", none)).2, lamQ "_law_order_told") ∈ tabs K := List.mem_cons_of_mem _ List.mem_cons_self
  have hu : ∀ p ∈ tabs K, p.1 = (He.cT K ("_law_order_told", none)).2 → p.2 = lamQ "_law_order_told" := fun p hp e => by
    rcases List.mem_cons.mp hp with h | h
    · rw [h] at e
      exact absurd e T.tab_ne0
    · rw [List.mem_singleton.mp h]
  refine mkOkT (k := 21) T.F__law_order_told T.g__law_order_told (fun _ _ _ _ _ _ _ us hl => match us, hl with | [_, _], _ => rfl) sc_law_order_told (fun vs H Q E h => ?_) (fun f A outer s H vs Q E hr h => ?_)
  · obtain ⟨o, wd, W, rfl, _⟩ := h
    rfl
  · obtain ⟨o, wd, W, rfl, ho, hW, hOk, hT, k⟩ := h
    have nt : ∀ xs : List V, ∀ ps, HO.lst xs ≠ .tbl ps := fun _ _ h => nomatch h
    have ntt : ∀ xs : List V, ∀ ps, HO.tup xs ≠ .tbl ps := fun _ _ h => nomatch h
    obtain ⟨n, ps, asks, wrong⟩ := W
    obtain ⟨hn, hpl, ⟨rk, hps⟩, hask, hal3, hw2, hwb⟩ := hOk
    obtain ⟨a, b, cw, -, hwd, hlp, ⟨bs, hbs, hal⟩, hcw⟩ := hW
    dsimp only at *
    obtain ⟨z0, z1, rfl⟩ : ∃ z0 z1, wrong = [z0, z1] := by
      match wrong, hw2 with
      | [z0, z1], _ => exact ⟨z0, z1, rfl⟩
    obtain ⟨b0, s0⟩ := hwb z0 List.mem_cons_self
    obtain ⟨b1, s1⟩ := hwb z1 (List.mem_cons_of_mem _ List.mem_cons_self)
    have O := ordr hps
    have LW := laws_of (show n ≤ 64 by omega) hps
    have hval := ps_val hps
    have hl := O.len
    have p64 : 2 ^ n ≤ 2 ^ 64 := Nat.pow_le_pow_right (by decide) (by omega)
    have heq : ∀ a b, a < 2 ^ n → b < 2 ^ n → beatsV (ups n ps) a b = lawB (ups n ps) a b := fun a b h1 h2 => beats_eq O (by omega) (by omega)
    refine ⟨_, (pss_cons (ps_asg (pv 1) (pg_tup rfl (pgs_cons (pg_name (i := 2) sc_law_order_told.nd rfl (Or.inl rfl)) (pgs_cons (pg_name (i := 3) sc_law_order_told.nd rfl (Or.inl rfl)) (pgs_cons (pg_name (i := 4) sc_law_order_told.nd rfl (Or.inl rfl)) (pgs_cons (pg_name (i := 5) sc_law_order_told.nd rfl (Or.inl rfl)) pgs_nil))))))
      (pss_cons (ps_set (i := 6) sc_law_order_told.nd rfl (Or.inl rfl) (cl G_law_ups hr (pa_cons (pv 2) (pa_cons (pv 3) pa_nil))))
      (pss_cons (ps_for passW rfl (pi_list (pv 4)) (pg_tup rfl (pgs_cons (pg_name (i := 7) sc_law_order_told.nd rfl (Or.inr rfl)) (pgs_cons (pg_name (i := 8) sc_law_order_told.nd rfl (Or.inr rfl)) (pgs_cons (pg_name (i := 9) sc_law_order_told.nd rfl (Or.inl rfl)) (pgs_cons (pg_name (i := 10) sc_law_order_told.nd rfl (Or.inl rfl)) pgs_nil)))))
      (pss_cons (ps_if (PW.pt (pw_or (pt_not (pt_val (cl G_law_refused hr (pa_cons (pv 0) (pa_cons (pv 7) (pa_cons (pv 8) (pa_cons (pv 5) pa_nil))))))) (pw_or1 (pt_not (pt_val (cl G_law_beats_told hr (pa_cons (pv 0) (pa_cons (pv 6) (pa_cons (pv 7) (pa_cons (pv 8) (pa_cons (pe_op op_cat (pv 9) (pe_lst (pa_cons (pv 10) pa_nil))) pa_nil))))))))))) (pss_one (ps_ret pe_bl)) pss_nil)
      (pss_cut (ps_set (i := 11) sc_law_order_told.nd rfl (Or.inl rfl) (pe_ask T TB hr (by decide) (TT := tabs K) hmem hu (fun _ _ _ _ _ _ _ hr2 => (cl G_middle_codes hr2 (pa_cons (pv 0) (pa_cons (pv 7) (pa_cons (pv 8) pa_nil))) (hx := passC)))))
      (pss_cons (ps_if (pt_cmpR op_gt (pv 2) pe_int (nomark _)) (pss_cons (ps_if (pt_not (pt_val (cl G_law_equal hr (pa_cons (pv 11) (pa_cons (pe_tup (pa_cons pe_str (pa_cons pe_int pa_nil))) pa_nil))))) (pss_one (ps_ret pe_bl)) pss_nil)
      (pss_one ps_continue)) pss_nil)
      (pss_cons (ps_set (i := 12) sc_law_order_told.nd rfl (Or.inl rfl) (cl G_law_middle hr (pa_cons (pv 6) (pa_cons (pv 7) (pa_cons (pv 8) pa_nil)))))
      (pss_cons (ps_if (pt_not (pt_val (cl G_law_equal hr (pa_cons (pv 11) (pa_cons (pe_tup (pa_cons pe_str (pa_cons (pv 12) pa_nil))) pa_nil))))) (pss_one (ps_ret pe_bl)) pss_nil)
      (pss_cut (ps_if (pt_cmpR op_ne (pe_cmpR op_in_seq (pv 10) (pe_ix ix_tup (pv 11) pe_int (fun _ _ => rfl)) (by rfl)) (pe_or (pe_cmpR op_eq (pv 7) (pv 8) (nomark _)) (pe_one (cl G_law_beats hr (pa_cons (pv 6) (pa_cons (pv 8) (pa_cons (pv 7) pa_nil)))))) (nomark _)) (pss_one (ps_ret pe_bl)) pss_nil)
      (pss_cons (ps_expr (pe_bm PySem.F.plainAttrs_list PySem.F.slot_list_append PySem.F.type_list_append mt_append (pe_ix ix_tup (pv 11) pe_int (fun _ _ => rfl)) (pa_cons pe_int pa_nil)))
      (pss_one (ps_if (pt_not (pt_val (cl G_law_equal hr (pa_cons (cl G_middle_codes hr (pa_cons (pv 0) (pa_cons (pv 7) (pa_cons (pv 8) pa_nil)))) (pa_cons (pv 12) pa_nil))))) (pss_one (ps_ret pe_bl)) pss_nil))))))))))
      (pss_one (ps_ret pe_bl))))), ?_⟩
    refine ⟨_, rfl, wd, _, rfl, SqT.of hwd, rfl, _, _, rfl, _, _, rfl, _, _, rfl, _, _, rfl, rfl, ?_⟩
    refine ⟨_, rfl, _, rfl, n, a, ps, rfl, by omega, hlp, hval, fun H1 u nu => ?_⟩
    have mid := fun {e c : Nat} (he : e < 2 ^ n) (hc : c < 2 ^ n) => mid_eq O (show n ≤ 64 by omega) he hc
    generalize hus : ups n ps = us at *
    have ho1 := ho.same nu.same
    have hb1 := nu.same _ _ hbs
    have hc1 := nu.same _ _ hcw
    have ha1 : Al2 (AskAt (fun _ => True) H1) bs asks := hal.mono fun _ _ h => h.same nu.same
    refine ⟨_, rfl, b, rfl, ⟨_, SqL.of hb1⟩, ?_⟩
    refine for_list (K := K) (a := b) (xs := bs.map V.ref) (fun i σ G => ∃ y7 y8 y9 y10 y11 y12, σ = [some (.ref o), some (.ref wd), some (nV n), some (.ref a), some (.ref b), some (.ref cw), some (.ref u), y7, y8, y9, y10, y11, y12] ∧ ExtN H1 G ∧ Tabs (tabs K) G)
      ⟨_, _, _, _, _, _, rfl, ExtN.refl _, hT.ext nu.same⟩ (fun i σ G _ ⟨_, _, _, _, _, _, _, z, _⟩ => SqL.of (z _ _ hb1 (nt _))) ?_ ?_
    · rintro i x σ G hi ⟨y7, y8, y9, y10, y11, y12, rfl, eG, tG⟩
      obtain ⟨q, hq, rfl⟩ := ref_get hi
      have hlt : i < asks.length := by
        rw [← ha1.1]
        exact (List.getElem?_eq_some_iff.mp hq).1
      have hai := List.getElem?_eq_getElem hlt
      obtain ⟨l, -, hq1, hl1⟩ := ha1.2 i q _ hq hai
      obtain ⟨⟨he, hc, hlots, hway, hwok⟩, hl3⟩ := hask _ (List.getElem_mem hlt)
      generalize asks[i] = ak at *
      obtain ⟨e, c, lots, way⟩ := ak
      dsimp only at *
      refine ⟨q, _, rfl, SqT.of (eG _ _ hq1 (ntt _)), rfl, _, _, rfl, _, _, rfl, _, _, rfl, _, _, rfl, rfl, ?_⟩
      -- refused, beats told
      refine ⟨_, rfl, _, rfl, _, rfl, _, rfl, o, cw, n, e, c, us, z0, z1, rfl, ordAt_ext ho1 eG, hl, by omega, he, hc, eG _ _ hc1 (nt _), b0, s0, b1, s1, tG, fun G1 e1 t1 => ⟨_, rfl, iteB (fun h => nomatch h) (fun _ => ?_)⟩⟩
      have eG1 := eG.trans e1
      have ll1 := eG1 _ _ hl1 (nt _)
      refine ⟨_, rfl, _, rfl, _, rfl, _, rfl, _, rfl, _, rfl, by show 1 ≤ _; rw [sizeLine_eq]; decide, fun q1 hq1 => ?_⟩
      have m1 := same_new (o := .lst [nV way]) hq1
      refine ⟨l, q1, _, _, rfl, rfl, m1 _ _ ll1, upd_same, by rw [List.length_map, hl3, sizeLine_eq]; show 3 + 1 ≤ _; decide, fun l2 hl2 => ?_⟩
      have m2 := m1.trans (same_new (o := .lst (lots.map nV ++ [nV way])) hl2)
      have eG2 := eG1.trans (ExtN.of m2)
      refine tnil ⟨o, u, l2, n, e, c, us, lots ++ [way], rfl, ordAt_ext ho1 eG2, eG2 _ _ nu.at_ (nt _), hl, by omega, he, hc, by rw [← mapp]; exact upd_same, fun x h => ?_, heq, fun G3 s3 => ⟨_, rfl, iteB (fun h => nomatch h) (fun _ => ?_)⟩⟩
      · rcases List.mem_append.mp h with h | h
        · exact hlots x h
        · rw [List.mem_singleton.mp h]
          exact hway
      have eG3 := eG2.trans (ExtN.of s3)
      have t3 := (t1.ext m2).ext s3
      -- the ask
      refine ⟨fun σ' G => ∃ (tp : Addr), σ' = [some (.ref o), some (.ref wd), some (nV n), some (.ref a), some (.ref b), some (.ref cw), some (.ref u), some (nV e), some (nV c), some (.ref l), some (nV way), some (.ref tp), y12] ∧ ExtN H1 G ∧ Tabs (tabs K) G ∧
        ((7 < n ∧ G tp = some (.tup [.str "TooMany", .int 7])) ∨ (n ≤ 7 ∧ ∃ ml, G tp = some (.tup [.str "told", .ref ml]) ∧ G ml = some (.lst ((lawMid us e c).map nV)) ∧ ∀ v, H1 ml = some v → (∀ ps, v ≠ .tbl ps) → False)), ?_, ?_⟩
      · refine ⟨t3, fun G5 e5 t5 => ⟨_, rfl, _, rfl, _, rfl, tnil ⟨o, n, us, e, c, rfl, ordAt_ext ho1 (eG3.trans e5), hl, by omega, smallW (by omega) he, smallW (by omega) hc, fun e' c' h1 h2 h3 h4 h7 G6 ml nm => ?_, fun _ _ h7 => bad_many T fun G6 tp s6 htp => ?_, fun h => absurd (inR_nat.mpr he) h, fun _ h => absurd (inR_nat.mpr hc) h⟩⟩⟩
        · have q1 : e = e' := by omega
          have q2 : c = c' := by omega
          subst q1 q2
          rw [mid he hc] at nm
          refine ⟨by show 2 ≤ _; rw [sizeLine_eq]; decide, fun tp htp => ?_⟩
          have m6 := nm.same.trans (same_new (o := .tup [.str "told", .ref ml]) htp)
          refine ⟨tp, rfl, (eG3.trans e5).trans (ExtN.of m6), t5.ext m6, Or.inr ⟨h7, ml, upd_same, same_new htp _ _ nm.at_, fun v hv hnv => ?_⟩⟩
          have := (eG3.trans e5) ml v hv hnv
          rw [nm.no] at this
          cases this
        · exact ⟨tp, rfl, (eG3.trans e5).trans (ExtN.of s6), t5.ext s6, Or.inl ⟨h7, htp⟩⟩
      · rintro σ' G ⟨tp, rfl, eG, tG, hor⟩
        refine ⟨_, rfl, _, _, rfl, rfl, _, rfl, iteD (fun h7 => ?_) (fun h7 => ?_)⟩
        · have htp : G tp = some (.tup [.str "TooMany", .int 7]) := by
            rcases hor with h | h
            · exact h.2
            · omega
          refine ⟨_, rfl, by show 2 ≤ _; rw [sizeLine_eq]; decide, fun q hq => ?_⟩
          have m := same_new (o := .tup [.str "TooMany", .int 7]) hq
          refine tnil ⟨_, _, rfl, .tup (m _ _ htp) upd_same rfl (by show 2 ≤ 1000; decide) fun j x y hx hy => ?_, fun G1 s1 => ⟨_, rfl, iteB (fun h => nomatch h) (fun _ => ⟨_, _, _, _, _, _, rfl, eG.trans (ExtN.of (m.trans s1)), (tG.ext m).ext s1⟩)⟩⟩
          match j, hx, hy with
          | 0, hx, hy =>
            obtain rfl := Option.some.inj hx
            obtain rfl := Option.some.inj hy
            exact .str 1 _
          | 1, hx, hy =>
            obtain rfl := Option.some.inj hx
            obtain rfl := Option.some.inj hy
            exact .int 1 _
        · obtain ⟨n7, ml, htp, hml, hno⟩ : n ≤ 7 ∧ ∃ ml, G tp = some (.tup [.str "told", .ref ml]) ∧ G ml = some (.lst ((lawMid us e c).map nV)) ∧ ∀ v, H1 ml = some v → (∀ ps, v ≠ .tbl ps) → False := by
            rcases hor with h | h
            · omega
            · exact h
          have ml7 := mid_len (u := us) (e := e) (c := c) (by omega)
          refine ⟨_, rfl, _, rfl, _, rfl, tnil ⟨u, us, e, c, rfl, eG _ _ nu.at_ (nt _), by omega, by rw [hl]; exact he, by rw [hl]; exact hc, fun G1 dl nd => ?_⟩⟩
          refine ⟨_, rfl, _, rfl, by show 2 ≤ _; rw [sizeLine_eq]; decide, fun q hq => ?_⟩
          have m := nd.same.trans (same_new (o := .tup [.str "told", .ref dl]) hq)
          have d1 := same_new (o := .tup [.str "told", .ref dl]) hq _ _ nd.at_
          refine tnil ⟨_, _, rfl, .tup (m _ _ htp) upd_same rfl (by show 2 ≤ 1000; decide) fun j x y hx hy => ?_, fun G2 s2 => ⟨_, rfl, iteB (fun h => nomatch h) (fun _ => ?_)⟩⟩
          · match j, hx, hy with
            | 0, hx, hy =>
              obtain rfl := Option.some.inj hx
              obtain rfl := Option.some.inj hy
              exact .str 1 _
            | 1, hx, hy =>
              obtain rfl := Option.some.inj hx
              obtain rfl := Option.some.inj hy
              exact dq_nats (m _ _ hml) d1 (by omega)
          have m2 := m.trans s2
          have e2 := eG.trans (ExtN.of m2)
          have t2 := tG.ext m2
          -- the way
          refine ⟨fun σ' G' => σ' = [some (.ref o), some (.ref wd), some (nV n), some (.ref a), some (.ref b), some (.ref cw), some (.ref u), some (nV e), some (nV c), some (.ref l), some (nV way), some (.ref tp), some (.ref dl)] ∧ Same G2 G', ?_, ?_⟩
          · have hin := way_in LW (by rw [hl]; exact he) (by rw [hl]; exact hc) (by rw [hl]; exact hway) hwok
            refine ⟨_, rfl, _, rfl, tc (rdT (j := 1) (m2 _ _ htp) rfl ⟨ml, _, rfl, Or.inl (SqL.of (m2 _ _ hml)), rfl, flat_nats _, _, rfl, _, rfl, rfl, _, rfl, iteD (fun ec => ?_) (fun ec => ?_)⟩)⟩
            · have ec' := and_eq_nat.mp ec
              refine ⟨rfl, _, rfl, iteN (fun h => absurd ?_ h) (fun _ => ⟨rfl, fun _ _ h => h⟩)⟩
              show V.bl (inV (nV way) ((lawMid us e c).map nV)) = V.bl true
              rw [inV_nats, decide_eq_true (hin.mpr (Or.inl ec'))]
            · refine ⟨_, rfl, _, rfl, _, rfl, tnil (spLB_nat (e2 _ _ nu.at_ (nt _)) (by omega) (by rw [hl]; exact hc) (by rw [hl]; exact he) fun G3 s3 => ⟨rfl, _, rfl, iteN (fun h => absurd ?_ h) (fun _ => ⟨rfl, s3⟩)⟩)⟩
              show V.bl (inV (nV way) ((lawMid us e c).map nV)) = V.bl (lawB us c e)
              rw [inV_nats]
              cases hb : lawB us c e with
              | true => rw [decide_eq_true (hin.mpr (Or.inr hb))]
              | false =>
                rw [decide_eq_false fun z => ?_]
                rcases hin.mp z with z | z
                · exact ec (and_eq_nat.mpr z)
                · rw [hb] at z
                  cases z
          · rintro σ' G3 ⟨rfl, s3⟩
            have m3 := m2.trans s3
            have e3 := eG.trans (ExtN.of m3)
            have t3 := tG.ext m3
            have hml3 := m3 _ _ hml
            have hdl3 := s3 _ _ (s2 _ _ d1)
            have dml : dl ≠ ml := fun z => by
              have := nd.no
              rw [z, hml] at this
              cases this
            refine ⟨_, rfl, tc (rdT (j := 1) (m3 _ _ htp) rfl ⟨Or.inl ⟨rfl, _, SqL.of hml3⟩, ml, _, _, rfl, rfl, hml3, by rw [List.length_map, sizeLine_eq]; omega, ?_⟩)⟩
            have e4 : ExtN H1 (upd G3 ml (.lst ((lawMid us e c).map nV ++ [.int 0]))) := fun bb v hv hnv => by
              rw [upd_ne (fun z => hno v (by rw [← z]; exact hv) hnv)]
              exact e3 bb v hv hnv
            have t4 : Tabs (tabs K) (upd G3 ml (.lst ((lawMid us e c).map nV ++ [.int 0]))) := tabs_mono t3 fun bb v hv hnv => by
              rw [upd_ne (fun z => by rw [z, hml3] at hv; exact hnv _ (Option.some.inj hv).symm)]
              exact hv
            refine ⟨_, rfl, _, rfl, _, rfl, tnil ⟨o, n, us, e, c, rfl, ordAt_ext ho1 e4, hl, by omega, smallW (by omega) he, smallW (by omega) hc, fun e' c' h1 h2 h3 h4 h7 G6 m6 nm => ?_, fun _ _ h => absurd h (by omega), fun h => absurd (inR_nat.mpr he) h, fun _ h => absurd (inR_nat.mpr hc) h⟩⟩
            have q1 : e = e' := by omega
            have q2 : c = c' := by omega
            subst q1 q2
            rw [mid he hc] at nm
            refine ⟨_, rfl, tnil ⟨_, _, rfl, dq_nats nm.at_ (nm.same _ _ (by rw [upd_ne dml]; exact hdl3)) (by omega), fun G7 s7 => ⟨_, rfl, iteB (fun h => nomatch h) (fun _ => ?_)⟩⟩⟩
            exact ⟨_, _, _, _, _, _, rfl, (e4.trans (ExtN.of nm.same)).trans (ExtN.of s7), (t4.ext nm.same).ext s7⟩
    · rintro σ G ⟨y7, y8, y9, y10, y11, y12, rfl, eG, tG⟩
      exact k _ ((ExtN.of nu.same).trans eG) tG
end
end Q

set_option Elab.async false
set_option linter.all false
set_option maxRecDepth 100000
set_option maxHeartbeats 2000000
namespace Q
open PySem PySem.Spec PyProof.Rows L2 Hx Er Kt Mb Mu L2H LamX
/-- the tables of the code objects that make lambdas -/
def tabsOf (K : PySem.W.Frag) : List (Addr × Addr) := tf.map (He.cT K)
def spLaw (K : PySem.W.Frag) : Sp := fun vs H Q _ => ∃ (a : Addr) (ns : List Int), vs = [.ref a] ∧ SqL K H a (ns.map V.int) ∧ ns.length ≤ 63 ∧ (∀ z ∈ ns, Builtin.Int.intBits z ≤ 1048576) ∧ (∀ p ∈ tabsOf K, H p.2 = some (.tbl #[])) ∧ ∀ H', Q (.bl true) H'
theorem ordAtF_new {F : Addr → Prop} {K : PySem.W.Frag} {H : Hp} {o g : Addr} {n : Nat} {us : List Nat} (h : OrdAtF F K H o n us) (hg : H g = none) : OrdAtF (fun u => F u ∧ u ≠ g) K H o n us := by
  obtain ⟨dx, u, l, r, d, h0, h1, h2⟩ := h
  exact ⟨dx, u, l, r, d, ⟨h0, fun e => by rw [e, hg] at h2; cases h2⟩, h1, h2⟩
theorem tabs_wl {K : PySem.W.Frag} {t : Sto} {H H' : Hp} (a : StA t H) (w : Wl t H H') (h : Tabs (tabs K) H) : Tabs (tabs K) H' := tabs_mono h fun b o hb hn => w.keep a (by
  cases o with
  | lst xs => exact absurd rfl (hn xs)
  | _ => rfl) hb
theorem wdAt_ext {F : Addr → Prop} {H H' : Hp} {p : Addr} {W : Wd} (h : WdAt F H p W) (e : ExtN H H') : WdAt F H' p W := by
  have l : ∀ b xs, H b = some (.lst xs) → H' b = some (.lst xs) := fun b xs h => e b _ h (fun _ h => nomatch h)
  have t : ∀ b xs, H b = some (.tup xs) → H' b = some (.tup xs) := fun b xs h => e b _ h (fun _ h => nomatch h)
  obtain ⟨a, b, c, h0, h1, ⟨as, h2, h2'⟩, ⟨bs, h3, h4⟩, h5⟩ := h
  exact ⟨a, b, c, h0, t _ _ h1, ⟨as, l _ _ h2, h2'.mono t⟩, ⟨bs, l _ _ h3, h4.mono fun _ _ ⟨q, q0, q1, q2⟩ => ⟨q, q0, t _ _ q1, l _ _ q2⟩⟩, l _ _ h5⟩
section
variable {w : World} {K : PySem.W.Frag} {mg : Str → Option Value} {base : Heap}
theorem sc_law : FnScope ["script", "store", "worlds", "k", "orders", "world", "given"] ["script"] (defScope s_law) := ⟨rfl, rfl, rfl, by decide +kernel, rfl, by decide +kernel, by decide +kernel⟩
theorem law_fn (T : Txt K mg) (TBs : ∀ x, x ∈ tf → TabB base mg (He.cT K x).1 (He.cT K x).2) {fd : FuncData} (G : FunD K "law" "law" (defArgs s_law) (defBody s_law) (defScope s_law) [] [] (He.fAd K ("law", none)) fd) : FnOk pw w K mg base (L2N.CX pw w) 60 (He.ga K "law") fd ["script"] (spLaw K) := by
  have G_law_store := store_ok (w := w) (base := base) T
  have G_law_one_world := one_ok (w := w) (base := base) T
  have G_Order := init_ok (w := w) (base := base) T
  have G_law_order_told := order_told_ok (w := w) (base := base) T TBs
  refine G.ok (k := 59) sc_law (fun vs H Q E h => ?_) (fun cdv A outer s H vs Q E hr h => ?_)
  · obtain ⟨a, ns, rfl, _⟩ := h
    rfl
  · obtain ⟨a, ns, rfl, ha, hz, -, htb, k⟩ := h
    have hT : Tabs (tabs K) H := fun p hp => by
      rcases List.mem_cons.mp hp with h | h
      · rw [h]
        exact TabS.nil (htb (He.cT K ("_law_refused", none)) List.mem_cons_self)
      · rw [List.mem_singleton.mp h]
        exact TabS.nil (htb (He.cT K ("_law_order_told", none)) (List.mem_cons_of_mem _ List.mem_cons_self))
    refine ⟨_, (pss_cons (ps_set (i := 1) sc_law.nd rfl (Or.inr rfl) (cl G_law_store hr (pa_cons (pv 0) pa_nil)))
      (pss_cons (ps_setLc (i := 2) (own := [("k", 3)]) rfl sc_law.nd rfl rfl (sw_true rfl rfl rfl (by decide +kernel)) (pi_range1 (by rfl) T.z_range (pa_cons pe_int pa_nil)) (blkOk_by (N := ["script", "store", "worlds", "k", "orders", "world", "given"]) (sc := defScope s_law) (by decide +kernel)) (fun _ _ _ _ _ => (pg_name (i := 3) sc_law.nd rfl (Or.inl rfl))) (fun _ _ _ _ _ => pts_nil) (fun _ _ _ _ _ => (cl G_law_one_world hr (pa_cons (pv 1) pa_nil))))
      (pss_cons (ps_set (i := 4) sc_law.nd rfl (Or.inl rfl) (pe_lst pa_nil))
      (pss_cons (ps_for passW rfl (pi_list (pv 2)) (pg_name (i := 5) sc_law.nd rfl (Or.inl rfl))
      (pss_cons (ps_set (i := 6) sc_law.nd rfl (Or.inl rfl) (pe_callTy call_list_of (by rfl) T.z_list (by decide +kernel) (pa_cons (pe_ix ix_tup (pv 5) pe_int (fun _ _ => rfl)) pa_nil)))
      (pss_cons (ps_expr (pe_bm PySem.F.plainAttrs_list PySem.F.slot_list_append PySem.F.type_list_append mt_append (pv 4) (pa_cons (clk G_Order hr (pa_cons (pe_ix ix_tup (pv 5) pe_int (fun _ _ => rfl)) (pa_cons (pv 6) pa_nil))) pa_nil)))
      (pss_cons (ps_if (pt_cmpR (op_neD hr.units) (pv 6) (pe_ix ix_tup (pv 5) pe_int (fun _ _ => rfl)) (nomark _)) (pss_one (ps_ret pe_bl)) pss_nil)
      (pss_one (ps_expr (pe_bm0 PySem.F.plainAttrs_list PySem.F.slot_list_clear PySem.F.type_list_clear mt_clear (pv 6))))))))
      (pss_cons (ps_for passW rfl (pi_list (pe_lst (pa_cons pe_int (pa_cons pe_int (pa_cons pe_int pa_nil))))) (pg_name (i := 3) sc_law.nd rfl (Or.inl rfl))
      (pss_one (ps_if (pt_not (pt_val (cl G_law_order_told hr (pa_cons (pe_ix ix_list (pv 4) (pv 3) (fun _ _ => rfl)) (pa_cons (pe_ix ix_list (pv 2) (pv 3) (fun _ _ => rfl)) pa_nil))))) (pss_one (ps_ret pe_bl)) pss_nil)))
      (pss_one (ps_ret pe_bl))))))), ?_⟩
    refine ⟨_, rfl, a, ns, rfl, ha, hz, fun t H1 _ s1 st => ?_⟩
    have hT1 := hT.ext s1
    refine ⟨2, rfl, by decide, by decide, fun l hl => ?_⟩
    refine lcN (n := 2) (fun j G => ∃ (ws : List Addr) (Ws : List Wd), Nx t H1 G l (.lst (ws.map V.ref)) ∧ Al2 (WdAt (fun x => x ≠ l) G) ws Ws ∧ ws.length = j ∧ ∀ W ∈ Ws, WdOk W) ⟨[], [], Nx.mk0 st hl, .nil, rfl, fun _ h => nomatch h⟩ (fun j G hj z => ?_) (fun G z => ?_)
    · obtain ⟨ws, Ws, nx, al, hlen, hok⟩ := z
      refine ⟨rfl, _, rfl, t, rfl, nx.wl.2, fun G3 p W hp w3 hW hO => ?_⟩
      have nx3 := nx.more st w3
      refine ⟨_, nx3.at_, by rw [List.length_map, sizeLine_eq]; omega, ws ++ [p], Ws ++ [W], ?_, ?_, by rw [List.length_append, hlen]; rfl, ?_⟩
      · rw [List.map_append]
        exact nx3.put st
      · refine ((al.mono fun _ _ h => h.wl nx.wl.2 w3).mono fun _ _ h => h.upd nx3.at_ (fun z => z rfl)).snoc ((hW.imp fun x hx e => ?_).upd nx3.at_ (fun z => z rfl))
        rw [e, nx.at_] at hx
        cases hx
      · intro x h
        rcases List.mem_append.mp h with h | h
        · exact hok x h
        · rw [List.mem_singleton.mp h]
          exact hO
    · obtain ⟨ws, Ws, nx, al, hlen, hok⟩ := z
      have hT2 := tabs_wl st nx.wl hT1
      have hws : ws.length = Ws.length := al.1
      refine ⟨Nat.zero_le _, fun lo hlo => ?_⟩
      have n0 := Nw.mk0 (o := .lst []) hlo
      refine ⟨_, rfl, l, rfl, ⟨_, SqL.of (n0.same _ _ nx.at_)⟩, ?_⟩
      refine for_list (K := K) (a := l) (xs := ws.map V.ref) (fun i σ G2 => ∃ (os : List Addr) (y3 y5 y6 : Option V), σ = [some (.ref a), some (.ref t.s), some (.ref l), y3, some (.ref lo), y5, y6] ∧ Nw G G2 lo (.lst (os.map V.ref)) ∧ Al2 (fun o (W : Wd) => OrdAtF (fun x => x ≠ lo) K G2 o W.n (ups W.n W.ps)) os (Ws.take i))
        ⟨[], _, _, _, rfl, n0, .nil⟩ (fun i σ G2 _ ⟨_, _, _, _, _, z, _⟩ => SqL.of (z.same _ _ nx.at_)) ?_ ?_
      · rintro i x σ G2 hi ⟨os, y3, y5, y6, rfl, nw, ol⟩
        obtain ⟨p, hp, rfl⟩ := ref_get hi
        have hlt : i < Ws.length := by
          rw [← hws]
          exact (List.getElem?_eq_some_iff.mp hp).1
        have hWi := List.getElem?_eq_getElem hlt
        obtain ⟨pa, pb, pc, -, hp1, ⟨as, hpa, hpp⟩, -, -⟩ := (al.2 i p _ hp hWi).same nw.same
        obtain ⟨hn, hpl, ⟨rk, hps⟩, -, -, -, -⟩ := hok _ (List.getElem_mem hlt)
        have O := ordr hps
        have hol : os.length ≤ 2 := by
          rw [ol.1, List.length_take]
          omega
        refine ⟨_, rfl, tc (rdT (j := 1) hp1 rfl ⟨pa, _, rfl, Or.inl (SqL.of hpa), fun g hg => ?_⟩)⟩
        have ng := Nw.mk0 (o := .lst (as.map V.ref)) hg
        have nwg := nw.more ng.same
        have glo : g ≠ lo := fun e => by rw [e, nw.at_] at hg; cases hg
        refine ⟨.ref lo, rfl, Or.inl ⟨rfl, _, SqL.of nwg.at_⟩, _, rfl, tc (rdT (j := 0) (ng.same _ _ hp1) rfl ⟨_, rfl, fun x dx hx hdx hne => ?_⟩)⟩
        have sx : Same (upd G2 g (.lst (as.map V.ref))) (upd (upd (upd G2 g (.lst (as.map V.ref))) dx (.own x)) x (.ins (He.ga K "Order") dx [])) := fun b o hb => by
          rw [upd_ne (ne_of_none hb hx), upd_ne (ne_of_none hb hdx)]
          exact hb
        refine ⟨x, dx, g, _, Ws[i].ps, rfl, upd_same, hn, ⟨as, sx _ _ ng.at_, (hpp.same ng.same).same sx⟩, hpl, ps_val hps, fun j hj => ?_, fun G5 hk5 hO5 => ⟨rfl, ?_⟩⟩
        · cases q : ((ups Ws[i].n Ws[i].ps).getD j 0).testBit j with
          | false => rfl
          | true => exact absurd q (irr O.rk j)
        have s5 : Same (upd G2 g (.lst (as.map V.ref))) G5 := fun b o hb => hk5 b o (ne_of_none hb hx) (sx b o hb)
        have nw5 := nwg.more s5
        have ng5 := ng.more s5
        have hO5' : OrdAtF (fun u => u ≠ lo ∧ u ≠ g) K G5 x Ws[i].n (ups Ws[i].n Ws[i].ps) := hO5.imp fun u hu => by
          have hu2 : (upd G2 g (.lst (as.map V.ref))) u = none := sx.free hu
          refine ⟨fun e => ?_, fun e => ?_⟩
          · rw [e, nwg.at_] at hu2
            cases hu2
          · rw [e, upd_same] at hu2
            cases hu2
        refine ⟨lo, _, _, rfl, rfl, nw5.at_, by rw [List.length_map, sizeLine_eq]; omega, ?_⟩
        have n6 := nw5.put (u := .lst (os.map V.ref ++ [V.ref x]))
        have g6 : (upd G5 lo (.lst (os.map V.ref ++ [V.ref x]))) g = some (.lst (as.map V.ref)) := by
          rw [upd_ne glo]
          exact ng5.at_
        have hol6 : Al2 (fun o (W : Wd) => OrdAtF (fun x => x ≠ lo ∧ x ≠ g) K (upd G5 lo (.lst (os.map V.ref ++ [V.ref x]))) o W.n (ups W.n W.ps)) os (Ws.take i) := ol.mono fun o W h => (((ordAtF_new h hg).same ng.same).same s5).upd nw5.at_ (fun z => z.1 rfl)
        have hx6 := hO5'.upd (q := .lst (os.map V.ref ++ [V.ref x])) nw5.at_ (fun z => z.1 rfl)
        have p6 : (upd G5 lo (.lst (os.map V.ref ++ [V.ref x]))) p = some (.tup [nV Ws[i].n, .ref pa, .ref pb, .ref pc]) := upd_tup nw5.at_ _ _ (s5 _ _ (ng.same _ _ hp1))
        have palo : pa ≠ lo := fun e => by
          obtain ⟨pa', pb', pc', h0, hp1', ⟨as', hpa', _⟩, _⟩ := al.2 i p _ hp hWi
          have := nw.same _ _ hp1'
          rw [hp1] at this
          have h2 := HO.tup.inj (Option.some.inj this)
          have h3 : pa = pa' := by
            have := congrArg (fun z => z[1]?) h2
            exact V.ref.inj (Option.some.inj this)
          rw [← h3, e, nw.no] at hpa'
          cases hpa'
        have pa6 : (upd G5 lo (.lst (os.map V.ref ++ [V.ref x]))) pa = some (.lst (as.map V.ref)) := by
          rw [upd_ne palo]
          exact s5 _ _ (ng.same _ _ hpa)
        have pp6 : PairsAt (upd G5 lo (.lst (os.map V.ref ++ [V.ref x]))) as Ws[i].ps := ((hpp.same ng.same).same s5).mono (upd_tup nw5.at_)
        refine ⟨_, rfl, _, rfl, tc (rdT (j := 1) p6 rfl ⟨pd Ws[i].ps, pd Ws[i].ps, .lst (SqL.of g6) (dp_all as _ pp6), .lst (SqL.of pa6) (dp_all as _ pp6), pd_shaped _, pd_shaped _, _, rfl, ?_⟩)⟩
        rw [pd_eqv]
        refine iteB (fun h => nomatch h) (fun _ => ?_)
        refine ⟨_, rfl, Or.inl ⟨rfl, _, SqL.of g6⟩, g, _, rfl, rfl, g6, ?_⟩
        have n7 : Nw G (upd (upd G5 lo (.lst (os.map V.ref ++ [V.ref x]))) g (.lst [])) lo (.lst (os.map V.ref ++ [V.ref x])) := by
          refine ⟨n6.no, fun b o hb => ?_, ?_⟩
          · rw [upd_ne (ne_of_none hb (nw.same.free hg))]
            exact n6.same b o hb
          · rw [upd_ne (fun e => glo e.symm)]
            exact upd_same
        refine ⟨os ++ [x], _, _, _, rfl, ?_, ?_⟩
        · rw [List.map_append]
          exact n7
        · rw [take_step hWi]
          exact Al2.snoc (hol6.mono fun o W h => (h.upd (q := .lst []) g6 (fun z => z.2 rfl)).imp fun _ z => z.1) ((hx6.upd (q := .lst []) g6 (fun z => z.2 rfl)).imp fun _ z => z.1)
      · rintro σ G2 ⟨os, y3, y5, y6, rfl, nw, ol⟩
        rw [List.length_map, hws, List.take_length] at ol
        have hT3 := hT2.ext nw.same
        have nt : ∀ xs : List V, ∀ ps, HO.lst xs ≠ .tbl ps := fun _ _ h => nomatch h
        refine ⟨by show 3 ≤ _; rw [sizeLine_eq]; decide, fun q hq => ⟨q, rfl, ⟨_, SqL.of upd_same⟩, ?_⟩⟩
        have nq := same_new (o := .lst [V.int 0, V.int 1, V.int 0]) hq
        refine for_list (K := K) (a := q) (xs := [V.int 0, V.int 1, V.int 0]) (fun i σ G3 => ∃ (y3 : Option V), σ = [some (.ref a), some (.ref t.s), some (.ref l), y3, some (.ref lo), y5, y6] ∧ ExtN (upd G2 q (.lst [V.int 0, V.int 1, V.int 0])) G3 ∧ Tabs (tabs K) G3)
          ⟨_, rfl, ExtN.refl _, hT3.ext nq⟩ (fun i σ G3 _ ⟨_, _, z, _⟩ => SqL.of (z _ _ upd_same (nt _))) ?_ ?_
        · rintro i x σ G3 hi ⟨y3, rfl, e3, t3⟩
          obtain ⟨kk, hkk, rfl⟩ : ∃ kk : Nat, kk < 2 ∧ x = nV kk := by
            match i, hi with
            | 0, hi => exact ⟨0, by decide, (Option.some.inj hi).symm⟩
            | 1, hi => exact ⟨1, by decide, (Option.some.inj hi).symm⟩
            | 2, hi => exact ⟨0, by decide, (Option.some.inj hi).symm⟩
          have e2 : ExtN G2 G3 := (ExtN.of nq).trans e3
          have eG : ExtN G G3 := (ExtN.of nw.same).trans e2
          have hWl : Ws.length = 2 := by rw [← hws, hlen]
          have ho1 : os[kk]? = some (os[kk]'(by rw [ol.1]; omega)) := List.getElem?_eq_getElem _
          have hw1 : ws[kk]? = some (ws[kk]'(by omega)) := List.getElem?_eq_getElem _
          have hW1 : Ws[kk]? = some (Ws[kk]'(by omega)) := List.getElem?_eq_getElem _
          have go : (os.map V.ref)[kk]? = some (.ref (os[kk]'(by rw [ol.1]; omega))) := by rw [List.getElem?_map, ho1]; rfl
          have gw : (ws.map V.ref)[kk]? = some (.ref (ws[kk]'(by omega))) := by rw [List.getElem?_map, hw1]; rfl
          refine ⟨_, rfl, _, rfl, rdV (e2 _ _ nw.at_ (nt _)) go ⟨_, rfl, _, rfl, rdV (eG _ _ nx.at_ (nt _)) gw (tnil ⟨_, _, _, rfl, ordAt_ext (ol.2 kk _ _ ho1 hW1).ord e2, (wdAt_ext (al.2 kk _ _ hw1 hW1) eG).imp fun _ _ => trivial, hok _ (List.getElem_mem _), t3, fun G4 e4 t4 => ⟨_, rfl, iteB (fun h => nomatch h) (fun _ => ⟨_, rfl, e3.trans e4, t4⟩)⟩⟩)⟩⟩
        · rintro σ G3 ⟨y3, rfl, e3, t3⟩
          exact k _
end
end Q

set_option Elab.async false
set_option linter.all false
set_option maxRecDepth 100000
set_option maxHeartbeats 0
open PySem PySem.W PySem.Calls PyProof.Rows
theorem PySem.Challenge.cw_onecodestands_k69_codes_in_the_middle_holds : PySem.Challenge.rw_onecodestands_k69_codes_in_the_middle.Holds := by
  w_on; o_law
  refine HandSHeadRun.head_any (r := Q.R) (q := view Q.R.prog [75]) (H := Q.hk) (ob := Q.ob) (M := 10000) (loose := Q.names) (d := HandSHeadRun.topDef Q.R.prog 75) (kwd := []) Q.ob_eq
    (by kernel_rfl) (fun s => by kernel_rfl) Q.run (by kernel_rfl) (by kernel_rfl) (by kernel_rfl) (by rfl) (by first | assumption | decide +kernel) (by decide +kernel) ⟨rfl, rfl, rfl, rfl, rfl, by decide +kernel⟩ ?hw ?hc
  case hw => w_witness2
  case hc =>
    refine LamX.walk_ofTsE (l := PySem.Challenge.rw_onecodestands_k69_codes_in_the_middle) (n := 63) (k := 60) (x := "script") (CX := fun w => L2N.CX Q.pw w) rfl (by decide) (by kernel_rfl) ⟨rfl, by decide, by decide⟩ ?F (fun w H s e s' h => Hx.nogN _ _ _ _ _ h)
    intro w mg fa h Y G hmg0
    obtain ⟨K, KX, c⟩ := Y
    have hmg : mg ("law" : PySem.Str) = some (.ref fa) := by
      have e : (HandSHeadRun.topDef Q.R.prog 75).name = ("law" : PySem.Str) := by kernel_rfl
      rw [← e]
      exact hmg0
    have T := Q.txt_of KX G c
    have ef : fa = He.ga K "law" := by
      have z := T.g_law
      rw [hmg] at z
      exact Value.ref.inj (Option.some.inj z)
    subst ef
    obtain ⟨fd0, F0⟩ := T.F_law
    refine ⟨K, KX, fd0, Q.tabsOf K, Q.spLaw K, ?_, ?_, ?_, ?_, ?_, ?_⟩
    · intro p hp
      obtain ⟨q, hq, rfl⟩ := List.mem_map.mp hp
      exact c.emp q hq
    · intro p hp
      obtain ⟨q, hq, rfl⟩ := List.mem_map.mp hp
      exact c.out q hq
    · intro p hp
      obtain ⟨q, hq, rfl⟩ := List.mem_map.mp hp
      exact codeHd_of_K KX (c.hd q hq)
    · intro s u
      exact (L2.FunD.bindsA (ps := ["script"]) F0 (fun _ _ _ _ _ _ us hl => match us, hl with | [_], _ => rfl)) s [u] rfl
    · intro H a ns hl hbits hT hS
      exact ⟨a, ns, rfl, hS, hl, hbits, hT, fun _ => rfl⟩
    · intro base hK hG hTB
      exact Q.law_fn T (fun x hx => hTB _ (List.mem_map_of_mem hx)) F0

