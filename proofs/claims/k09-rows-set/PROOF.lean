import PyProof.Rows.All
import Wide.All
import OpenK.AllK
import Wide.FinOn
import KE.KStateDown
import KE.KOpsOwn
import HandS.ForMost
import HandS.More
import HandS.Exc
import HandS.WordsExc
import HandS.Defaults
import HandS.Property
import HandS.IsInst
import HandS.Wide
import HandS.Head0
import HandS.Head1
import HandS.Head2
import HandS.HeadEnd
import HandS.HeadHook1
import HandS.HeadHook2
import PyProof.ReprRoads
import HandS.ExcInit
import HandS.ExcField
import HandS.ExcIs
import KE.KExcIs
import HandS.EndTab
import HandS.HeadHook4
import HandS.Star
import HandS.ClsMeth
import HandS.Lambda
import HandS.RaiseMore
import HandS.Iter
import KE.GoesMore
import PyProof.EnumMake
import HandS.MakeKw
import PySem.Challenge.RW_everyhunt_k09_rows_set
set_option Elab.async false
set_option linter.all false
set_option maxRecDepth 100000
/-! Gh: a head's Hook by addresses: each def by where the written part has it, and one Bool more. -/
namespace Gh
open PySem PySem.Spec PyProof.Rows L2
/-- a def: where it stands (by the written part), its names, parameters, body, scope, defaults -/
structure Df where
  adr : PySem.W.Frag → Addr
  name : Str
  qual : Str
  st : Stmt
  dfl : List He.Dv := []
def Df.val (d : Df) : He.FnW := some (d.name, d.qual, defArgs d.st, .stmts (defBody d.st), defScope d.st, mainGlobals, [], builtinsNs)
def Df.dvs (K : PySem.W.Frag) (d : Df) : List V := d.dfl.map (He.Dv.v K)
def fnAt (K : PySem.W.Frag) (a : Addr) : He.FnW := match K.lookup a with
  | some ⟨_, _, .func fd, _⟩ => some (fd.name, fd.qualname, fd.params, fd.body, fd.scope, fd.globals, fd.closure, fd.builtins)
  | _ => none
def Df.ok (K : PySem.W.Frag) (d : Df) : Bool := PySem.W.keepIn K (.ref (d.adr K)) && (match K.lookup (d.adr K) with
  | some ⟨_, _, .func fd, _⟩ => PySem.W.codeIn K fd.code d.qual && (He.dflB K fd.defaults (d.dvs K) && He.kwdB K fd.kwdefaults [])
  | _ => false)
/-- what a def's fact is worth -/
abbrev FnA (K : PySem.W.Frag) (d : Df) (fd : FuncData) : Prop := FunD K d.name d.qual (defArgs d.st) (defBody d.st) (defScope d.st) (d.dvs K) [] (d.adr K) fd
theorem Df.funD {K : PySem.W.Frag} {d : Df} (e : fnAt K (d.adr K) = d.val) (c : d.ok K = true) : ∃ fd, FnA K d fd := by
  obtain ⟨kp, c2⟩ := He.ba c
  unfold fnAt at e
  cases q : K.lookup (d.adr K) with
  | none =>
    rw [q] at c2
    cases c2
  | some o =>
    obtain ⟨oc, od, dt, osl⟩ := o
    rw [q] at c2 e
    cases dt with
    | func fd =>
      obtain ⟨n1, n2, n3, n4, n5, n6, n7, n8, n9, n10, n11, n12, n13, n14, n15⟩ := fd
      have e2 : (some (n1, n2, n3, n4, n5, n6, n7, n15) : He.FnW) = some (d.name, d.qual, defArgs d.st, .stmts (defBody d.st), defScope d.st, mainGlobals, [], builtinsNs) := e
      simp only [Option.some.injEq, Prod.mk.injEq] at e2
      obtain ⟨h1, h2, h3, h4, h5, h6, h7, h8⟩ := e2
      subst h1 h2 h3 h4 h5 h6 h7 h8
      have c3 : (PySem.W.codeIn K n13 d.qual && (He.dflB K n8 (d.dvs K) && He.kwdB K n9 [])) = true := c2
      obtain ⟨k1, k2⟩ := He.ba c3
      obtain ⟨k3, k4⟩ := He.ba k2
      exact ⟨_, ⟨oc, od, n8, n9, n10, n11, n12, n13, n14, osl, rfl, q, k1, He.dflB_ok k3, He.kwdB_ok k4⟩, kp⟩
    | _ => cases c2
abbrev Al : Type := Bool × List He.FnW
def obs (ex : List (PySem.W.Frag → Bool)) (fn : List Df) (K : PySem.W.Frag) : Al := ((ex.all fun f => f K) && fn.all fun d => d.ok K, fn.map fun d => fnAt K (d.adr K))
def val (fn : List Df) : Al := (true, fn.map Df.val)
def Says (ex : List (PySem.W.Frag → Bool)) (fn : List Df) (K : PySem.W.Frag) : Prop := obs ex fn K = val fn
def obsG (n : Nat) (ex : List (PySem.W.Frag → Bool)) (fn : List Df) (g : Addr → Option Obj) : Al := obs ex fn (He.frG g (He.asD g n))
def hook (n : Nat) (ex : List (PySem.W.Frag → Bool)) (fn : List Df) : PySem.W.Hook where
  α := Al
  obs := fun s => obsG n ex fn s.heap.get?
  val := fun _ => val fn
  says := fun _ h => ∃ K : PySem.W.Frag, K.In h ∧ Says ex fn K
  of := fun _ _ e => ⟨_, He.frG_in, e⟩
  keeps := fun _ _ _ ⟨K, hK, c⟩ k => ⟨K, PySem.W.Frag.In.keeps hK k, c⟩
theorem obsG_eq {n : Nat} {ex : List (PySem.W.Frag → Bool)} {fn : List Df} {g : Addr → Option Obj} {s : Shared} (h : ∀ a, g a = s.heap.get? a) : obsG n ex fn g = (hook n ex fn).obs s := by
  have e : g = s.heap.get? := funext h
  rw [e] <;> rfl
theorem Says.fact {ex : List (PySem.W.Frag → Bool)} {fn : List Df} {K : PySem.W.Frag} (c : Says ex fn K) (i : Nat) {f : PySem.W.Frag → Bool} (h : ex[i]? = some f := by rfl) : f K = true := by
  have c1 := (He.ba (show ((ex.all fun f => f K) && fn.all fun d => d.ok K) = true from congrArg (fun z : Al => z.1) c)).1
  exact List.all_eq_true.mp c1 f (List.mem_of_getElem? h)
theorem Says.def_ {ex : List (PySem.W.Frag → Bool)} {fn : List Df} {K : PySem.W.Frag} (c : Says ex fn K) (i : Nat) {d : Df} (h : fn[i]? = some d := by rfl) : ∃ fd, FnA K d fd := by
  have c2 := (He.ba (show ((ex.all fun f => f K) && fn.all fun d => d.ok K) = true from congrArg (fun z : Al => z.1) c)).2
  have e : fn.map (fun d => fnAt K (d.adr K)) = fn.map Df.val := congrArg (fun z : Al => z.2) c
  have e2 : (fn.map fun d => fnAt K (d.adr K))[i]? = (fn.map Df.val)[i]? := by rw [e]
  rw [List.getElem?_map, List.getElem?_map, h] at e2
  exact Df.funD (Option.some.inj e2) (List.all_eq_true.mp c2 d (List.mem_of_getElem? h))
/-! addresses -/
/-- a property's getter -/
def propG (x m : Str) (K : PySem.W.Frag) : Addr := match PySem.W.recIn K (He.ma K (He.ga K x) m) "property" with
  | some (.ref g :: _) => g
  | _ => 0
def propB (x m : Str) (K : PySem.W.Frag) : Bool := He.eqO (PySem.W.findIn K (.ref (He.ga K x)) m) (some (some (.ref (He.ma K (He.ga K x) m)))) &&
  (He.eqO (PySem.W.specialIn K (.ref (He.ma K (He.ga K x) m)) "__get__") (some (some (.builtin "property.__get__"))) &&
  (decide (PySem.W.takesIn K (.ref (He.ma K (He.ga K x) m)) = some true) && (match PySem.W.recIn K (He.ma K (He.ga K x) m) "property" with
    | some (.ref _ :: _) => true
    | _ => false)))
theorem propB_ok {x m : Str} {K : PySem.W.Frag} (h : propB x m K = true) : PropOf K (He.ga K x) m (He.ma K (He.ga K x) m) (propG x m K) := by
  obtain ⟨h1, h2⟩ := He.ba h
  obtain ⟨h3, h4⟩ := He.ba h2
  obtain ⟨h5, h6⟩ := He.ba h4
  refine ⟨He.eqO_ok h1, He.eqO_ok h3, of_decide_eq_true h5, ?_⟩
  unfold propG
  cases q : PySem.W.recIn K (He.ma K (He.ga K x) m) "property" with
  | none =>
    rw [q] at h6
    cases h6
  | some l =>
    rw [q] at h6
    cases l with
    | nil => cases h6
    | cons v r =>
      cases v with
      | ref g => exact ⟨r, rfl⟩
      | _ => cases h6
/-- a top's def, a class's method, a property's getter -/
def gd (x : Str) : PySem.W.Frag → Addr := fun K => He.ga K x
def md (x m : Str) : PySem.W.Frag → Addr := fun K => He.ma K (He.ga K x) m
def fa (f : He.Fa) : PySem.W.Frag → Bool := fun K => f.ok K
/-- isinstance of an own class's instance and of built-in values against it -/
structure InsT (K : PySem.W.Frag) (C : Addr) : Prop where
  ha : PySem.W.findIn K (.ref C) "__class__" = some (some (.builtin "object.__class__"))
  hn : PySem.W.specialIn K (.builtin "object.__class__") "__get__" = some (some (.builtin "getset_descriptor.__get__"))
  htk : PySem.W.takesIn K (.builtin "object.__class__") = some true
  hm : PySem.W.mroIn K C (.type "object") = some true
  yes : PySem.W.kitOne K (.ref C) (.ref C) = some true
  no : ∀ n ∈ (["NoneType", "bool", "int", "str", "list", "tuple", "dict"] : List String), PySem.W.kitOne K (.type n) (.ref C) = some false
  out : ∀ n ∈ (["NoneType", "bool", "int", "str", "list", "tuple", "dict"] : List String), PySem.W.kitOne K (.ref C) (.type n) = some false
def insB (x : Str) (K : PySem.W.Frag) : Bool := He.eqO (PySem.W.findIn K (.ref (gd x K)) "__class__") (some (some (.builtin "object.__class__"))) &&
  (He.eqO (PySem.W.specialIn K (.builtin "object.__class__") "__get__") (some (some (.builtin "getset_descriptor.__get__"))) &&
  (decide (PySem.W.takesIn K (.builtin "object.__class__") = some true) && (decide (PySem.W.mroIn K (gd x K) (.type "object") = some true) &&
  (decide (PySem.W.kitOne K (.ref (gd x K)) (.ref (gd x K)) = some true) && (((["NoneType", "bool", "int", "str", "list", "tuple", "dict"] : List String).all fun n => decide (PySem.W.kitOne K (.type n) (.ref (gd x K)) = some false)) &&
  ((["NoneType", "bool", "int", "str", "list", "tuple", "dict"] : List String).all fun n => decide (PySem.W.kitOne K (.ref (gd x K)) (.type n) = some false)))))))
theorem insB_ok {x : Str} {K : PySem.W.Frag} (h : insB x K = true) : InsT K (gd x K) := by
  obtain ⟨h1, h⟩ := He.ba h
  obtain ⟨h2, h⟩ := He.ba h
  obtain ⟨h3, h⟩ := He.ba h
  obtain ⟨h4, h⟩ := He.ba h
  obtain ⟨h5, h⟩ := He.ba h
  obtain ⟨h6, h7⟩ := He.ba h
  exact ⟨He.eqO_ok h1, He.eqO_ok h2, of_decide_eq_true h3, of_decide_eq_true h4, of_decide_eq_true h5, fun n hn => of_decide_eq_true (List.all_eq_true.mp h6 n hn), fun n hn => of_decide_eq_true (List.all_eq_true.mp h7 n hn)⟩
/-- the class comes first of its line -/
structure OwnT (K : PySem.W.Frag) (C : Addr) : Prop where
  first : PySem.W.selfFirst K C = true
  nf : PySem.W.notFirst K C (.ref C) = true
  sub : PySem.W.subIn K (.type "int") (.ref C) = some false
def ownB (x : Str) (K : PySem.W.Frag) : Bool := PySem.W.selfFirst K (gd x K) && (PySem.W.notFirst K (gd x K) (.ref (gd x K)) && decide (PySem.W.subIn K (.type "int") (.ref (gd x K)) = some false))
theorem ownB_ok {x : Str} {K : PySem.W.Frag} (h : ownB x K = true) : OwnT K (gd x K) := by
  obtain ⟨h1, h⟩ := He.ba h
  obtain ⟨h2, h3⟩ := He.ba h
  exact ⟨h1, h2, of_decide_eq_true h3⟩
/-- an operator between the class and an int -/
structure OpT (K : PySem.W.Frag) (C : Addr) (op : Operator) : Prop where
  rc : ∃ rc, PySem.W.findIn K (.ref C) (dunderR op.info.2) = some rc ∧ (rc = none ∨ ∃ g : Addr, rc = some (.ref g))
  fo : ∃ fo, PySem.W.findIn K (.type "int") (PySem.dunder op.info.2) = some fo
  ro : ∃ ro, PySem.W.findIn K (.type "int") (dunderR op.info.2) = some ro
def opB (x : Str) (op : Operator) (K : PySem.W.Frag) : Bool := (match PySem.W.findIn K (.ref (gd x K)) (dunderR op.info.2) with
    | some none => true
    | some (some (.ref _)) => true
    | _ => false) && ((PySem.W.findIn K (.type "int") (PySem.dunder op.info.2)).isSome && (PySem.W.findIn K (.type "int") (dunderR op.info.2)).isSome)
theorem opB_ok {x : Str} {op : Operator} {K : PySem.W.Frag} (h : opB x op K = true) : OpT K (gd x K) op := by
  obtain ⟨h1, h⟩ := He.ba h
  obtain ⟨h2, h3⟩ := He.ba h
  refine ⟨?_, Option.isSome_iff_exists.mp h2, Option.isSome_iff_exists.mp h3⟩
  cases q : PySem.W.findIn K (.ref (gd x K)) (dunderR op.info.2) with
  | none =>
    rw [q] at h1
    cases h1
  | some o =>
    cases o with
    | none => exact ⟨none, rfl, .inl rfl⟩
    | some v =>
      cases v with
      | ref g => exact ⟨_, rfl, .inr ⟨g, rfl⟩⟩
      | _ =>
        rw [q] at h1
        cases h1
/-- a module's int -/
theorem pe_gi {X : Cx} {x : Str} {i : Int} {pos : Pos} (h : ∃ t, X.mg x = some (.int i t)) (hg : Gl X x) (hd : (x == ("__debug__" : Str)) = false := by decide) : PE X (.Name x pos) (tC (.int i)) := by
  obtain ⟨t, e⟩ := h
  exact pe_glob hg e ⟨t, rfl⟩ hd
end Gh

set_option Elab.async false
set_option linter.all false
set_option maxRecDepth 100000
set_option maxHeartbeats 4000000
/-! Rl: promises of defs that also know that nothing is being shown around them (so that repr can be told); the rules that call them. -/
namespace Gh
open PySem PySem.Spec PyProof.Rows L2
/-- the def at f keeps the promise sp where nothing is being shown around it -/
structure FnG (P : Program) (w : World) (K : PySem.W.Frag) (mg : Str → Option Value) (base : Heap) (CX : CXT) (k : Nat) (f : Addr) (fd : FuncData) (ps : List Str) (sp : Sp) : Prop where
  len : ∀ vs H Q E, sp vs H Q E → vs.length = ps.length
  run : ∀ (A : Around) (outer : List Env) (s : Shared) (H : Hp) (args : Args) (us : List Value) (vs : List V) (Q : VK) (E : XK), Room k A → A.guards = some [] → Env0 P w K mg base A outer s H → BindsTo s fd args (ps.zip us) → Vals vs us → sp vs H Q E →
    codeAny (model P w) A (.call (.ref f) args) (CR CX outer P w H s Q E) s
/-- a def, called with some arguments, the defaults dvs behind them -/
def Prom (P : Program) (w : World) (K : PySem.W.Frag) (mg : Str → Option Value) (base : Heap) (CX : CXT) (k : Nat) (f : Addr) (dvs : List V) (sp : Sp) : Prop :=
  ∃ (fd : FuncData) (ps : List Str) (ds : List Value), FnG P w K mg base CX k f fd ps sp ∧ Binds K fd ps ds ∧ Vals dvs ds
section
variable {P : Program} {w : World} {K : PySem.W.Frag} {mg : Str → Option Value} {base : Heap} {CX : CXT} {j k : Nat} {f : Addr} {fd : FuncData} {ps : List Str} {sp : Sp} {dvs : List V}
theorem FnG.mono (F : FnG P w K mg base CX j f fd ps sp) (h : j ≤ k) : FnG P w K mg base CX k f fd ps sp := ⟨F.len, fun A o s H a us vs Q E hr => F.run A o s H a us vs Q E (hr.mono h)⟩
theorem Prom.mono (F : Prom P w K mg base CX j f dvs sp) (h : j ≤ k) : Prom P w K mg base CX k f dvs sp := by
  obtain ⟨fd, ps, ds, G, b, v⟩ := F
  exact ⟨fd, ps, ds, G.mono h, b, v⟩
/-- a def's body -/
theorem fnG_of {x qual : Str} {params : Arguments} {body : List Stmt} {scope : Scope} {kws : List (Str × V)} {N : List Str} (F : FunD K x qual params body scope dvs kws f fd) (S : FnScope N ps scope) (len : ∀ vs H Q E, sp vs H Q E → vs.length = ps.length)
    (hbody : ∀ (cdv : Value) (A : Around) (outer : List Env) (s : Shared) (H : Hp) (vs : List V) (Q : VK) (E : XK), Room k (A.deeper (envOfC qual scope s.heap.objs.size f cdv)) → (A.deeper (envOfC qual scope s.heap.objs.size f cdv)).guards = some [] → sp vs H Q E →
      ∃ t, PSs (cxOf CX P w K mg base N qual scope f cdv A outer s H E) body t ∧ t { nx := fun _ H' => Q .non H', rt := Q } (start N vs) H) : FnG P w K mg base CX (k + 1) f fd ps sp := by
  obtain ⟨oc, od, dV, kV, doc, pm, an, cdv, ct, osl, rfl, lk, hcd, _, _⟩ := F.ex
  refine ⟨len, fun A outer s H args us vs Q E hr hg e0 hb r hsp => ?_⟩
  have hl := len _ _ _ _ hsp
  have KX : K.In s.heap := e0.mod.kin.keeps fun b o e => (e0.bs b o e).1
  have lim : s.heap.NoLimit := e0.mod.nolimit.keeps fun b o e => (e0.bs b o e).1
  have hkind : ∀ y ∈ ps.zip us, scope.names.lookup y.1 = some .local ∨ (scope.names.lookup y.1 = some .cell ∧ ((cellsFrom (s.heap.objs.size + 1) scope.names []).lookup y.1).isSome = true) := fun ⟨n, v⟩ hy => by
    rcases S.par n (List.of_mem_zip hy).1 with q | q
    · exact .inl q
    · exact .inr ⟨q, PySem.W.cellsFrom_some _ _ _ (.inl q)⟩
  refine codeAny_call_function hr.depth (KX _ _ lk) rfl S.co S.gen rfl (PySem.W.codeRec_of KX hcd) (hb _ _ _ _ ?_)
  refine wpAny_newFunctionEnv_cells S.kind hkind fun env he s1 x => ?_
  subst he
  refine ⟨lim.keeps x.toInCall.keep, codeAny_func ?_⟩
  obtain ⟨t, ht, hq⟩ := hbody cdv A outer s H vs Q E (hr.deeper _) hg hsp
  have I : Inv (cxOf CX P w K mg base N qual scope f cdv A outer s H E) [] (start N vs) H s1 := inv_start S hr.hd e0 hl r x
  refine wpAny_mono (ht.run [] s1 (start N vs) H _ I hq) (fun fl s' hs => ?_) fun e s' hs => hs
  cases fl with
  | ret u =>
    obtain ⟨v, σ', H', J, rv, q⟩ := hs
    exact ⟨v, H', J.os, J.bare, J.base, J.hok, rv, q⟩
  | next =>
    obtain ⟨σ', H', J, q⟩ := hs
    exact ⟨V.non, H', J.os, J.bare, J.base, J.hok, rfl, q⟩
  | brk =>
    obtain ⟨_, _, _, q⟩ := hs
    exact False.elim q
  | cont =>
    obtain ⟨_, _, _, q⟩ := hs
    exact False.elim q
end
/-! ### calls -/
section
variable {X : Cx} {CX : CXT} {k : Nat} {f g C : Addr} {sp : Sp} {dvs : List V} {E : XK} {x m : Str} {p pos apos : Pos} {e o : Expr} {es : List Expr} {ta tb : TE} {t : TA} {r : List V → Hp → VK → Prop}
abbrev PromX (X : Cx) (CX : CXT) (k : Nat) (f : Addr) (dvs : List V) (sp : Sp) : Prop := Prom X.prog X.w X.K X.mg X.base CX k f dvs sp
/-- what is asked at a call -/
def rSp (sp : Sp) (dvs : List V) (E : XK) : List V → Hp → VK → Prop := fun xs H Q => sp (xs ++ dvs) H Q E
theorem Prom.call (F : PromX X CX k f dvs sp) (hr : Room k X.A) (hg : X.A.guards = some []) (hx : Passes CX X E) : CallR X (.ref f) (rSp sp dvs E) := by
  intro pins s σ H xs us Q I r h
  obtain ⟨fd, ps, ds, G, b, hd⟩ := F
  have r2 : Vals (xs ++ dvs) (us ++ ds) := r.append hd
  have hl : (us ++ ds).length = ps.length := by rw [← r2.length]; exact G.len _ _ _ _ h
  refine wpAny_call (codeAny_mono (G.run X.A X.stack s H ⟨us, []⟩ (us ++ ds) (xs ++ dvs) Q E hr hg I.env0 (b s us I.kIn hl) r2 h) fun r s' hq => ?_)
  cases r with
  | error e => exact hx pins σ H s e s' I hq
  | ok fl =>
    cases fl with
    | ret u => exact I.after hq
    | next => exact False.elim hq
    | brk => exact False.elim hq
    | cont => exact False.elim hq
/-- what is asked where an instance is made -/
@[irreducible] def rMk (C : Addr) (sp : Sp) (dvs : List V) (E : XK) : List V → Hp → VK → Prop := fun vs H Q =>
  ∀ x dx, H x = none → H dx = none → dx ≠ x → sp (.ref x :: (vs ++ dvs)) (upd (upd H dx (.own x)) x (.ins C dx [])) (fun v H2 => v = .non ∧ Q (.ref x) H2) E
theorem guards_make {A : Around} {us : List Value} {kw : List (Str × Value)} (h : A.guards = some []) : (A.under (.builtin "type.__call__" ⟨.ref C :: us, kw⟩)).guards = some [] := by
  show pushGuards (Code.guards (.builtin "type.__call__" ⟨.ref C :: us, kw⟩)) A.guards = some []
  have e : Code.guards (.builtin "type.__call__" ⟨.ref C :: us, kw⟩) = [] := by
    unfold Code.guards
    rw [if_neg (by show ¬ (guardIds.contains "type.__call__" = true); decide)]
  rw [e]
  exact h
theorem Prom.make (M : Mk X.K C f) (F : PromX X CX k f dvs sp) (hr : Room (k + 1) X.A) (hg : X.A.guards = some []) (hx : Passes CX X E) : CallR X (.ref C) (rMk C sp dvs E) := by
  intro pins s σ H vs us Q I r h
  unfold rMk at h
  obtain ⟨fd, ps, ds, G, b, hd⟩ := F
  have hq := h (s.heap.objs.size + 1) s.heap.objs.size (I.hok.fresh (Nat.le_succ _)) (I.hok.fresh (Nat.le_refl _)) (Nat.ne_of_lt (Nat.lt_succ_self _))
  have I2 := Inv.made (C := C) I
  have r2 : Vals (V.ref (s.heap.objs.size + 1) :: (vs ++ dvs)) (Value.ref (s.heap.objs.size + 1) :: (us ++ ds)) := .cons rfl (r.append hd)
  have hl : (Value.ref (s.heap.objs.size + 1) :: us ++ ds).length = ps.length := by
    have e := r2.length
    rw [G.len _ _ _ _ hq] at e
    exact e.symm
  refine wpAny_call (make_map (f := f) I.kIn M.makes M.init (beq_iff_eq.mp M.fn) (codeAny_mono (G.run _ X.stack _ _ ⟨Value.ref (s.heap.objs.size + 1) :: us, []⟩ (Value.ref (s.heap.objs.size + 1) :: (us ++ ds)) _ _ E (hr.make C us []) (guards_make hg)
    (I2.env0.make C us []) (b _ (Value.ref (s.heap.objs.size + 1) :: us) I2.kIn hl) r2 hq) fun r s' hq' => ?_))
  cases r with
  | error e => exact hx pins σ _ _ e s' I2 hq'
  | ok fl =>
    cases fl with
    | ret u =>
      obtain ⟨v, H', I3, rv, ev, q3⟩ := I2.after hq'
      subst ev
      exact ⟨rv, ⟨V.ref (s.heap.objs.size + 1), H', I3, rfl, q3⟩⟩
    | next => exact False.elim hq'
    | brk => exact False.elim hq'
    | cont => exact False.elim hq'
def tCl (r : List V → Hp → VK → Prop) (t : TA) : TE := fun σ H Q => t σ H fun vs H1 => r vs H1 Q
/-- x(e, ..), x a name of the module that holds a def or a class -/
theorem pe_g (R : CallR X (.ref f) r) (hg : Gl X x) (hm : X.mg x = some (.ref f)) (hk : PySem.W.keepIn X.K (.ref f) = true)
    (ha : PA X (e :: es) t) (hdb : (x == ("__debug__" : Str)) = false := by decide) (he : starEach (e :: es) X.env = (false, eval e X.env) :: starEach es X.env := by rfl) (hpl : (backTo pos (starEach es X.env)).any (·.1) = false := by rfl) :
    PE X (.Call (.Name x p) (e :: es) [] pos) (tCl r t) := by
  refine ⟨fun pins s σ H Q I h => ?_⟩
  refine wpAny_Call_Name_kw (ld_glob I hg hm ?_ hdb)
  refine PySem.W.callWith_K (h₀ := X.base) I.ok.mod.kin hk (thn (ha.run pos pins s σ H _ I h) fun us s1 ⟨vs, H1, I1, r, q⟩ => ⟨I1.kIn, ?_⟩) he hpl
  exact R pins s1 σ H1 vs us Q I1 r q
/-- x() -/
theorem pe_g0 (R : CallR X (.ref f) r) (hg : Gl X x) (hm : X.mg x = some (.ref f)) (hk : PySem.W.keepIn X.K (.ref f) = true) (hdb : (x == ("__debug__" : Str)) = false := by decide) : PE X (.Call (.Name x p) [] [] pos) (tCl r tNil) := by
  refine ⟨fun pins s σ H Q I h => ?_⟩
  refine wpAny_Call_Name_kw (ld_glob I hg hm ?_ hdb)
  exact PySem.W.callWith_K0 I.kIn hk (R pins s σ H [] [] Q I .nil h)
/-- o.m(e, ..) -/
def tMt (C : Addr) (m : Str) (r : List V → Hp → VK → Prop) (ta : TE) (t : TA) : TE := fun σ H Q => ta σ H fun x H1 => ∃ a dx fs, x = .ref a ∧ H1 a = some (.ins C dx fs) ∧ fs.lookup m = none ∧ t σ H1 fun vs H2 => r (x :: vs) H2 Q
theorem pe_m {pl : Sem Bool} (he : PE X o ta) (c : Cls X.K C) (hm : Meth X.K C m f) (R : CallR X (.ref f) r) (ha : PA X (e :: es) t)
    (hst : starEach (e :: es) X.env = (false, eval e X.env) :: starEach es X.env := by rfl) (hpl : (backTo pos (starEach es X.env)).any (·.1) = false := by rfl)
    (ht : eval (.Call (.Attribute o m apos) (e :: es) [] pos) X.env = (do
      let ov ← eval o X.env
      standAt apos.atName
      let (f, first) ← holding [ov] (getMethod ov m pl)
      callWith pos f first (backTo pos (starEach (e :: es) X.env)) (backToKw pos (keywordEach [] X.env))) := by rfl) :
    PE X (.Call (.Attribute o m apos) (e :: es) [] pos) (tMt C m r ta t) := by
  refine ⟨fun pins s σ H Q I h => ?_⟩
  refine PySem.W.methodCall_KW (pl := pl) (thn (he.run pins s σ H _ I h) fun u s1 ⟨x, H1, I1, rx, a, dx, fs, ex, ea, l, q⟩ => ?_) ht
  subst ex
  obtain rfl : u = Value.ref a := rx
  refine getmeth_ok I1 ea c hm l ?_
  refine PySem.W.callWith_K (first := [.ref a]) (h₀ := X.base) I.ok.mod.kin hm.kp (thn (ha.run pos pins s1 σ H1 _ I1 q) fun us s2 ⟨vs, H2, I2, r, q2⟩ => ⟨I2.kIn, ?_⟩) hst hpl
  exact R pins s2 σ H2 (.ref a :: vs) (.ref a :: us) Q I2 (.cons rfl r) q2
theorem pe_m0 {pl : Sem Bool} (he : PE X o ta) (c : Cls X.K C) (hm : Meth X.K C m f) (R : CallR X (.ref f) r)
    (ht : eval (.Call (.Attribute o m apos) [] [] pos) X.env = (do
      let ov ← eval o X.env
      standAt apos.atName
      let (f, first) ← holding [ov] (getMethod ov m pl)
      callWith pos f first (backTo pos (starEach [] X.env)) (backToKw pos (keywordEach [] X.env))) := by rfl) :
    PE X (.Call (.Attribute o m apos) [] [] pos) (tMt C m r ta tNil) := by
  refine ⟨fun pins s σ H Q I h => ?_⟩
  refine PySem.W.methodCall_KW (pl := pl) (thn (he.run pins s σ H _ I h) fun u s1 ⟨x, H1, I1, rx, a, dx, fs, ex, ea, l, q⟩ => ?_) ht
  subst ex
  obtain rfl : u = Value.ref a := rx
  refine getmeth_ok I1 ea c hm l ?_
  exact PySem.W.callWith_K0 (first := [.ref a]) I1.kIn hm.kp (R pins s1 σ H1 [.ref a] [.ref a] Q I1 (.cons rfl .nil) q)
/-- o.f, a property -/
def tPr (C : Addr) (sp : Sp) (dvs : List V) (E : XK) (ta : TE) : TE := fun σ H Q => ta σ H fun x H1 => ∃ a dx fs, x = .ref a ∧ H1 a = some (.ins C dx fs) ∧ sp (.ref a :: dvs) H1 Q E
theorem pe_p {pp : Addr} (he : PE X o ta) (c : Cls X.K C) (hp : PropOf X.K C m pp g) (F : PromX X CX k g dvs sp) (hr : Room (k + 1) X.A) (hg : X.A.guards = some []) (hx : Passes CX X.nox E)
    (hab : attributeBase o m X.env (eval o X.env) = eval o X.env := by rfl) : PE X (.Attribute o m pos) (tPr C sp dvs E ta) := by
  refine ⟨fun pins s σ H Q I0 h => ?_⟩
  refine attr_of hab (thn (he.run pins s σ H _ I0 h) fun u s1 ⟨x, H1, I, rx, a, dx, fs, ex, ea, q⟩ => ?_)
  subst ex
  obtain rfl : u = Value.ref a := rx
  obtain ⟨fd, ps, ds, G, b, hd⟩ := F
  obtain ⟨mA, O, _, _, _, _⟩ := ins_get I.hok ea
  obtain ⟨od, J, _⟩ := O.look
  obtain ⟨rest, hrec⟩ := hp.rec_
  have I1 := I.tok (s1.toks + 1)
  have hl : ([Value.ref a] ++ ds).length = ps.length := by
    rw [← G.len _ _ _ _ q]
    show ds.length + 1 = dvs.length + 1
    rw [hd.length]
  have hc : (PySem.W.clsIn X.K C).isSome = true := by
    obtain ⟨cd, hc, _⟩ := PySem.W.any_some c.hd
    rw [hc]
    rfl
  refine PySem.W.get_bind I.kIn J (PySem.W.plainGet_of (c.get m)).1 (PySem.W.findObj_data hc hp.at_ hp.get hp.tak) (PySem.W.plainGet_of (c.get m)).2 (wpAny_call (PySem.W.prop_get (s := { s1 with toks := s1.toks + 1 }) I.kIn hrec ?_))
  refine codeAny_mono (G.run X.A.in1 X.stack { s1 with toks := s1.toks + 1 } H1 ⟨[.ref a], []⟩ (.ref a :: ds) (.ref a :: dvs) Q E hr.in1 hg I1.env0.in1 (b _ [.ref a] I1.kIn hl) (.cons rfl hd) q) fun r s' hq => ?_
  cases r with
  | error er => exact False.elim (hx pins σ H1 { s1 with toks := s1.toks + 1 } er s' (I1.wish _) hq)
  | ok fl =>
    cases fl with
    | ret u =>
      obtain ⟨v, H', I3, rv, q3⟩ := I1.after hq
      show wpAny _ _ (handedOut u) _ _ _
      rw [PySem.W.handedOut_of (handed_of rv)]
      exact wpAny_pure ⟨v, H', I3, rv, q3⟩
    | next => exact False.elim hq
    | brk => exact False.elim hq
    | cont => exact False.elim hq
/-! ### operators of one's own -/
/-- a comparison of two instances by the left one's method -/
@[irreducible] def rCmp (K : PySem.W.Frag) (C : Addr) (r : List V → Hp → VK → Prop) : R2 := fun x y H Q => ∃ a dx fs b C' dy gs, x = .ref a ∧ y = .ref b ∧ H a = some (.ins C dx fs) ∧ H b = some (.ins C' dy gs) ∧ PySem.W.notFirst K C (.ref C') = true ∧ r [x, y] H Q
theorem ins_look {pins : List (Addr × Obj)} {σ : L2.St} {H : Hp} {s : Shared} {a dx : Addr} {fs : List (Str × V)} (I : Inv X pins σ H s) (h : H a = some (.ins C dx fs)) : ∃ ox od, PySem.W.InstAt s.heap a ox C od := by
  obtain ⟨mA, O, _, _, _, _⟩ := ins_get I.hok h
  obtain ⟨od, J, _⟩ := O.look
  exact ⟨_, _, J⟩
theorem cmp_back {pins : List (Addr × Obj)} {σ : L2.St} {Q : VK} {u : Value} {s' : Shared} (h : EP X pins σ Q u s') : PySem.W.CmpBack (EP X pins σ Q) u s' := by
  obtain ⟨v, H', I', rv, q⟩ := h
  cases v with
  | non => cases (show u = Value.none from rv); exact ⟨.non, H', I', rfl, q⟩
  | bl b => cases (show u = Value.bool b from rv); exact ⟨.bl b, H', I', rfl, q⟩
  | int i => obtain ⟨t, z⟩ := (show ∃ t, u = Value.int i t from rv); subst z; exact ⟨.int i, H', I', ⟨t, rfl⟩, q⟩
  | str i => obtain ⟨t, z⟩ := (show ∃ t, u = Value.str i t from rv); subst z; exact ⟨.str i, H', I', ⟨t, rfl⟩, q⟩
  | byt i => obtain ⟨t, z⟩ := (show ∃ t, u = Value.bytes i t from rv); subst z; exact ⟨.byt i, H', I', ⟨t, rfl⟩, q⟩
  | flt i => obtain ⟨t, z⟩ := (show ∃ t, u = Value.float i t from rv); subst z; exact ⟨.flt i, H', I', ⟨t, rfl⟩, q⟩
  | ref a => cases (show u = Value.ref a from rv); exact ⟨.ref a, H', I', rfl, q⟩
  | ty n => cases (show u = Value.type n from rv); exact ⟨.ty n, H', I', rfl, q⟩
theorem op_cmp {op : CmpOp} (hop : ∀ a b, compareOp op a b = richCompare op a b) (hs : PySem.W.findIn X.K (.ref C) (cmpInfo op).2.1 = some (some (.ref g))) (hf : PySem.W.isFn X.K (.ref g) = true) (hu : X.A.units < cLine)
    (R : CallR X (.ref g) r) : OpR X (compareOp op) (rCmp X.K C r) := by
  intro pins s σ H x y v u Q I rx ry h
  unfold rCmp at h
  obtain ⟨a, dx, fs, b, C', dy, gs, rfl, rfl, ha, hb, hn, q⟩ := h
  cases (show v = Value.ref a from rx)
  cases (show u = Value.ref b from ry)
  obtain ⟨ox, od, J⟩ := ins_look I ha
  obtain ⟨ox', od', J'⟩ := ins_look I hb
  obtain ⟨m, hF⟩ := I.fr
  rw [hop]
  refine PySem.W.cmp_K (op := op) (tb := .ref C') hu hF I.ok.mod.kin J J'.type hn hs hf ?_
  exact wpAny_mono (R pins s σ H [.ref a, .ref b] [.ref a, .ref b] Q I (.cons rfl (.cons rfl .nil)) q) (fun w s' z => cmp_back z) fun _ _ x => x
/-- an operator of one's own class, the right one an instance of the same class -/
@[irreducible] def rBin (C : Addr) (r : List V → Hp → VK → Prop) : R2 := fun x y H Q => ∃ a dx fs b dy gs, x = .ref a ∧ y = .ref b ∧ H a = some (.ins C dx fs) ∧ H b = some (.ins C dy gs) ∧ r [x, y] H Q
theorem op_bin {op : Operator} (hc : PySem.W.selfFirst X.K C = true) (hs : PySem.W.findIn X.K (.ref C) (PySem.dunder op.info.2) = some (some (.ref g))) (hf : PySem.W.isFn X.K (.ref g) = true)
    (R : CallR X (.ref g) r) : OpR X (binaryOp op) (rBin C r) := by
  intro pins s σ H x y v u Q I rx ry h
  unfold rBin at h
  obtain ⟨a, dx, fs, b, dy, gs, rfl, rfl, ha, hb, q⟩ := h
  cases (show v = Value.ref a from rx)
  cases (show u = Value.ref b from ry)
  obtain ⟨ox, od, J⟩ := ins_look I ha
  obtain ⟨ox', od', J'⟩ := ins_look I hb
  obtain ⟨m, hF⟩ := I.fr
  refine PySem.W.binop_K hF I.ok.mod.kin J J'.type hc hs hf ?_
  exact wpAny_mono (R pins s σ H [.ref a, .ref b] [.ref a, .ref b] Q I (.cons rfl (.cons rfl .nil)) q) (fun w s' z => cmp_back z) fun _ _ x => x
/-- .. the right one an int -/
@[irreducible] def rBinI (C : Addr) (r : List V → Hp → VK → Prop) : R2 := fun x y H Q => ∃ a dx fs i, x = .ref a ∧ y = .int i ∧ H a = some (.ins C dx fs) ∧ r [x, y] H Q
theorem op_binI {op : Operator} {fo ro rc : Option Value} (hc : PySem.W.selfFirst X.K C = true) (hs : PySem.W.findIn X.K (.ref C) (PySem.dunder op.info.2) = some (some (.ref g))) (hf : PySem.W.isFn X.K (.ref g) = true)
    (hr : PySem.W.findIn X.K (.ref C) (dunderR op.info.2) = some rc) (hp : rc = none ∨ ∃ g : Addr, rc = some (.ref g))
    (h1 : PySem.W.findIn X.K (.type "int") (PySem.dunder op.info.2) = some fo) (h2 : PySem.W.findIn X.K (.type "int") (dunderR op.info.2) = some ro) (hsub : PySem.W.subIn X.K (.type "int") (.ref C) = some false)
    (R : CallR X (.ref g) r) : OpR X (binaryOp op) (rBinI C r) := by
  intro pins s σ H x y v u Q I rx ry h
  unfold rBinI at h
  obtain ⟨a, dx, fs, i, rfl, rfl, ha, q⟩ := h
  cases (show v = Value.ref a from rx)
  obtain ⟨t, z⟩ := (show ∃ t, u = Value.int i t from ry)
  subst z
  obtain ⟨ox, od, J⟩ := ins_look I ha
  obtain ⟨m, hF⟩ := I.fr
  refine PySem.W.ksp_binT (T := "int") hF I.ok.mod.kin J rfl hc hs hf hr hp h1 h2 hsub ?_
  exact wpAny_mono (R pins s σ H [.ref a, .int i] [.ref a, .int i t] Q I (.cons rfl (.cons ⟨t, rfl⟩ .nil)) q) (fun w s' z => cmp_back z) fun _ _ x => x
/-! ### repr -/
/-- repr(x), x told as data -/
@[irreducible] def rRepr (K : PySem.W.Frag) : List V → Hp → VK → Prop := fun xs H Q => ∃ a d, xs = [.ref a] ∧ Dp K H (.ref a) d ∧ d.showable = true ∧ d.hasDict = false ∧ d.depth ≤ 100 ∧ d.shown.length ≤ sizeLine ∧ Q (.str d.shown) H
theorem call_reprD (hu : X.A.units + 102 < cLine) (hg : X.A.guards = some []) : CallR X (.builtin "repr") (rRepr X.K) := by
  intro pins s σ H xs us Q I r h
  unfold rRepr at h
  obtain ⟨a, d, rfl, hd, h1, h2, h3, h4, q⟩ := h
  cases r with
  | cons r1 r2 =>
    cases r2
    rename_i u
    cases (show u = Value.ref a from r1)
    obtain ⟨as, rd⟩ := Dp.reads I d _ _ hd rfl
    refine repr_of_reads' rd h1 (fun z => by rw [h2] at z; cases z) hg (by omega) (fun _ _ e => e) (fun h' u tk k => ⟨.str d.shown, H, I.kept k, ⟨u, rfl⟩, q⟩) h4
end
end Gh

set_option Elab.async false
set_option linter.all false
set_option maxRecDepth 100000
set_option maxHeartbeats 4000000
/-! En: the end of a law's row over promises that know that nothing is being shown. -/
namespace Gh
open PySem PySem.Spec PyProof.Rows L2
theorem law_callG {P : Program} {w : World} {K : PySem.W.Frag} {mg mb : Str → Option Value} {CX : CXT} {k : Nat} {fa a : Addr} {fd : FuncData} {x : Str} {sp : Sp} {s₁ : Shared} {vs : List Value} {ns : List Int}
    (KX : K.In s₁.heap) (hns : s₁.heap.Ns mainGlobals mg) (hb : s₁.heap.Ns builtinsNs mb) (hbb : ∀ x : Str, x ≠ "__name__" → mb x = bootBuiltins x) (hlim : s₁.heap.NoLimit) (hg : s₁.gens = #[])
    (ha : s₁.heap.get? a = some { cls := .type "list", data := .seq vs.toArray }) (hi : IntsAre vs ns) (hl : ns.length ≤ sizeLine) (hr : Room k callerA)
    (F : ∀ base : Heap, K.In base → base.Ns mainGlobals mg → FnG P w K mg base CX k fa fd [x] sp) (hbind : ∀ (s : Shared) (u : Value), BindsTo s fd ⟨[u], []⟩ [(x, u)])
    (hsp : ∀ H : Hp, Only H → SqL K H a (ns.map V.int) → sp [.ref a] H (fun v _ => v = .bl true) fun _ _ _ => False)
    (hCX : ∀ H e s', CX [] H s₁ (fun _ _ _ => False) e s' → False) :
    codeAny (model P w) callerA (.call (.ref fa) ⟨[.ref a], []⟩) (fun r s' => r = .ok (.ret (.bool true)) ∧ OldK s₁.heap s'.heap ∧ s'.os = s₁.os ∧ AllBare s'.gens) s₁ := by
  have rv := vals_ints hi
  have lenV := hi.length
  -- from an abstract heap in which nothing but the script may be tracked
  have core : ∀ H : Hp, Only H → SqL K H a (ns.map V.int) → HOk P w H s₁.heap → (∀ b, H b ≠ none → b = a) → (H a ≠ none → K.lookup a = none) →
      codeAny (model P w) callerA (.call (.ref fa) ⟨[.ref a], []⟩) (fun r s' => r = .ok (.ret (.bool true)) ∧ OldK s₁.heap s'.heap ∧ s'.os = s₁.os ∧ AllBare s'.gens) s₁ := by
    intro H hO hS hok hA hK
    have base_of : ∀ {b : Addr} {o : Obj}, s₁.heap.get? b = some o → H b = none → (hidT s₁.heap H).get? b = some o := fun e n => hidT_get e n
    have noA : ∀ {b : Addr} {o : Obj} {es : Array DictEntry} {ep : Nat}, s₁.heap.get? b = some o → o.data = .dict es ep → H b = none := fun {b o es ep} e d => by
      cases q : H b with
      | none => rfl
      | some u =>
        have e' : b = a := hA b (by rw [q]; simp)
        subst e'
        rw [ha] at e; cases e
        have d' : Data.seq vs.toArray _ = Data.dict es ep := d
        cases d'
    have nsK : ∀ {b : Addr} {m : Str → Option Value}, s₁.heap.Ns b m → (hidT s₁.heap H).Ns b m := fun {b m} ⟨o, es, ep, e, d, r⟩ => ⟨o, es, ep, base_of e (noA e d), d, r⟩
    have hKb : K.In (hidT s₁.heap H) := fun b o e => base_of (KX b o e) (by
      cases q : H b with
      | none => rfl
      | some u =>
        have e' : b = a := hA b (by rw [q]; simp)
        subst e'
        rw [hK (by rw [q]; simp)] at e; cases e)
    have hM : Mod K mg (hidT s₁.heap H) := ⟨hKb, nsK hns, ⟨mb, nsK hb, hbb⟩, let ⟨mc, h1, h2⟩ := hlim; ⟨mc, nsK h1, h2⟩⟩
    have e0 : Env0 P w K mg (hidT s₁.heap H) callerA [] s₁ H := ⟨rfl, hM, fun b o e => of_hidT e, Nat.le_of_eq (hidT_size _ _), trivial, fun b hb => absurd (show b ∈ ([] : List Addr) from hb) (by simp), hok, .of_eq hg⟩
    refine codeAny_mono ((F _ hKb (nsK hns)).run callerA [] s₁ H ⟨[.ref a], []⟩ [.ref a] [.ref a] _ _ hr rfl e0 (hbind s₁ (.ref a)) (.cons rfl .nil) (hsp H hO hS)) fun r s' h => ?_
    cases r with
    | error e => exact (hCX H e s' h).elim
    | ok fl =>
      cases fl with
      | next => exact False.elim h
      | brk => exact False.elim h
      | cont => exact False.elim h
      | ret u =>
        obtain ⟨v, H', os, bare, un, hok', r', q⟩ := h
        have q' : v = .bl true := q
        subst q'
        obtain rfl : u = Value.bool true := r'
        refine ⟨rfl, OldK.of_keep fun b o e => ?_, os, bare⟩
        cases q : H b with
        | none => exact un.keep b o e q (by intro z; exact absurd (show b ∈ ([] : List Addr) from z) (by simp)) (by simp)
        | some u =>
          rcases hO b with z | ⟨ob, xs, z⟩
          · rw [q] at z; cases z
          · have z2 := un.frzs b ob _ z
            obtain ⟨e1, _⟩ := hok b _ z
            obtain ⟨e2, _⟩ := hok' b _ z2
            rw [e] at e1; cases e1
            exact e2
  cases hk : K.lookup a with
  | some o =>
    -- the script is one of the module's own objects
    have e := KX a o hk
    rw [ha] at e
    cases e
    refine core (fun _ => none) (fun _ => .inl rfl) (.inr ⟨_, vs.toArray, _, hk, rfl, rfl, rfl, by rw [List.size_toArray, lenV]; exact hl, by simpa using rv⟩) (fun b u z => by have z' : (none : Option HO) = some u := z; cases z') (fun b z => absurd rfl z) fun z => absurd rfl z
  | none =>
    refine core (fun b => if b = a then some (.frz { cls := .type "list", data := .seq vs.toArray } (.lst (ns.map V.int))) else none) (fun b => ?_) (.inl (.inr ⟨{ cls := .type "list", data := .seq vs.toArray }, if_pos rfl⟩)) (fun b u z => ?_) (fun b z => ?_) fun _ => hk
    · by_cases hb : b = a
      · exact .inr ⟨_, _, if_pos hb⟩
      · exact .inl (if_neg hb)
    · by_cases hb : b = a
      · have z' := (if_pos hb).symm.trans z
        cases z'
        subst hb
        exact ⟨ha, by rw [List.length_map]; exact hl, vs, _, rv, ha⟩
      · have z' := (if_neg hb).symm.trans z
        cases z'
    · by_cases hb : b = a
      · exact hb
      · exact absurd (if_neg hb) z
theorem walk_ofG {l : PySem.W.OpenLaw} {n k : Nat} {q : Program} {loose : List Str} {XP : (Str → Option Value) → Heap → Prop} {YP : World → Heap → Prop} {d : DefRec} {CX : World → CXT} {x : Str}
    (hn : l.most = some n) (hn2 : n ≤ sizeLine) (hdf : d.params.defaults = []) (hr : Room k callerA)
    (F : ∀ (w : World) (mg : Str → Option Value) (fa : Addr) (h : Heap), YP w h → h.Ns mainGlobals mg → mg d.name = some (.ref fa) →
      ∃ (K : PySem.W.Frag) (fd : FuncData) (sp : Sp), K.In h ∧ (∀ (s : Shared) (u : Value), BindsTo s fd ⟨[u], []⟩ [(x, u)]) ∧
        (∀ (H : Hp) (a : Addr) (ns : List Int), ns.length ≤ n → Only H → SqL K H a (ns.map V.int) → sp [.ref a] H (fun v _ => v = .bl true) fun _ _ _ => False) ∧
        ∀ base : Heap, K.In base → base.Ns mainGlobals mg → FnG l.prog w K mg base (CX w) k fa fd [x] sp)
    (hCX : ∀ (w : World) (H : Hp) (s : Shared) (e : Value) (s' : Shared), CX w [] H s (fun _ _ _ => False) e s' → False) :
    PySem.W.WalkO q loose XP YP l.row.toRowW d [] (fun f vs => PySem.call f vs) := by
  refine Att.attach_call hn hdf fun w s₀ s₁ mg mb fa o pm cd doc a vs ns G Y ho hd hcd hmg hobj hints hlen hg => ?_
  obtain ⟨K, fd, sp, KX, hb, hsp, hF⟩ := F w mg fa _ Y G.T.g hmg
  exact law_callG KX G.T.g G.T.b G.T.builtins G.T.nolimit hg hobj hints (Nat.le_trans hlen hn2) hr hF hb (fun H hO hS => hsp H a ns hlen hO hS) fun H e s' => hCX w H s₁ e s'
end Gh

set_option Elab.async false
set_option linter.all false
set_option maxRecDepth 100000
set_option maxHeartbeats 4000000
/-! Pn: the pen that draws, its promise; small facts of heaps, lists of ints and what they show. -/
namespace Gh
open PySem PySem.Spec PyProof.Rows L2
/-- what stood stands, but at p -/
def Keep (H H' : Hp) (p : Addr) : Prop := ∀ a o, H a = some o → a ≠ p → H' a = some o
theorem Keep.refl {H : Hp} {p : Addr} : Keep H H p := fun _ _ h _ => h
theorem Keep.trans {H H' H'' : Hp} {p : Addr} (h : Keep H H' p) (k : Keep H' H'' p) : Keep H H'' p := fun a o e n => k a o (h a o e n) n
theorem Keep.new {H H' : Hp} {p q : Addr} {o : HO} (h : Keep H H' p) (n : H' q = none) : Keep H (upd H' q o) p := fun a u e ne => by
  rw [upd_ne (ne_of_none (h a u e ne) n)]
  exact h a u e ne
theorem Keep.put {H H' : Hp} {p : Addr} {o : HO} (h : Keep H H' p) : Keep H (upd H' p o) p := fun a u e ne => by
  rw [upd_ne ne]
  exact h a u e ne
/-- a pen: its cells, the index of the next one, what is left of a great one; b draws may still be made -/
def PenAt (H : Hp) (p : Addr) (b : Nat) : Prop := ∃ (c : Addr) (ns : List Int) (i z : Int), H p = some (.lst [.ref c, .int i, .int z]) ∧ H c = some (.lst (ns.map V.int)) ∧ ns.length ≤ 63 ∧ 0 ≤ i ∧ i + b ≤ 1000000 ∧ 0 ≤ z
theorem PenAt.le {H : Hp} {p : Addr} {a b : Nat} (h : PenAt H p b) (k : a ≤ b) : PenAt H p a := by
  obtain ⟨c, ns, i, z, h1, h2, h3, h4, h5, h6⟩ := h
  exact ⟨c, ns, i, z, h1, h2, h3, h4, by omega, h6⟩
theorem pen_ne {H : Hp} {p c : Addr} {ns : List Int} {i z : Int} (h : H p = some (.lst [.ref c, .int i, .int z])) (k : H c = some (.lst (ns.map V.int))) : c ≠ p := by
  refine ne_of k h fun e => ?_
  have e2 : ns.map V.int = [.ref c, .int i, .int z] := HO.lst.inj e
  cases ns with
  | nil => cases e2
  | cons n r => cases (List.cons.inj e2).1
/-- an object that is no pen, at a new place -/
theorem PenAt.new {H : Hp} {p q : Addr} {b : Nat} {o : HO} (h : PenAt H p b) (n : H q = none) : PenAt (upd H q o) p b := by
  obtain ⟨c, ns, i, z, h1, h2, h3⟩ := h
  exact ⟨c, ns, i, z, by rw [upd_ne (ne_of_none h1 n)]; exact h1, by rw [upd_ne (ne_of_none h2 n)]; exact h2, h3⟩
theorem PenAt.same {H H' : Hp} {p : Addr} {b : Nat} (h : PenAt H p b) (n : L2.Same H H') : PenAt H' p b := by
  obtain ⟨c, ns, i, z, h1, h2, h3⟩ := h
  exact ⟨c, ns, i, z, n _ _ h1, n _ _ h2, h3⟩
/-- the promise of the def that draws -/
def spDraw : Sp := fun vs H Q _ => ∃ (p : Addr) (b : Nat) (m : Int), vs = [.ref p, .int m] ∧ 0 < m ∧ m.natAbs.log2 < 9000 ∧ PenAt H p (b + 1) ∧
  ∀ (d : Int) (H' : Hp), 0 ≤ d → d < m → PenAt H' p b → Keep H H' p → Q (.int d) H'
/-- the promise of the def that makes a pen -/
def spPen (K : PySem.W.Frag) : Sp := fun vs H Q _ => ∃ (a : Addr) (ns : List Int), vs = [.ref a] ∧ SqL K H a (ns.map V.int) ∧ ns.length ≤ 63 ∧ ∀ (p : Addr) (H' : Hp), H p = none → PenAt H' p 1000000 → L2.Same H H' → Q (.ref p) H'
theorem dp_ints (K : PySem.W.Frag) (H : Hp) : ∀ ns : List Int, DpAll K H (ns.map V.int) (ns.map PyData.int)
  | [] => .nil
  | n :: r => .cons (.int n) (dp_ints K H r)
theorem eqv_nil (ds : List PyData) : PyData.eqv (.list ds) (.list []) = ds.isEmpty := by
  cases ds <;> rfl
theorem same_new {H : Hp} {q : Addr} {o : HO} (n : H q = none) : L2.Same H (upd H q o) := fun a u e => by
  rw [upd_ne (ne_of_none e n)]
  exact e
theorem atI_int {ns : List Int} {i : Int} (h0 : 0 ≤ i) (h1 : i < ns.length) : ∃ v, atI (ns.map V.int) i = some (.int v) ∧ v ∈ ns := by
  obtain ⟨j, rfl⟩ : ∃ j : Nat, i = j := ⟨i.toNat, by omega⟩
  have hl : j < ns.length := by omega
  refine ⟨ns[j], atI_nat ?_, List.getElem_mem hl⟩
  rw [List.getElem?_map, List.getElem?_eq_getElem hl]
  rfl
theorem pow_lt {i : Int} (h0 : 0 ≤ i) (h1 : i < 18446744073709551616) : i.natAbs < 2 ^ 64 := by
  have e : (2 : Nat) ^ 64 = 18446744073709551616 := by decide
  rw [e]
  omega
theorem mix_ok {x i a b c : Int} (h0 : 0 ≤ x) (h1 : x < 4294967296) (h2 : 0 ≤ i) (h3 : i ≤ 1000000) (ha : 0 ≤ a ∧ a ≤ 1000000) (hb : 0 ≤ b ∧ b ≤ 1000000) (hc : 0 ≤ c ∧ c ≤ 1000000) : (x * (2 * i + a) + b * i * i + c).natAbs < 2 ^ 64 := by
  have hii : 0 ≤ i * i ∧ i * i ≤ 1000000 * 1000000 := ⟨Int.mul_nonneg h2 h2, Int.mul_le_mul h3 h3 h2 (by decide)⟩
  have hxi : 0 ≤ x * (2 * i + a) ∧ x * (2 * i + a) ≤ 4294967296 * 4000000 := ⟨Int.mul_nonneg h0 (by omega), Int.mul_le_mul (by omega) (by omega) (by omega) (by decide)⟩
  have hbi : 0 ≤ b * (i * i) ∧ b * (i * i) ≤ 1000000 * (1000000 * 1000000) := ⟨Int.mul_nonneg hb.1 hii.1, Int.mul_le_mul hb.2 hii.2 hii.1 (by decide)⟩
  have e : b * i * i = b * (i * i) := Int.mul_assoc _ _ _
  refine pow_lt ?_ ?_ <;> (rw [e]; omega)
/-- 10 ** 18, a number's last part -/
theorem mod_lt (x : Int) {m : Int} (h : 0 < m) : 0 ≤ x % m ∧ x % m < m := ⟨Int.emod_nonneg _ (by omega), Int.emod_lt_of_pos _ h⟩
theorem log_small {m : Int} {n : Nat} (h0 : 0 < m) (h : m < 2 ^ n) (hn : 0 < n) (h9 : n ≤ 9000) : m.natAbs.log2 < 9000 := by
  refine Nat.lt_of_lt_of_le (PySem.Flt.log2_lt_of hn ?_) h9
  have e : ((m.natAbs : Nat) : Int) = m := by omega
  have h2 : ((m.natAbs : Nat) : Int) < ((2 ^ n : Nat) : Int) := by rw [e]; exact_mod_cast h
  exact_mod_cast h2
theorem cut_all {xs : List V} {n : Nat} (h : xs.length ≤ n) : cutV xs none (some (n : Int)) = xs := by
  unfold cutV
  rw [HT.sIx_none, HT.sIx_nat, Nat.min_eq_right h, List.drop_zero, Nat.sub_zero]
  exact List.take_length
theorem no_field {x y : Str} {v : V} (h : (y == x) = false) : ([(x, v)] : List (Str × V)).lookup y = none := by
  show (match y == x with
    | true => some v
    | false => ([] : List (Str × V)).lookup y) = none
  rw [h]
  rfl
/-- the promise of the def that picks -/
def spPick : Sp := fun vs H Q _ => ∃ (p : Addr) (b : Nat) (l : Addr) (xs : List V), vs = [.ref p, .ref l] ∧ H l = some (.lst xs) ∧ 0 < xs.length ∧ xs.length ≤ 1000 ∧ l ≠ p ∧ PenAt H p (b + 1) ∧
  ∀ (j : Nat) (v : V) (H' : Hp), xs[j]? = some v → PenAt H' p b → Keep H H' p → Q v H'
theorem yes_ite {σ : L2.St} {H : Hp} {F G : Hp → Prop} (h : F H) : tYes σ H (fun b H3 => if b = true then F H3 else G H3) := by
  show (if true = true then F H else G H)
  rw [if_pos rfl]
  exact h
/-- what int(x) of an int or a truth asks -/
abbrev rInt1 : List V → Hp → VK → Prop := fun xs H Q => (∃ i, xs = [V.int i] ∧ Q (V.int i) H) ∨ ∃ k, xs = [V.bl k] ∧ Q (V.int (if k = true then 1 else 0)) H
/-- [int(x) for x in xs], xs a list of ints: a new list of the same ints -/
theorem lc_int {K : PySem.W.Frag} {a : Addr} {ns : List Int} {i : Nat} {σ : L2.St} {H : Hp} {Q : Addr → Hp → Prop} (hS : SqL K H a (ns.map V.int)) (hl : ns.length ≤ 1000000) (hw : ∀ x, wipe ((wipe σ [i]).set i (some x)) [i] = wipe σ [i]) (hv : ∀ x, ((wipe σ [i]).set i (some x))[i]? = some (some x))
    (q : ∀ G H', L2.Same H H' → H G = none → H' G = some (.lst (ns.map V.int)) → Q G H') :
    ∀ D, H D = none → ∃ W : Nat → Nat → Hp → Prop, (∃ m, W 0 m (upd H D (.lst []))) ∧ ∀ j m H1, W j m H1 →
      ((Itl K a).stop j H1 ∧ Q D H1) ∨ ((Itl K a).go j H1 ∧ ∃ Nx : Hp → Prop, (∀ H', Nx H' → ∃ m', m' < m ∧ W (j + 1) m' H') ∧ ∀ x H', (Itl K a).yld j H1 x H' → gName i x (wipe σ [i]) H' fun σ2 H2 => wipe σ2 [i] = wipe σ [i] ∧ tYes σ2 H2 fun b H3 =>
        if b = true then tCB rInt1 (tCons (tVar i) tNil) σ2 H3 fun y H4 => ∃ acc, H4 D = some (.lst acc) ∧ acc.length < sizeLine ∧ Nx (upd H4 D (.lst (acc ++ [y]))) else Nx H3) := by
  intro D nD
  refine lc_list (K := K) (a := a) (xs := ns.map V.int) (fun j H2 => L2.Same H H2 ∧ H2 D = some (.lst ((ns.map V.int).take j))) ⟨same_new nD, upd_same⟩ (fun j H2 _ z => z.1.seq hS) (fun j x H2 hx z => ?_) (fun H2 z => ?_)
  · obtain ⟨n, rfl⟩ : ∃ n, x = V.int n := by
      rw [List.getElem?_map] at hx
      cases e : ns[j]? with
      | none => rw [e] at hx; cases hx
      | some n => rw [e] at hx; exact ⟨n, (Option.some.inj hx).symm⟩
    refine ⟨hw _, yes_ite ?_⟩
    refine ⟨_, hv _, .inl ⟨n, rfl, _, z.2, ?_, ?_, ?_⟩⟩
    · rw [List.length_take, List.length_map]
      exact Nat.lt_of_le_of_lt (Nat.min_le_right _ _) (Nat.lt_of_le_of_lt hl (by decide))
    · exact fun b u e => by
        rw [upd_ne (ne_of_none e nD)]
        exact z.1 _ _ e
    · rw [upd_same, List.take_add_one, hx]
      rfl
  · refine q D H2 z.1 nD ?_
    rw [z.2, List.take_of_length_le (Nat.le_refl _)]
/-- a statement, then the rest, with a word M between them -/
def tCut (t u : TS) : TS := fun D σ H => ∃ M : L2.St → Hp → Prop, t { D with nx := M } σ H ∧ ∀ σ' H', M σ' H' → u D σ' H'
theorem pss_cut {X : Cx} {st : Stmt} {rest : List Stmt} {t u : TS} (h1 : PS X st t) (h2 : PSs X rest u) : PSs X (st :: rest) (tCut t u) := by
  refine ⟨fun pins s σ H D I h => ?_⟩
  obtain ⟨M, hm, hu⟩ := h
  refine wpAny_execs_cons (thn (h1.run pins s σ H { D with nx := M } I hm) fun f s1 q => ?_)
  cases f with
  | next =>
    obtain ⟨σ1, H1, I1, q1⟩ := q
    exact h2.run pins s1 σ1 H1 D I1 (hu σ1 H1 q1)
  | ret v => exact q
  | brk => exact q
  | cont => exact q
end Gh

set_option Elab.async false
set_option linter.all false
set_option maxRecDepth 100000
set_option maxHeartbeats 4000000
/-! Rk: rules that name the written part (so that they serve inside comprehensions too). -/
namespace Gh
open PySem PySem.Spec PyProof.Rows L2
theorem PenAt.ne {H : Hp} {p c : Addr} {b : Nat} (h : PenAt H p b) (n : H c = none) : c ≠ p := by
  obtain ⟨d, ns, i, z, h1, _⟩ := h
  exact (ne_of_none h1 n).symm
/-- a def that lets no error out -/
theorem fnG0 {P : Program} {w : World} {K : PySem.W.Frag} {mg : Str → Option Value} {base : Heap} {CX : CXT} {k : Nat} {f : Addr} {fd : FuncData} {ps : List Str} {sp : Sp} {dvs : List V} {x qual : Str} {params : Arguments} {body : List Stmt} {scope : Scope} {kws : List (Str × V)} {N : List Str}
    (F : FunD K x qual params body scope dvs kws f fd) (S : FnScope N ps scope) (len : ∀ vs H Q E, sp vs H Q E → vs.length = ps.length)
    (hbody : ∀ (cdv : Value) (A : Around) (outer : List Env) (s : Shared) (H : Hp) (vs : List V) (Q : VK) (E : XK), Room k (A.deeper (envOfC qual scope s.heap.objs.size f cdv)) → (A.deeper (envOfC qual scope s.heap.objs.size f cdv)).guards = some [] → sp vs H Q E →
      ∃ t, PSs (cxOf CX P w K mg base N qual scope f cdv A outer s H E).nox body t ∧ t { nx := fun _ H' => Q .non H', rt := Q } (start N vs) H) : FnG P w K mg base CX (k + 1) f fd ps sp :=
  fnG_of F S len fun cdv A outer s H vs Q E hr hg h => by
    obtain ⟨t, ht, q⟩ := hbody cdv A outer s H vs Q E hr hg h
    exact ⟨t, PSs.nox ht, q⟩
section
variable {X : Cx} {K : PySem.W.Frag}
theorem ix_listK (h : X.K = K) : IxR X (rIxL K) := h ▸ ix_list
theorem ix_tupK (h : X.K = K) : IxR X (rIxT K) := h ▸ ix_tup
theorem call_lenK (h : X.K = K) : CallR X (.builtin "len") (fun xs H Q => ∃ x n, xs = [x] ∧ LenV K x H n ∧ Q (.int n) H) := h ▸ call_len
theorem call_isiK1 (h : X.K = K) : CallR X (.builtin "isinstance") (rIsi K) := h ▸ call_isi
theorem call_reprK (h : X.K = K) (hu : X.A.units + 102 < cLine) (hg : X.A.guards = some []) : CallR X (.builtin "repr") (rRepr K) := h ▸ call_reprD hu hg
end
end Gh

set_option Elab.async false
set_option linter.all false
set_option maxRecDepth 100000
set_option maxHeartbeats 4000000
/-! X1: an error of one's own that is held as a value: its fields, its class; try .. except X as n, the error kept behind it. -/
namespace Gh
open PySem PySem.Spec PyProof.Rows L2
/-- at a: an error of the class at C, its dict at d -/
def exk (a C d : Addr) : HO := .ext fun h => ∃ (o : Obj) (vs : Array Value), h.get? a = some o ∧ o.cls = .ref C ∧ o.dict = some d ∧ o.data = .fields vs
theorem exk_ok {P : Program} {w : World} {H : Hp} {h : Heap} {a C d : Addr} {o : Obj} {vs : Array Value} (h1 : h.get? a = some o) (h2 : o.cls = .ref C) (h3 : o.dict = some d) (h4 : o.data = .fields vs) : ObjOk P w H h a (exk a C d) :=
  ⟨⟨o, vs, h1, h2, h3, h4⟩, ⟨o, h1⟩, fun _ _ z k => by
    obtain ⟨o, vs, h1, h2, h3, h4⟩ := z
    exact ⟨o, vs, k _ h1, h2, h3, h4⟩⟩
theorem exk_at {P : Program} {w : World} {H : Hp} {h : Heap} {a C d : Addr} (hok : HOk P w H h) (e : H a = some (exk a C d)) : ∃ (o : Obj) (vs : Array Value), h.get? a = some o ∧ o.cls = .ref C ∧ o.dict = some d ∧ o.data = .fields vs :=
  (show ObjOk P w H h a (exk a C d) from hok a _ e).1
/-- what an error's class must say -/
structure ErrT (K : PySem.W.Frag) (C : Addr) : Prop where
  hg : PySem.W.findIn K (.ref C) "__getattribute__" = some (some (.builtin "BaseException.__getattribute__"))
  hk : PySem.W.findIn K (.ref C) "__getattr__" = some none
  hs : PySem.W.subIn K (.ref C) (.type "BaseException") = some true
  hd : PySem.W.hasDictIn K C = true
  ha : PySem.W.findIn K (.ref C) "__class__" = some (some (.builtin "object.__class__"))
  hn : PySem.W.specialIn K (.builtin "object.__class__") "__get__" = some (some (.builtin "getset_descriptor.__get__"))
  htk : PySem.W.takesIn K (.builtin "object.__class__") = some true
  hm : PySem.W.mroIn K C (.type "object") = some true
def errB (x : Str) (K : PySem.W.Frag) : Bool := He.eqO (PySem.W.findIn K (.ref (gd x K)) "__getattribute__") (some (some (.builtin "BaseException.__getattribute__"))) &&
  (He.eqO (PySem.W.findIn K (.ref (gd x K)) "__getattr__") (some none) && (decide (PySem.W.subIn K (.ref (gd x K)) (.type "BaseException") = some true) && (PySem.W.hasDictIn K (gd x K) &&
  (He.eqO (PySem.W.findIn K (.ref (gd x K)) "__class__") (some (some (.builtin "object.__class__"))) && (He.eqO (PySem.W.specialIn K (.builtin "object.__class__") "__get__") (some (some (.builtin "getset_descriptor.__get__"))) &&
  (decide (PySem.W.takesIn K (.builtin "object.__class__") = some true) && decide (PySem.W.mroIn K (gd x K) (.type "object") = some true)))))))
theorem errB_ok {x : Str} {K : PySem.W.Frag} (h : errB x K = true) : ErrT K (gd x K) := by
  obtain ⟨h1, h⟩ := He.ba h
  obtain ⟨h2, h⟩ := He.ba h
  obtain ⟨h3, h⟩ := He.ba h
  obtain ⟨h4, h⟩ := He.ba h
  obtain ⟨h5, h⟩ := He.ba h
  obtain ⟨h6, h⟩ := He.ba h
  obtain ⟨h7, h8⟩ := He.ba h
  exact ⟨He.eqO_ok h1, He.eqO_ok h2, of_decide_eq_true h3, h4, He.eqO_ok h5, He.eqO_ok h6, of_decide_eq_true h7, of_decide_eq_true h8⟩
section
variable {X : Cx} {e : Expr} {te : TE} {pos : Pos} {n : Str}
theorem exk_inst {pins : List (Addr × Obj)} {σ : L2.St} {H : Hp} {s : Shared} {a C d : Addr} {fs : List (Str × V)} (I : Inv X pins σ H s) (h1 : H a = some (exk a C d)) (h2 : H d = some (.xd fs)) :
    ∃ o od mA, PySem.W.InstAt s.heap a o C (some od) ∧ s.heap.Ns1 d mA ∧ (∀ f, RelO (fs.lookup f) (mA f)) ∧ s.heap.get? d = some od := by
  obtain ⟨o, vs, k1, k2, k3, k4⟩ := exk_at I.hok h1
  obtain ⟨mA, hns, hr⟩ := (show ObjOk X.prog X.w H s.heap d (.xd fs) from I.hok d _ h2)
  obtain ⟨od, ho, hl⟩ := lookIn_ns hns
  exact ⟨o, od, mA, ⟨k1, k2, by unfold PySem.W.notCls; rw [k4] <;> rfl, by rw [k3]; exact ho⟩, hns, hr, ho⟩
/-- e.n, e an error that is held -/
def tXa (K : PySem.W.Frag) (n : Str) (te : TE) : TE := fun σ H Q => te σ H fun x H1 => ∃ (a C d : Addr) (fs : List (Str × V)) (v : V), x = .ref a ∧ H1 a = some (exk a C d) ∧ ErrT K C ∧ PySem.W.findIn K (.ref C) n = some none ∧ H1 d = some (.xd fs) ∧ fs.lookup n = some v ∧ Q v H1
theorem pe_xa {K : PySem.W.Frag} (hK : X.K = K) (he : PE X e te) (hb : attributeBase e n X.env (eval e X.env) = eval e X.env := by rfl) : PE X (.Attribute e n pos) (tXa K n te) := by
  subst hK
  refine ⟨fun pins s σ H Q I h => ?_⟩
  refine attr_of hb (thn (he.run pins s σ H _ I h) fun u s1 hh => ?_)
  obtain ⟨x, H1, I1, rx, a, C, d, fs, v, ex, ea, T, hno, ed, l, q⟩ := hh
  subst ex
  obtain rfl : u = Value.ref a := rx
  obtain ⟨o, vs, k1, k2, k3, k4⟩ := exk_at I1.hok ea
  obtain ⟨mA, hns, hr⟩ := (show ObjOk X.prog X.w H1 s1.heap d (.xd fs) from I1.hok d _ ed)
  obtain ⟨od, ho, hl⟩ := lookIn_ns hns
  obtain ⟨u, hu, ru⟩ := RelO.some_of (v := v) (o := mA n) (by rw [← l]; exact hr n)
  have J : PySem.W.InstAt s1.heap a o C (some od) := ⟨k1, k2, by unfold PySem.W.notCls; rw [k4] <;> rfl, by rw [k3]; exact ho⟩
  exact HandSPX.exc_get I1.kIn J T.hg T.hk T.hs (PySem.W.findObj_own T.hd hno rfl (by rw [hl, hu])) (handed_of ru) ⟨v, H1, I1.tok _, ru, q⟩
/-- isinstance(x, c): x any value whose type is told, or an error that is held -/
def rIsiZ (K : PySem.W.Frag) : List V → Hp → VK → Prop := fun xs H Q => rIsi K xs H Q ∨ ∃ (a C d : Addr) (fs : List (Str × V)) (c : V) (u : Value) (b : Bool), xs = [.ref a, c] ∧ ClsV c u ∧ H a = some (exk a C d) ∧ H d = some (.xd fs) ∧ ErrT K C ∧ PySem.W.kitOne K (.ref C) u = some b ∧ Q (.bl b) H
theorem call_isiZ {K : PySem.W.Frag} (hK : X.K = K) : CallR X (.builtin "isinstance") (rIsiZ K) := by
  subst hK
  intro pins s σ H xs us Q I r h
  rcases h with h | ⟨a, C, d, fs, c, u, b, rfl, k, ea, ed, T, e, q⟩
  · exact call_isi pins s σ H xs us Q I r h
  · obtain ⟨u1, u2, rfl, r1, r2⟩ := vals2 r
    obtain rfl : u1 = Value.ref a := r1
    have e2 := k.eq r2
    subst e2
    obtain ⟨o, od, mA, J, _⟩ := exk_inst I ea ed
    have hcl : (PySem.W.clsIn X.K C).isSome = true := by
      obtain ⟨cd, hc, _⟩ := PySem.W.any_some T.hd
      rw [hc]
      rfl
    exact PySem.W.kia_one (PySem.W.kitx_exc hcl T.hg T.hk T.hs T.ha T.hn T.htk T.hm) I.kIn J e (fun z => nomatch z) fun tk => ⟨.bl b, H, I.tok tk, rfl, q⟩
end
/-- an object of the heap is tracked from now on -/
theorem inv_track {X : Cx} {pins : List (Addr × Obj)} {σ : L2.St} {H : Hp} {s : Shared} {a : Addr} {o : HO} (I : Inv X pins σ H s) (hn : H a = none) (n0 : X.s_0.heap.get? a = none) (nL : a ≠ X.env.locals) (nC : ∀ x c, X.env.cells.lookup x = some c → c ≠ a) (nP : ∀ p ∈ X.pn ++ pins, p.1 ≠ a)
    (ok : ObjOk X.prog X.w (upd H a o) s.heap a o) : Inv X pins σ (upd H a o) s := by
  have ne : ∀ {b : Addr} {u : HO}, H b = some u → b ≠ a := fun e => ne_of_none e hn
  refine ⟨I.ok, I.os, I.bare, ⟨I.base.keep, I.base.slot, fun b u e n hx => ?_, I.base.there, fun b xs e => ?_, fun b u v e => ?_, fun b ps e => ?_⟩, I.loc, I.cell, ?_, fun x c e => ?_, fun p hp => ?_, fun b u e => ?_, I.len⟩
  · rw [upd_ne (fun z => by rw [z, n0] at e; cases e)]
    exact I.base.free b u e n hx
  · have z := I.base.tups b xs e
    rw [upd_ne (ne z)]
    exact z
  · have z := I.base.frzs b u v e
    rw [upd_ne (ne z)]
    exact z
  · obtain ⟨more, z⟩ := I.base.tbls b ps e
    exact ⟨more, by rw [upd_ne (ne z)]; exact z⟩
  · rw [upd_ne nL.symm]
    exact I.free
  · rw [upd_ne (nC x c e)]
    exact I.freeC x c e
  · obtain ⟨z1, z2, z3⟩ := I.pin p hp
    exact ⟨z1, by rw [upd_ne (nP p hp)]; exact z2, z3⟩
  · by_cases hb : b = a
    · subst hb
      rw [upd_same] at e
      cases e
      exact ok
    · rw [upd_ne hb] at e
      exact (I.hok b u e).stay (fun _ _ _ q => q) (fun c hc => by rw [upd_ne (ne hc)]; exact hc) (fun c xs hc => by rw [upd_ne (ne hc)]; exact hc)
/-- what the clause wishes of an error of the body; behind the suite the error stands as a value -/
def wAsK (K : PySem.W.Frag) (c : Value) (i : Nat) (ts : Addr → Value → Option Addr → TS) (Wout : WX) (D : Ends) : WX := fun cls d σ H =>
  ∃ b, PySem.W.exmOne K cls c = some b ∧ (b = true → ∃ C dd, cls = .ref C ∧ d = some dd ∧ ∀ a, H a = none → ts a cls d { nx := fun σ' H' => H' a = none → D.nx (σ'.set i none) (upd H' a (exk a C dd)), rt := D.rt, bk := fun σ' H' => D.bk (σ'.set i none) H', ct := fun σ' H' => D.ct (σ'.set i none) H' } (σ.set i (some (.ref a))) H) ∧
    (b = false → Wout cls d σ H)
section
variable {X : Cx} {x n : Str} {c : Value} {i : Nat} {body suite : List Stmt} {b₀ : Stmt} {np pos pos' : Pos} {tb : WX → TS} {ts : Addr → Value → Option Addr → TS} {Wout : WX}
theorem ps_try_keep (hex : X.ex = []) (hs : X.stack = X.env :: X.outer) (hf : X.env.frame = some X.env.locals) (hN : X.N.Nodup) (hi : X.N[i]? = some n) (hln : X.env.kindOf n = some .local) (hc : Names X x c) (tk : Takes X Wout)
    (hb : ∀ (W : WX) (pn : List (Addr × Obj)) (xe : Value → Shared → Prop), Takes (X.tr pn xe) W → PassesOwn (model X.prog X.w) X.A X.env xe → PSs (X.tr pn xe) body (tb W))
    (hsu : ∀ (a : Addr) (oe : Obj) (cls : Value) (d : Option Addr) (pn : List (Addr × Obj)), Zc cls d oe → (∃ vs, oe.data = .fields vs) → PSs (X.suite a ((a, oe) :: pn)) (b₀ :: suite) (ts a cls d)) :
    PS X (.Try body [.ExceptHandler (some (.Name x np)) (some n) (b₀ :: suite) pos'] [] [] pos) (fun D σ H => tb (wAsK X.K c i ts Wout D) D σ H) := by
  refine ⟨fun pins s σ H D I h => ?_⟩
  have ok := I.ok
  have hfr : X.A.frames = some (X.env :: X.outer) := by rw [ok.frames, hs]
  have hloc : Loc X.env.scope n := .inl hln
  refine wpAny_Try_except ?_
  refine wpAny_mono ((hb (wAsK X.K c i ts Wout D) (X.pn ++ pins) (fun e s₁ => wpAny (model X.prog X.w) X.A (noteFrame e X.env) (fun _ s₂ => wpAny (model X.prog X.w) X.A (setFlight e none) (fun _ s₃ =>
    wpAny (model X.prog X.w) X.A (handleBy e X.env [.ExceptHandler (some (.Name x np)) (some n) (b₀ :: suite) pos']) (SP X pins D) X.xe s₃) X.xe s₂) X.xe s₁) (fun u s' xx => ?_) PassesOwn.looking).run [] s σ H D (I.toTry _) h) (fun f s1 hsp => ?_) (fun e s1 he => he)
  · -- the catch
    obtain ⟨a, B, sI, pins', σ', H', cls, d, rfl, J', nb, up, sky, na, os, ag, b, hb1, hyes, hno⟩ := xx
    have nB : B.get? a = none := by
      rcases sky with z | z | z
      · exact z.2.1
      · exact z.2.1
      · exact z.2.1
    have J : Inv X pins σ' H' sI := J'.ofTry ok
    have sky' : Sky B (X.env :: X.outer) a (Zc cls d) X.env.locals s'.heap := by rw [← hs]; exact sky
    show wpAny (model X.prog X.w) X.A (noteFrame (.ref a) X.env) _ _ _
    refine Sky.land Zc.steady hfr hf sky' fun h3 fl3 up3 => ?_
    have J3 : Inv X pins σ' H' { s' with heap := h3 } := J.landed nb fl3.1 (up.trans up3) os ag
    obtain ⟨oe3, vs3, he3, hz3, hd3⟩ := fl3.there
    have notFr : ∀ {h : Heap} {o : Obj} {vs : Array Value}, h.FunFrames B (X.env :: X.outer) → h.get? a = some o → o.data = .fields vs → a ∉ frs (X.env :: X.outer) := fun {h o vs} ff e dd hm => by
      obtain ⟨_, o', e', hnf⟩ := ff.mem hm
      rw [e] at e'; cases e'
      exact hnf _ dd
    have nfr := notFr fl3.2.2.1 he3 hd3
    have nL : a ≠ X.env.locals := fun z => nfr (List.mem_filterMap.mpr ⟨X.env, List.mem_cons_self, by rw [hf, z]⟩)
    have nF : a ∉ X.fs := fun hm => by
      obtain ⟨e, he, q⟩ := List.mem_filterMap.mp hm
      exact nfr (List.mem_filterMap.mpr ⟨e, List.mem_cons_of_mem _ he, q⟩)
    have nsI : sI.heap.get? a = none := by
      cases q : sI.heap.get? a with
      | none => rfl
      | some o =>
        have z := nb a o q (by rw [hs]; exact nfr)
        rw [nB] at z
        cases z
    have n0 : X.s_0.heap.get? a = none := by
      cases q : X.s_0.heap.get? a with
      | none => rfl
      | some o =>
        obtain ⟨o', z⟩ := J.base.there a o q (by rw [hex]; simp)
        rw [nsI] at z
        cases z
    have nP : ∀ p ∈ X.pn ++ pins, p.1 ≠ a := fun p hp z => by
      have y := (J.pin p hp).1
      rw [z, nsI] at y
      cases y
    have nC : ∀ x c, X.env.cells.lookup x = some c → c ≠ a := fun x c hx z => by
      obtain ⟨v, y⟩ := J.cell x c hx
      obtain ⟨o, y1, _⟩ := y
      rw [z, nsI] at y1
      cases y1
    have S3 := J3.suite he3 hd3 na nL nF
    refine wpAny_handleBy_cons (codeAny_handlers_test ?_) (by intro q; cases q)
    have LT : PySem.W.Looks (model X.prog X.w) h3 (typeOf (.ref a)) cls := fun A Q E s k q => wpAny_typeOf_ref (k _ _ he3) (by rw [hz3.1]; exact q)
    have LM := PySem.W.exm_one (M := model X.prog X.w) (J3.kIn) LT hb1
    have test : ∀ {Q : Value → Shared → Prop} {E : Value → Shared → Prop}, Q c { s' with heap := h3 } → wpAny (model X.prog X.w) (X.A.mark (some (.ref a))) (eval (.Name x np) X.env) Q E { s' with heap := h3 } := fun {Q E} q => by
      obtain ⟨hg, hdbg, hm | ⟨hm, hv, hnn⟩⟩ := hc
      · exact ld_glob (X := X.suite a ((a, oe3) :: (X.pn ++ pins))) S3 hg hm q hdbg
      · exact ld_blt (X := X.suite a ((a, oe3) :: (X.pn ++ pins))) S3 hg hm hv q hnn hdbg
    refine test (LM.here ?_)
    cases b with
    | true =>
      refine codeAny_handlers_suite_as ?_
      obtain ⟨C, dd, ecls, edd, hys⟩ := hyes rfl
      subst ecls
      subst edd
      refine HandSPX.lands_againZ fl3 fun h4 fl4 up4 => ?_
      have J4 : Inv X pins σ' H' { s' with heap := h4 } := J.landed nb fl4.1 ((up.trans up3).trans up4) os ag
      obtain ⟨oe4, vs4, he4, hz4, hd4⟩ := fl4.there
      have S4 := J4.suite he4 hd4 na nL nF
      refine store_ok (X := X.suite a ((a, oe4) :: (X.pn ++ pins))) (v := .ref a) S4 hN hi hloc rfl (fun s5 S5 => ?_) (.inr hln)
      refine wpAny_mono ((hsu a oe4 _ _ (X.pn ++ pins) hz4 ⟨_, hd4⟩).run [] s5 _ H' _ S5 (hys a na)) (fun f s6 hsp => ?_) (fun _ _ z => False.elim z)
      have end_ : ∀ {σ6 : L2.St} {H6 : Hp} {Q : Shared → Prop}, Inv (X.suite a ((a, oe4) :: (X.pn ++ pins))) [] σ6 H6 s6 → (∀ s7, Inv X pins (σ6.set i none) H6 s7 → Q s7) →
          wpAny (model X.prog X.w) X.A (do bindName X.env n .none; unbindBehindTheSuite X.env n pos') (fun _ s7 => Q s7) X.xe s6 := fun {σ6 H6 Q} S6 hq => gone_ok (S6.unsuite ok) hN hi hln hq
      cases f with
      | next =>
        obtain ⟨σ6, H6, S6, q6⟩ := hsp
        obtain ⟨ha6, hn6, _⟩ := S6.pin (a, oe4) (List.mem_append_left _ List.mem_cons_self)
        have J6 : Inv X pins σ6 (upd H6 a (exk a C dd)) s6 := inv_track (S6.unsuite ok) hn6 n0 nL nC nP (exk_ok ha6 hz4.1 hz4.2 hd4)
        exact gone_ok J6 hN hi hln fun s7 J7 => ⟨_, _, J7, q6 hn6⟩
      | brk =>
        obtain ⟨σ6, H6, S6, q6⟩ := hsp
        exact end_ S6 fun s7 J7 => ⟨_, _, J7, q6⟩
      | cont =>
        obtain ⟨σ6, H6, S6, q6⟩ := hsp
        exact end_ S6 fun s7 J7 => ⟨_, _, J7, q6⟩
      | ret u =>
        obtain ⟨v6, σ6, H6, S6, r6, q6⟩ := hsp
        exact end_ S6 fun s7 J7 => ⟨_, _, _, J7, r6, q6⟩
    | false =>
      show wpAny _ X.A (handleBy (.ref a) X.env []) _ _ _
      refine wpAny_handleBy_nil ?_
      obtain ⟨k1, k2, k3, oe, vs, T, oT, ts', he, hz, hd, h1, hr⟩ := id fl3
      unfold PySem.passOn
      refine wpAny_bind (wpAny_field he hd h1 ?_)
      rw [if_neg (show ¬ ((Value.ref T == Value.none) = true) from by simp)]
      have fin : wpAny (model X.prog X.w) X.A (setFlight (.ref a) X.env.frame) (fun _ s4 => wpAny (model X.prog X.w) X.A (throw (.ref a) : Sem Flow) (SP X pins D) X.xe s4) X.xe { s' with heap := h3 } := by
        rw [hf]
        refine HandSPX.setFlight_upZ fl3 fun h4 hh4 up4 => wpAny_throw (tk _ _ ?_)
        exact ⟨a, B, sI, pins, σ', H', cls, d, rfl, J, nb, (up.trans up3).trans up4, .inr (.inr (by rw [hs]; exact hh4)), na, os, ag, hno rfl⟩
      first
        | exact wpAny_bind (wpAny_pure (wpAny_bind fin))
        | exact wpAny_bind fin
  · cases f with
    | next =>
      obtain ⟨σ', H', J', q⟩ := hsp
      exact wpAny_execs_nil ⟨σ', H', J'.ofTry ok, q⟩
    | brk =>
      obtain ⟨σ', H', J', q⟩ := hsp
      exact ⟨σ', H', J'.ofTry ok, q⟩
    | cont =>
      obtain ⟨σ', H', J', q⟩ := hsp
      exact ⟨σ', H', J'.ofTry ok, q⟩
    | ret u =>
      obtain ⟨v, σ', H', J', r, q⟩ := hsp
      exact ⟨v, σ', H', J'.ofTry ok, r, q⟩
end
end Gh

set_option Elab.async false
set_option linter.all false
set_option maxRecDepth 100000
set_option maxHeartbeats 4000000
/-! Gt: heads and ends of laws with lambdas: the tables of the defs' code objects. -/
namespace Gh
open PySem PySem.Spec PyProof.Rows L2
/-- what the head tells: the facts, and of the defs tf their code objects' tables: empty, not in K -/
structure SaysT (ex : List (PySem.W.Frag → Bool)) (fn : List Df) (tf : List He.Defn) (h : Heap) (K : PySem.W.Frag) : Prop where
  t : Says ex fn K
  hd : ∀ p ∈ tf, PySem.W.codeHdIn K (He.cT K p).1 (He.cT K p).2 = true
  out : ∀ p ∈ tf, K.lookup (He.cT K p).2 = none
  empty : ∀ p ∈ tf, h.get? (He.cT K p).2 = some { cls := .none, data := .fields #[] }
/-- the addresses of the fragment: what hangs on the globals, and the interpreter's own statics (a class's attributes are read by them) -/
def asS (g : Addr → Option Obj) (n : Nat) : List Addr := He.asD g n ++ [cStatics]
abbrev AlT : Type := Al × Bool
def obsT (n : Nat) (ex : List (PySem.W.Frag → Bool)) (fn : List Df) (tf : List He.Defn) (g : Addr → Option Obj) : AlT := (obs ex fn (He.frT g (asS g n)), He.tabsB g tf (He.frT g (asS g n)))
theorem saysT_of {n : Nat} {ex : List (PySem.W.Frag → Bool)} {fn : List Df} {tf : List He.Defn} {h : Heap} (e : obsT n ex fn tf h.get? = (val fn, true)) : SaysT ex fn tf h (He.frT h.get? (asS h.get? n)) := by
  have e1 : obs ex fn (He.frT h.get? (asS h.get? n)) = val fn := congrArg (fun z : AlT => z.1) e
  have e2 : He.tabsB h.get? tf (He.frT h.get? (asS h.get? n)) = true := congrArg (fun z : AlT => z.2) e
  have key : ∀ p ∈ tf, PySem.W.codeHdIn (He.frT h.get? (asS h.get? n)) (He.cT (He.frT h.get? (asS h.get? n)) p).1 (He.cT (He.frT h.get? (asS h.get? n)) p).2 = true ∧ ∃ o, h.get? (He.cT (He.frT h.get? (asS h.get? n)) p).2 = some o ∧ He.emptyTab o = true := fun p hp => by
    obtain ⟨h3, h4⟩ := He.ba (List.all_eq_true.mp e2 p hp)
    refine ⟨h3, ?_⟩
    cases q : h.get? (He.cT (He.frT h.get? (asS h.get? n)) p).2 with
    | none =>
      rw [q] at h4
      cases h4
    | some o =>
      rw [q] at h4
      exact ⟨o, rfl, h4⟩
  exact ⟨e1, fun p hp => (key p hp).1, fun p hp => by
    obtain ⟨_, o, q, z⟩ := key p hp
    exact He.frT_none q z, fun p hp => by
    obtain ⟨_, o, q, z⟩ := key p hp
    rw [q, He.emptyTab_eq z]⟩
def hookT (n : Nat) (ex : List (PySem.W.Frag → Bool)) (fn : List Df) (tf : List He.Defn) : PySem.W.Hook where
  α := AlT
  obs := fun s => obsT n ex fn tf s.heap.get?
  val := fun _ => (val fn, true)
  says := fun _ h => ∃ K : PySem.W.Frag, K.In h ∧ SaysT ex fn tf h K
  of := fun _ _ e => ⟨_, He.frT_in, saysT_of e⟩
  keeps := fun _ _ _ ⟨K, hK, c⟩ k => ⟨K, PySem.W.Frag.In.keeps hK k, ⟨c.t, c.hd, c.out, fun p hp => k _ _ (c.empty p hp)⟩⟩
theorem obsT_eq {n : Nat} {ex : List (PySem.W.Frag → Bool)} {fn : List Df} {tf : List He.Defn} {g : Addr → Option Obj} {s : Shared} (h : ∀ a, g a = s.heap.get? a) : obsT n ex fn tf g = (hookT n ex fn tf).obs s := by
  have e : g = s.heap.get? := funext h
  rw [e] <;> rfl
theorem law_callTsG {P : Program} {w : World} {K : PySem.W.Frag} {mg mb : Str → Option Value} {CX : CXT} {k : Nat} {fa a : Addr} {cs : List (Addr × Addr)} {fd : FuncData} {x : Str} {sp : Sp} {s₁ : Shared} {vs : List Value} {ns : List Int}
    (KX : K.In s₁.heap) (hns : s₁.heap.Ns mainGlobals mg) (hb : s₁.heap.Ns builtinsNs mb) (hbb : ∀ x : Str, x ≠ "__name__" → mb x = bootBuiltins x) (hlim : s₁.heap.NoLimit) (hg : s₁.gens = #[])
    (hT : ∀ p ∈ cs, s₁.heap.get? p.2 = some { cls := .none, data := .fields #[] }) (nT : ∀ p ∈ cs, K.lookup p.2 = none) (C : ∀ p ∈ cs, PySem.W.CodeHd s₁.heap p.1 p.2)
    (hbm : ∃ (bm : Addr) (ob : Obj), mg "__builtins__" = some (.ref bm) ∧ bm ≠ builtinsNs ∧ s₁.heap.get? bm = some ob ∧ ob.cls = .type "module" ∧ ob.dict = some builtinsNs ∧ ob.data = .plain)
    (ha : s₁.heap.get? a = some { cls := .type "list", data := .seq vs.toArray }) (hi : IntsAre vs ns) (hl : ns.length ≤ sizeLine) (hr : Room k callerA)
    (F : ∀ base : Heap, K.In base → base.Ns mainGlobals mg → (∀ p ∈ cs, LamX.TabB base mg p.1 p.2) → FnG P w K mg base CX k fa fd [x] sp) (hbind : ∀ (s : Shared) (u : Value), BindsTo s fd ⟨[u], []⟩ [(x, u)])
    (hsp : ∀ H : Hp, (∀ p ∈ cs, H p.2 = some (.tbl #[])) → SqL K H a (ns.map V.int) → sp [.ref a] H (fun v _ => v = .bl true) fun _ _ _ => False)
    (hCX : ∀ H e s', CX [] H s₁ (fun _ _ _ => False) e s' → False) :
    codeAny (model P w) callerA (.call (.ref fa) ⟨[.ref a], []⟩) (fun r s' => r = .ok (.ret (.bool true)) ∧ OldK s₁.heap s'.heap ∧ s'.os = s₁.os ∧ AllBare s'.gens) s₁ := by
  have rv := vals_ints hi
  have lenV := hi.length
  have isT : ∀ b : Addr, b ∈ cs.map (·.2) → s₁.heap.get? b = some { cls := .none, data := .fields #[] } := fun b hb => by
    obtain ⟨p, hp, e⟩ := List.mem_map.mp hb
    rw [← e]
    exact hT p hp
  have aT : a ∉ cs.map (·.2) := fun z => by
    have q := isT a z
    rw [ha] at q
    have z' : Data.seq vs.toArray _ = Data.fields #[] := congrArg Obj.data (Option.some.inj q)
    cases z'
  have memT : ∀ p ∈ cs, p.2 ∈ cs.map (·.2) := fun p hp => List.mem_map.mpr ⟨p, hp, rfl⟩
  -- from an abstract heap in which nothing but the script and the tables may be tracked
  have core : ∀ H : Hp, (∀ p ∈ cs, H p.2 = some (.tbl #[])) → (∀ b, H b = none ∨ b ∈ cs.map (·.2) ∨ ∃ o xs, H b = some (.frz o (.lst xs))) → SqL K H a (ns.map V.int) → HOk P w H s₁.heap → (∀ b, H b ≠ none → b = a ∨ b ∈ cs.map (·.2)) → (H a ≠ none → K.lookup a = none) →
      codeAny (model P w) callerA (.call (.ref fa) ⟨[.ref a], []⟩) (fun r s' => r = .ok (.ret (.bool true)) ∧ OldK s₁.heap s'.heap ∧ s'.os = s₁.os ∧ AllBare s'.gens) s₁ := by
    intro H hH hO hS hok hA hK
    have base_of : ∀ {b : Addr} {o : Obj}, s₁.heap.get? b = some o → H b = none → (hidT s₁.heap H).get? b = some o := fun e n => hidT_get e n
    have noD : ∀ {b : Addr} {o : Obj}, s₁.heap.get? b = some o → (∀ vs n, o.data ≠ .seq vs n) → o.data ≠ .fields #[] → H b = none := fun {b o} e h1 h2 => by
      cases q : H b with
      | none => rfl
      | some u =>
        rcases hA b (by rw [q]; simp) with e' | e'
        · rw [e', ha] at e
          cases e
          exact (h1 _ _ rfl).elim
        · rw [isT b e'] at e
          cases e
          exact (h2 rfl).elim
    have noA : ∀ {b : Addr} {o : Obj} {es : Array DictEntry} {ep : Nat}, s₁.heap.get? b = some o → o.data = .dict es ep → H b = none := fun {b o es ep} e d => by
      refine noD e (fun vs n z => ?_) fun z => ?_
      · rw [d] at z
        cases z
      · rw [d] at z
        cases z
    have nsK : ∀ {b : Addr} {m : Str → Option Value}, s₁.heap.Ns b m → (hidT s₁.heap H).Ns b m := fun {b m} ⟨o, es, ep, e, d, r⟩ => ⟨o, es, ep, base_of e (noA e d), d, r⟩
    have hKb : K.In (hidT s₁.heap H) := fun b o e => base_of (KX b o e) (by
      cases q : H b with
      | none => rfl
      | some u =>
        rcases hA b (by rw [q]; simp) with e' | e'
        · rw [e'] at e q
          rw [hK (by rw [q]; simp)] at e
          cases e
        · obtain ⟨p, hp, ep⟩ := List.mem_map.mp e'
          rw [← ep, nT p hp] at e
          cases e)
    have hM : L2.Mod K mg (hidT s₁.heap H) := ⟨hKb, nsK hns, ⟨mb, nsK hb, hbb⟩, let ⟨mc, h1, h2⟩ := hlim; ⟨mc, nsK h1, h2⟩⟩
    have TB : ∀ p ∈ cs, LamX.TabB (hidT s₁.heap H) mg p.1 p.2 := fun p hp => by
      have hTp := hT p hp
      refine ⟨?_, ?_, fun z => ?_⟩
      · obtain ⟨o, us, file, tf, flags, tg, inF, text, tt, e1, r1, r2, r3, r4, r5, r6, r7, r8, hne⟩ := C p hp
        refine ⟨o, us, file, tf, flags, tg, inF, text, tt, base_of e1 (noD e1 (fun vs n z => ?_) fun z => ?_), r1, r2, r3, r4, r5, r6, r7, r8, hne⟩
        · rw [r2] at z
          cases z
        · rw [r2] at z
          cases z
          simp at r3
      · obtain ⟨bm, ob, b1, b2, b3, b4, b5, b6⟩ := hbm
        have nG : bm ≠ mainGlobals := fun q => by
          obtain ⟨o, es, ep, e, hd, _⟩ := hns
          rw [q, e] at b3
          cases b3
          rw [hd] at b6
          cases b6
        have nP : bm ≠ p.2 := fun q => by
          rw [q, hTp] at b3
          cases b3
          cases b6
        refine ⟨bm, ob, b1, b2, nG, nP, base_of b3 (noD b3 (fun vs n z => ?_) fun z => ?_), b4, b5, b6⟩
        · rw [b6] at z
          cases z
        · rw [b6] at z
          cases z
      · obtain ⟨o, es, ep, e, hd, _⟩ := hns
        rw [z, hTp] at e
        cases e
        cases hd
    have e0 : Env0 P w K mg (hidT s₁.heap H) callerA [] s₁ H := ⟨rfl, hM, fun b o e => of_hidT e, Nat.le_of_eq (hidT_size _ _), trivial, fun b hb => absurd (show b ∈ ([] : List Addr) from hb) (by simp), hok, .of_eq hg⟩
    refine codeAny_mono ((F _ hKb (nsK hns) TB).run callerA [] s₁ H ⟨[.ref a], []⟩ [.ref a] [.ref a] _ _ hr rfl e0 (hbind s₁ (.ref a)) (.cons rfl .nil) (hsp H hH hS)) fun r s' h => ?_
    cases r with
    | error e => exact (hCX H e s' h).elim
    | ok fl =>
      cases fl with
      | next => exact False.elim h
      | brk => exact False.elim h
      | cont => exact False.elim h
      | ret u =>
        obtain ⟨v, H', os, bare, un, hok', r', q⟩ := h
        have q' : v = .bl true := q
        subst q'
        obtain rfl : u = Value.bool true := r'
        have key : ∀ b o, b ∉ cs.map (·.2) → s₁.heap.get? b = some o → s'.heap.get? b = some o := fun b o nb e => by
          cases q : H b with
          | none => exact un.keep b o e q (by intro z; exact absurd (show b ∈ ([] : List Addr) from z) (by simp)) (by simp)
          | some u =>
            rcases hO b with z | z | ⟨ob, xs, z⟩
            · rw [q] at z; cases z
            · exact absurd z nb
            · have z2 := un.frzs b ob _ z
              obtain ⟨e1, _⟩ := hok b _ z
              obtain ⟨e2, _⟩ := hok' b _ z2
              rw [e] at e1; cases e1
              exact e2
        have grown : ∀ p ∈ cs, ∃ more : Array Value, s'.heap.get? p.2 = some { cls := .none, data := .fields more } := fun p hp => by
          obtain ⟨more, z⟩ := un.tbls p.2 #[] (hH p hp)
          exact ⟨_, hok' p.2 _ z⟩
        refine ⟨rfl, ⟨fun b o e => ?_, fun b o e => ?_⟩, os, bare⟩
        · by_cases hb : b ∈ cs.map (·.2)
          · obtain ⟨p, hp, ep⟩ := List.mem_map.mp hb
            obtain ⟨more, hm⟩ := grown p hp
            rw [← ep] at e ⊢
            rw [hT p hp] at e
            cases e
            exact .inr (.inl ⟨((C p hp).tab (hT p hp)).isCodeTable, rfl, #[], more, rfl, by rw [Array.empty_append]; exact hm⟩)
          · exact .inl (key b o hb e)
        · by_cases hb : b ∈ cs.map (·.2)
          · obtain ⟨p, hp, ep⟩ := List.mem_map.mp hb
            obtain ⟨more, hm⟩ := grown p hp
            rw [← ep]
            exact ⟨_, hm⟩
          · exact ⟨o, key b o hb e⟩
  cases hk : K.lookup a with
  | some o =>
    have e := KX a o hk
    rw [ha] at e
    cases e
    refine core (fun b => if b ∈ cs.map (·.2) then some (.tbl #[]) else none) (fun p hp => if_pos (memT p hp)) (fun b => ?_) (.inr ⟨_, vs.toArray, _, hk, rfl, rfl, rfl, by rw [List.size_toArray, lenV]; exact hl, by simpa using rv⟩) (fun b u z => ?_) (fun b z => ?_) fun z => absurd (show (if a ∈ cs.map (·.2) then some (HO.tbl #[]) else none) = none from if_neg aT) z
    · by_cases hb : b ∈ cs.map (·.2)
      · exact .inr (.inl hb)
      · exact .inl (if_neg hb)
    · by_cases hb : b ∈ cs.map (·.2)
      · have z' := (if_pos hb).symm.trans z
        cases z'
        exact isT b hb
      · have z' := (if_neg hb).symm.trans z
        cases z'
    · by_cases hb : b ∈ cs.map (·.2)
      · exact .inr hb
      · exact absurd (if_neg hb) z
  | none =>
    refine core (fun b => if b = a then some (.frz { cls := .type "list", data := .seq vs.toArray } (.lst (ns.map V.int))) else if b ∈ cs.map (·.2) then some (.tbl #[]) else none) (fun p hp => (if_neg (show ¬ p.2 = a from fun z => aT (by rw [← z]; exact memT p hp))).trans (if_pos (memT p hp))) (fun b => ?_)
      (.inl (.inr ⟨{ cls := .type "list", data := .seq vs.toArray }, if_pos rfl⟩)) (fun b u z => ?_) (fun b z => ?_) fun _ => hk
    · by_cases hb : b = a
      · exact .inr (.inr ⟨_, _, if_pos hb⟩)
      · by_cases hb2 : b ∈ cs.map (·.2)
        · exact .inr (.inl hb2)
        · exact .inl ((if_neg hb).trans (if_neg hb2))
    · by_cases hb : b = a
      · have z' := (if_pos hb).symm.trans z
        cases z'
        rw [hb]
        exact ⟨ha, by rw [List.length_map]; exact hl, vs, _, rv, ha⟩
      · have z1 := (if_neg hb).symm.trans z
        by_cases hb2 : b ∈ cs.map (·.2)
        · have z' := (if_pos hb2).symm.trans z1
          cases z'
          exact isT b hb2
        · have z' := (if_neg hb2).symm.trans z1
          cases z'
    · by_cases hb : b = a
      · exact .inl hb
      · by_cases hb2 : b ∈ cs.map (·.2)
        · exact .inr hb2
        · exact absurd ((if_neg hb).trans (if_neg hb2)) z
theorem walk_ofTsG {l : PySem.W.OpenLaw} {n k : Nat} {q : Program} {loose : List Str} {XP : (Str → Option Value) → Heap → Prop} {YP : World → Heap → Prop} {d : DefRec} {CX : World → CXT} {x : Str}
    (hn : l.most = some n) (hn2 : n ≤ sizeLine) (hdf : d.params.defaults = []) (hr : Room k callerA)
    (F : ∀ (w : World) (mg : Str → Option Value) (fa : Addr) (h : Heap), YP w h → h.Ns mainGlobals mg → mg d.name = some (.ref fa) →
      ∃ (K : PySem.W.Frag) (fd : FuncData) (cs : List (Addr × Addr)) (sp : Sp), K.In h ∧ (∀ p ∈ cs, h.get? p.2 = some { cls := .none, data := .fields #[] }) ∧ (∀ p ∈ cs, K.lookup p.2 = none) ∧ (∀ p ∈ cs, PySem.W.CodeHd h p.1 p.2) ∧
        (∀ (s : Shared) (u : Value), BindsTo s fd ⟨[u], []⟩ [(x, u)]) ∧
        (∀ (H : Hp) (a : Addr) (ns : List Int), ns.length ≤ n → (∀ p ∈ cs, H p.2 = some (.tbl #[])) → SqL K H a (ns.map V.int) → sp [.ref a] H (fun v _ => v = .bl true) fun _ _ _ => False) ∧
        ∀ base : Heap, K.In base → base.Ns mainGlobals mg → (∀ p ∈ cs, LamX.TabB base mg p.1 p.2) → FnG l.prog w K mg base (CX w) k fa fd [x] sp)
    (hCX : ∀ (w : World) (H : Hp) (s : Shared) (e : Value) (s' : Shared), CX w [] H s (fun _ _ _ => False) e s' → False) :
    PySem.W.WalkO q loose XP YP l.row.toRowW d [] (fun f vs => PySem.call f vs) := by
  refine Att.attach_call hn hdf fun w s₀ s₁ mg mb fa o pm cd doc a vs ns G Y ho hd hcd hmg hobj hints hlen hg => ?_
  obtain ⟨K, fd, cs, sp, KX, hT, nT, C, hb, hsp, hF⟩ := F w mg fa _ Y G.T.g hmg
  exact law_callTsG KX G.T.g G.T.b G.T.builtins G.T.nolimit hg hT nT C G.T.bmain hobj hints (Nat.le_trans hlen hn2) hr hF hb (fun H hH hS => hsp H a ns hlen hH hS) fun H e s' => hCX w H s₁ e s'
end Gh

set_option Elab.async false
set_option linter.all false
set_option maxRecDepth 100000
set_option maxHeartbeats 4000000
/-! Px: promises that hold whatever is being shown (FnOk), calls by them; errors made and raised; kinds of values. -/
namespace Gh
open PySem PySem.Spec PyProof.Rows L2
/-- as Prom, of FnOk -/
def PromO (P : Program) (w : World) (K : PySem.W.Frag) (mg : Str → Option Value) (base : Heap) (CX : CXT) (k : Nat) (f : Addr) (dvs : List V) (sp : Sp) : Prop :=
  ∃ (fd : FuncData) (ps : List Str) (ds : List Value), FnOk P w K mg base CX k f fd ps sp ∧ Binds K fd ps ds ∧ Vals dvs ds
theorem FnOk.toG {P : Program} {w : World} {K : PySem.W.Frag} {mg : Str → Option Value} {base : Heap} {CX : CXT} {k : Nat} {f : Addr} {fd : FuncData} {ps : List Str} {sp : Sp} (F : FnOk P w K mg base CX k f fd ps sp) : FnG P w K mg base CX k f fd ps sp :=
  ⟨F.len, fun A o s H a us vs Q E hr _ => F.run A o s H a us vs Q E hr⟩
theorem PromO.toG {P : Program} {w : World} {K : PySem.W.Frag} {mg : Str → Option Value} {base : Heap} {CX : CXT} {k : Nat} {f : Addr} {dvs : List V} {sp : Sp} (F : PromO P w K mg base CX k f dvs sp) : Prom P w K mg base CX k f dvs sp := by
  obtain ⟨fd, ps, ds, G, b, v⟩ := F
  exact ⟨fd, ps, ds, FnOk.toG G, b, v⟩
/-- a def that lets no error out -/
theorem fnO0 {P : Program} {w : World} {K : PySem.W.Frag} {mg : Str → Option Value} {base : Heap} {CX : CXT} {k : Nat} {f : Addr} {fd : FuncData} {ps : List Str} {sp : Sp} {dvs : List V} {x qual : Str} {params : Arguments} {body : List Stmt} {scope : Scope} {kws : List (Str × V)} {N : List Str}
    (F : FunD K x qual params body scope dvs kws f fd) (S : FnScope N ps scope) (len : ∀ vs H Q E, sp vs H Q E → vs.length = ps.length)
    (hbody : ∀ (cdv : Value) (A : Around) (outer : List Env) (s : Shared) (H : Hp) (vs : List V) (Q : VK) (E : XK), Room k (A.deeper (envOfC qual scope s.heap.objs.size f cdv)) → sp vs H Q E →
      ∃ t, PSs (cxOf CX P w K mg base N qual scope f cdv A outer s H E).nox body t ∧ t { nx := fun _ H' => Q .non H', rt := Q } (start N vs) H) : FnOk P w K mg base CX (k + 1) f fd ps sp :=
  F.ok S len fun cdv A outer s H vs Q E hr h => by
    obtain ⟨t, ht, q⟩ := hbody cdv A outer s H vs Q E hr h
    exact ⟨t, PSs.nox ht, q⟩
section
variable {X : Cx} {CX : CXT} {k : Nat} {f g C : Addr} {sp : Sp} {dvs : List V} {E : XK} {m : Str} {pos : Pos} {o : Expr} {ta : TE}
abbrev PromOX (X : Cx) (CX : CXT) (k : Nat) (f : Addr) (dvs : List V) (sp : Sp) : Prop := PromO X.prog X.w X.K X.mg X.base CX k f dvs sp
theorem PromO.call (F : PromOX X CX k f dvs sp) (hr : Room k X.A) (hx : Passes CX X E) : CallR X (.ref f) (rSp sp dvs E) := by
  intro pins s σ H xs us Q I r h
  obtain ⟨fd, ps, ds, G, b, hd⟩ := F
  exact run_fn G hr b hd hx I r h
theorem PromO.make (M : Mk X.K C f) (F : PromOX X CX k f dvs sp) (hr : Room (k + 1) X.A) (hx : Passes CX X E) : CallR X (.ref C) (rMk C sp dvs E) := by
  intro pins s σ H vs us Q I r h
  unfold rMk at h
  obtain ⟨fd, ps, ds, G, b, hd⟩ := F
  exact run_make M G hr b hd hx I r h
theorem pe_po {pp : Addr} (he : PE X o ta) (c : Cls X.K C) (hp : PropOf X.K C m pp g) (F : PromOX X CX k g dvs sp) (hr : Room (k + 1) X.A) (hx : Passes CX X.nox E)
    (hab : attributeBase o m X.env (eval o X.env) = eval o X.env := by rfl) : PE X (.Attribute o m pos) (tPr C sp dvs E ta) := by
  obtain ⟨fd, ps, ds, G, b, hd⟩ := F
  exact pe_prop he c hp G hr b hd hx hab
/-- the callee's error is the caller's -/
theorem pass_on (hs : X.stack = X.env :: X.outer) (hf : X.env.frame = some X.env.locals) (hex : X.ex = []) {E₁ : Value → Shared → Prop} (hx : X.xe = fun e s' => wpAny (model X.prog X.w) X.A (leaving X.env e) (fun _ s'' => L2.CX X.prog X.w X.outer X.H_0 X.s_0 E e s'') E₁ s') : Passes (L2.CX X.prog X.w) X E :=
  passes_call (takes_of hs hf hex hx) fun _ _ _ _ h => h
end
/-! ### errors -/
def oexB (x : Str) (K : PySem.W.Frag) : Bool := (match K.lookup (gd x K) with
  | some ⟨.type c, _, .cls ⟨_, _, .ref m :: bm, _, _, hd, _, _, _, _, dl⟩, ⟨[_, _, _, _, some (.builtin n), _]⟩⟩ => decide (c = "type") && (decide (m = gd x K) && (PySem.HandSPX.refsVE bm && (hd && (!dl && decide (n = "ValueError.__new__")))))
  | _ => false) && (He.eqO (PySem.W.findIn K (.ref (gd x K)) "__setattr__") (some (some (.builtin "object.__setattr__"))) && (decide (PySem.W.subIn K (.ref (gd x K)) (.type "BaseException") = some true) &&
  (decide (PySem.W.typeIn K (.ref (gd x K)) = some (.type "type")) && PySem.W.keepIn K (.ref (gd x K)))))
theorem oexB_ok {x : Str} {K : PySem.W.Frag} (h : oexB x K = true) : OexC K (gd x K) := by
  obtain ⟨h1, h⟩ := He.ba h
  obtain ⟨h2, h⟩ := He.ba h
  obtain ⟨h3, h⟩ := He.ba h
  obtain ⟨h4, h5⟩ := He.ba h
  refine ⟨?_, He.eqO_ok h2, of_decide_eq_true h3, of_decide_eq_true h4, h5⟩
  split at h1
  · rename_i c dd nm bs m bm ns qn hd sn sb ab col dl k0 k1 k2 k3 n k5 e
    obtain ⟨z1, h1⟩ := He.ba h1
    obtain ⟨z2, h1⟩ := He.ba h1
    obtain ⟨z3, h1⟩ := He.ba h1
    obtain ⟨z4, h1⟩ := He.ba h1
    obtain ⟨z5, z6⟩ := He.ba h1
    have y1 := of_decide_eq_true z1
    have y2 := of_decide_eq_true z2
    have y6 := of_decide_eq_true z6
    have y5 : dl = false := by simpa using z5
    subst y1 y6 y5 z4
    refine ⟨nm, qn, ns, bs, bm, sn, sb, ab, col, dd, k0, k1, k2, k3, k5, ?_, z3⟩
    rw [e, y2]
  · cases h1
/-- an error's __init__ with one field, with two -/
def spErr1 (C : Addr) (f : Str) : Sp := fun vs H Q _ => ∃ (a : Addr) (v : V), vs = [.ref a, v] ∧ H a = some (exo a C none) ∧ ∀ d, H d = none → d ≠ a → Q .non (upd (upd H d (exd d [(f, v)])) a (exo a C (some d)))
def spErr2 (C : Addr) (f g : Str) : Sp := fun vs H Q _ => ∃ (a : Addr) (v u : V), vs = [.ref a, v, u] ∧ H a = some (exo a C none) ∧ ∀ d, H d = none → d ≠ a → Q .non (upd (upd (upd H d (exd d [(f, v)])) a (exo a C (some d))) d (exd d [(g, u), (f, v)]))
theorem mk_err1 {C : Addr} {f : Str} {v : V} {H : Hp} {Q : XK} (h : ∀ d H', L2.Same H H' → H d = none → H' d = some (.xd [(f, v)]) → Q (.ref C) (some d) H') :
    ([v] : List V).length ≤ 1000 ∧ ∀ a, H a = none → spErr1 C f (.ref a :: ([v] ++ [])) (upd H a (exo a C none)) (fun u H2 => u = .non ∧ ∃ (d : Addr) (fs : List (Str × V)), H2 a = some (exo a C (some d)) ∧ H2 d = some (exd d fs) ∧ H d = none ∧ Q (.ref C) (some d) (upd (del H2 a) d (.xd fs))) (fun _ _ _ => False) := by
  refine ⟨by show 1 ≤ 1000; decide, fun a na => ⟨a, v, rfl, upd_same, fun d nd ne => ⟨rfl, d, [(f, v)], upd_same, ?_, ?_, ?_⟩⟩⟩
  · rw [upd_ne ne, upd_same]
  · rw [upd_ne ne] at nd
    exact nd
  · have nd0 : H d = none := by
      rw [upd_ne ne] at nd
      exact nd
    refine h d _ (fun b u e => ?_) nd0 upd_same
    have hb : b ≠ a := ne_of_none e na
    have hd : b ≠ d := ne_of_none e nd0
    rw [upd_ne hd, del_ne hb, upd_ne hb, upd_ne hd, upd_ne hb]
    exact e
/-! ### kinds of values -/
/-- the values that are passed: None, truths, numbers, texts, lists, tuples, dicts -/
inductive Kd (H : Hp) : V → Prop
  | non : Kd H .non
  | bl (b : Bool) : Kd H (.bl b)
  | int (i : Int) : Kd H (.int i)
  | str (x : Str) : Kd H (.str x)
  | lst {a : Addr} {xs : List V} (h : H a = some (.lst xs)) : Kd H (.ref a)
  | tup {a : Addr} {xs : List V} (h : H a = some (.tup xs)) : Kd H (.ref a)
  | dK {a : Addr} {kvs : List (Key × V)} (h : H a = some (.dK kvs)) : Kd H (.ref a)
/-- its class's name -/
theorem Kd.ty {K : PySem.W.Frag} {H : Hp} {v : V} (k : Kd H v) : ∃ n : String, TyX K H v (.type n) ∧ ((∃ i, v = .int i) ∧ n = "int" ∨ (∃ b, v = .bl b) ∧ n = "bool" ∨ (∀ i, v ≠ .int i) ∧ (∀ b, v ≠ .bl b) ∧ n ∈ (["NoneType", "str", "list", "tuple", "dict"] : List String)) := by
  cases k with
  | non => exact ⟨_, .base .non, .inr (.inr ⟨fun _ => nofun, fun _ => nofun, by decide⟩)⟩
  | bl b => exact ⟨_, .base (.bl b), .inr (.inl ⟨⟨b, rfl⟩, rfl⟩)⟩
  | int i => exact ⟨_, .base (.int i), .inl ⟨⟨i, rfl⟩, rfl⟩⟩
  | str x => exact ⟨_, .base (.str x), .inr (.inr ⟨fun _ => nofun, fun _ => nofun, by decide⟩)⟩
  | lst h => exact ⟨_, .base (.lst h), .inr (.inr ⟨fun _ => nofun, fun _ => nofun, by decide⟩)⟩
  | tup h => exact ⟨_, .base (.tup h), .inr (.inr ⟨fun _ => nofun, fun _ => nofun, by decide⟩)⟩
  | dK h => exact ⟨_, .base (.dK h), .inr (.inr ⟨fun _ => nofun, fun _ => nofun, by decide⟩)⟩
theorem Kd.same {H H' : Hp} {v : V} (k : Kd H v) (s : L2.Same H H') : Kd H' v := by
  cases k with
  | non => exact .non
  | bl b => exact .bl b
  | int i => exact .int i
  | str x => exact .str x
  | lst h => exact .lst (s _ _ h)
  | tup h => exact .tup (s _ _ h)
  | dK h => exact .dK (s _ _ h)
def isI : V → Bool
  | .int _ => true
  | _ => false
def withinV (v : V) (a b : Int) : Bool := match v with
  | .int i => decide (a ≤ i) && decide (i ≤ b)
  | _ => false
/-- isinstance(v, int), isinstance(v, bool) -/
theorem Kd.isInt {K : PySem.W.Frag} {H : Hp} {v : V} (k : Kd H v) : ∃ t b, TyX K H v t ∧ PySem.W.kitOne K t (.type "int") = some b ∧ PySem.W.kitOne K t (.type "bool") = some (b && !isI v) ∧ (b = false → isI v = false) := by
  obtain ⟨n, ty, h | h | h⟩ := k.ty (K := K)
  · obtain ⟨⟨i, rfl⟩, rfl⟩ := h
    exact ⟨_, true, ty, kit_ty (by decide +kernel), kit_ty (r := false) (by decide +kernel), fun z => by cases z⟩
  · obtain ⟨⟨b, rfl⟩, rfl⟩ := h
    exact ⟨_, true, ty, kit_ty (by decide +kernel), kit_ty (r := true) (by decide +kernel), fun _ => rfl⟩
  · obtain ⟨h1, h2, h3⟩ := h
    have e : isI v = false := by
      cases v with
      | int i => exact absurd rfl (h1 i)
      | _ => rfl
    refine ⟨_, false, ty, kit_ty ?_, kit_ty (r := false) ?_, fun _ => e⟩
    · revert n
      intro n _ h3
      simp only [List.mem_cons, List.mem_nil_iff, or_false] at h3
      rcases h3 with rfl | rfl | rfl | rfl | rfl <;> decide +kernel
    · revert n
      intro n _ h3
      simp only [List.mem_cons, List.mem_nil_iff, or_false] at h3
      rcases h3 with rfl | rfl | rfl | rfl | rfl <;> decide +kernel
end Gh

set_option Elab.async false
set_option linter.all false
set_option maxRecDepth 100000
set_option maxHeartbeats 4000000
/-! Py: instances called, static methods. -/
namespace Gh
open PySem PySem.Spec PyProof.Rows L2
/-- a static method's def -/
def staG (x m : Str) (K : PySem.W.Frag) : Addr := match PySem.W.recIn K (He.ma K (He.ga K x) m) "staticmethod" with
  | some (.ref g :: _) => g
  | _ => 0
structure StaT (K : PySem.W.Frag) (C : Addr) (m : Str) (p g : Addr) : Prop where
  rd : PySem.W.readsIn K C (.type "type") = true
  ga : PySem.W.specialIn K (.ref C) "__getattribute__" = some (some (.builtin "type.__getattribute__"))
  ty : PySem.W.typeIn K (.ref C) = some (.type "type")
  at_ : PySem.W.findCls K (.ref C) (.type "type") m = some (.get (.builtin "staticmethod.__get__") (.ref p) .none (.ref C))
  rc : ∃ rest, PySem.W.recIn K p "staticmethod" = some (.ref g :: rest)
  kp : PySem.W.keepIn K (.ref g) = true
def staB (x m : Str) (K : PySem.W.Frag) : Bool := PySem.W.readsIn K (gd x K) (.type "type") && (He.eqO (PySem.W.specialIn K (.ref (gd x K)) "__getattribute__") (some (some (.builtin "type.__getattribute__"))) &&
  (decide (PySem.W.typeIn K (.ref (gd x K)) = some (.type "type")) && ((match PySem.W.findCls K (.ref (gd x K)) (.type "type") m with
    | some (.get (.builtin b) (.ref p) .none (.ref C)) => decide (b = "staticmethod.__get__") && (decide (p = He.ma K (He.ga K x) m) && decide (C = gd x K))
    | _ => false) && ((match PySem.W.recIn K (He.ma K (He.ga K x) m) "staticmethod" with
    | some (.ref _ :: _) => true
    | _ => false) && PySem.W.keepIn K (.ref (staG x m K))))))
theorem staB_ok {x m : Str} {K : PySem.W.Frag} (h : staB x m K = true) : StaT K (gd x K) m (He.ma K (He.ga K x) m) (staG x m K) := by
  obtain ⟨h1, h⟩ := He.ba h
  obtain ⟨h2, h⟩ := He.ba h
  obtain ⟨h3, h⟩ := He.ba h
  obtain ⟨h4, h⟩ := He.ba h
  obtain ⟨h5, h6⟩ := He.ba h
  refine ⟨h1, He.eqO_ok h2, of_decide_eq_true h3, ?_, ?_, h6⟩
  · split at h4
    · rename_i b p C e
      obtain ⟨z1, z⟩ := He.ba h4
      obtain ⟨z2, z3⟩ := He.ba z
      rw [e, of_decide_eq_true z1, of_decide_eq_true z2, of_decide_eq_true z3]
    · cases h4
  · unfold staG
    split at h5
    · rename_i g r e
      rw [e]
      exact ⟨r, rfl⟩
    · cases h5
section
variable {X : Cx} {CX : CXT} {k : Nat} {f g C : Addr} {sp : Sp} {dvs : List V} {E : XK} {m : Str} {apos pos : Pos} {o e : Expr} {es : List Expr} {ta : TE} {t : TA} {r : List V → Hp → VK → Prop}
/-- C.m(e, ..), m a static method -/
def tSm (C : Addr) (r : List V → Hp → VK → Prop) (ta : TE) (t : TA) : TE := fun σ H Q => ta σ H fun x H1 => x = .ref C ∧ t σ H1 fun vs H2 => r vs H2 Q
theorem pe_sm {p : Addr} {pl : Sem Bool} (he : PE X o ta) (c : StaT X.K C m p g) (R : CallR X (.ref g) r) (ha : PA X (e :: es) t)
    (hst : starEach (e :: es) X.env = (false, eval e X.env) :: starEach es X.env := by rfl) (hpl : (backTo pos (starEach es X.env)).any (·.1) = false := by rfl)
    (ht : eval (.Call (.Attribute o m apos) (e :: es) [] pos) X.env = (do
      let ov ← eval o X.env
      standAt apos.atName
      let (f, first) ← holding [ov] (getMethod ov m pl)
      callWith pos f first (backTo pos (starEach (e :: es) X.env)) (backToKw pos (keywordEach [] X.env))) := by rfl) :
    PE X (.Call (.Attribute o m apos) (e :: es) [] pos) (tSm C r ta t) := by
  refine ⟨fun pins s σ H Q I h => ?_⟩
  refine PySem.W.methodCall_KW (pl := pl) (thn (he.run pins s σ H _ I h) fun u s1 ⟨x, H1, I1, rx, ex, q⟩ => ?_) ht
  subst ex
  obtain rfl : u = Value.ref C := rx
  obtain ⟨mm, fr⟩ := I1.fr
  obtain ⟨rest, hrc⟩ := c.rc
  refine PySem.W.method_of_cls fr I1.ok.mod.kin c.ga (PySem.W.cls_sm fr I1.ok.mod.kin c.ty c.rd c.at_ hrc rfl ?_)
  have I2 := I1.tok (s1.toks + 1)
  refine PySem.W.callWith_K (h₀ := X.base) I2.ok.mod.kin c.kp (thn (ha.run pos pins _ σ H1 _ I2 q) fun us s2 ⟨vs, H2, I3, rv, q2⟩ => ⟨I3.kIn, ?_⟩) hst hpl
  exact R pins s2 σ H2 vs us Q I3 rv q2
end
end Gh

set_option Elab.async false
set_option linter.all false
set_option maxRecDepth 100000
set_option maxHeartbeats 4000000
/-! Ro: an int times an instance, by the instance's own reflected method. -/
namespace PySem.W
open Lean Elab Tactic Meta PySem PySem.Calls PyProof.Rows
section
variable {prog : Program} {w : World} {A : Around} {E : Value → Shared → Prop} {s : Shared} {K : Frag} {x C L f g : Addr} {h₀ : Heap} {m : Str → Option Value} {ox : Obj} {od : Option Obj}
theorem gh_try_mul {k : Int} {t : Tok} {Q : Option Value → Shared → Prop} (hx : s.heap.get? x = some ox) (hd : ox.data = .plain) (h : Q none s) : wpAny (model prog w) A (tryMethod (.int k t) "__mul__" (.ref x)) Q E s := by
  unfold tryMethod
  refine wpAny_bind (wpAny_callSpecial?_slot (typeIs_int s k t) F.slot_int_mul (wpAny_call_entry F.slot_int_mul (typeIs_int s k t) F.entry_int_mul ?_ (F.args_int_mul_2 _ _)))
  obtain ⟨hp, g, d, tk, os⟩ := s
  wp_walk using AutoSeq1.wpAny_loadPart' hx
  rw [hd]
  refine wpAny_pure ?_
  wp_walk
  exact ⟨_, rfl, wpAny_pure h⟩
theorem gh_rmul {k : Int} {t : Tok} {Q : Value → Shared → Prop} (F' : Fr h₀ L s.heap m) (X₀ : K.In h₀) (I : InstAt s.heap x ox C od) (hd : ox.data = .plain) (hc : selfFirst K C = true) (hs : findIn K (.ref C) (PySem.dunder "mul") = some (some (.ref f)))
    (hr : findIn K (.ref C) (dunderR "mul") = some (some (.ref g))) (hf : isFn K (.ref g) = true) (hsub : subIn K (.ref C) (.type "int") = some false)
    (h : wpAny (model prog w) A (call (.ref g) [.ref x, .int k t]) (CmpBack Q) E s) : wpAny (model prog w) A (binaryOp .Mult (.int k t) (.ref x)) Q E s := by
  have X := X₀.keeps F'.keep
  obtain ⟨cd, rest, hcd, hm⟩ := ksp_first hc
  have one := ksp_try X I hr hf h
  have zero : wpAny (model prog w) A (tryMethod (.int k t) (PySem.dunder "mul") (.ref x)) (fun r s' => r = none ∧ s' = s) E s := gh_try_mul I.at_ hd ⟨rfl, rfl⟩
  obtain ⟨hh, gg, d, tt, os⟩ := s
  have L1 : Looks (model prog w) hh (typeOf (.int k t)) (.type "int") := Looks.of_pure rfl
  have L2 : Looks (model prog w) hh (typeOf (.ref x)) (.ref C) := I.type
  have L3 : Looks (model prog w) hh (fillsNumberSlot (.type "int") "mul") true := Looks.of_pure F.fills_int_mul
  have L4 : Looks (model prog w) hh (fillsNumberSlot (.ref C) "mul") true := fills_K X hcd hm hs
  have L5 : Looks (model prog w) hh (isSubtype (.ref C) (.type "int")) false := looks_subIn X hsub
  have L7 : Looks (model prog w) hh (numberSlotInPython (.type "int") "mul") false := Looks.of_pure rfl
  have hne : (Value.type "int" == Value.ref C) = false := Bool.eq_false_iff.mpr fun q => by cases beq_iff_eq.mp q
  have hi : (Operator.Mult).info = ("*", "mul") := rfl
  simp only [binaryOp, hi]
  refine wpAny_holding (wpAny_bind ?_)
  unfold binaryOp1
  refine wpAny_bind (L1.at (wpAny_bind (L2.at (wpAny_bind (L3.at ?_)))))
  simp only [hne, Bool.false_eq_true, if_false]
  ksp_lk
  refine wpAny_mono zero (fun r s' hr' => ?_) fun _ _ e => e
  obtain ⟨rfl, rfl⟩ := hr'
  ksp_lk
  refine wpAny_mono one (fun r s' hr' => ?_) fun _ _ e => e
  obtain ⟨v, rfl, hq⟩ := hr'
  ksp_lk
  exact hq
end
end PySem.W
namespace Gh
open PySem PySem.Spec PyProof.Rows L2
/-- k * o, o an instance -/
@[irreducible] def rRmul (C : Addr) (r : List V → Hp → VK → Prop) : R2 := fun x y H Q => ∃ a dx fs i, x = .int i ∧ y = .ref a ∧ H a = some (.ins C dx fs) ∧ r [y, x] H Q
theorem op_rmul {X : Cx} {C f g : Addr} {r : List V → Hp → VK → Prop} (hc : PySem.W.selfFirst X.K C = true) (hs : PySem.W.findIn X.K (.ref C) "__mul__" = some (some (.ref f))) (hr : PySem.W.findIn X.K (.ref C) "__rmul__" = some (some (.ref g)))
    (hf : PySem.W.isFn X.K (.ref g) = true) (hsub : PySem.W.subIn X.K (.ref C) (.type "int") = some false) (R : CallR X (.ref g) r) : OpR X (binaryOp .Mult) (rRmul C r) := by
  intro pins s σ H x y v u Q I rx ry h
  unfold rRmul at h
  obtain ⟨a, dx, fs, i, rfl, rfl, ha, q⟩ := h
  cases (show u = Value.ref a from ry)
  obtain ⟨t, z⟩ := (show ∃ t, v = Value.int i t from rx)
  subst z
  obtain ⟨ox, od, J, hd⟩ := StX.insC_at I (.inr ⟨dx, fs, ha⟩)
  obtain ⟨m, hF⟩ := I.fr
  refine PySem.W.gh_rmul hF I.ok.mod.kin J hd hc hs hr hf hsub ?_
  exact wpAny_mono (R pins s σ H [.ref a, .int i] [.ref a, .int i t] Q I (.cons rfl (.cons ⟨t, rfl⟩ .nil)) q) (fun w s' z => cmp_back z) fun _ _ x => x
end Gh

set_option Elab.async false
set_option linter.all false
set_option maxRecDepth 100000
set_option maxHeartbeats 4000000
/-! Pz: repr of any value that is told; errors raised by promises; instances that may be called. -/
namespace Gh
open PySem PySem.Spec PyProof.Rows L2
/-! ### what repr shows -/
inductive Shw (K : PySem.W.Frag) (H : Hp) : V → Str → Prop
  | non : Shw K H .non "None"
  | bl (b : Bool) : Shw K H (.bl b) (if b then "True" else "False")
  | int (i : Int) : i.natAbs.log2 < 1920 → Shw K H (.int i) (toString i)
  | str (x : Str) : (reprText x).length ≤ sizeLine → Shw K H (.str x) (reprText x)
  | dp {a : Addr} {d : PyData} : Dp K H (.ref a) d → d.showable = true → d.hasDict = false → d.depth ≤ 100 → d.shown.length ≤ sizeLine → Shw K H (.ref a) d.shown
theorem sqL_same {K : PySem.W.Frag} {H H' : Hp} {a : Addr} {xs : List V} (h : SqL K H a xs) (s : L2.Same H H') : SqL K H' a xs := by
  rcases h with (h | ⟨o, h⟩) | h
  · exact .inl (.inl (s _ _ h))
  · exact .inl (.inr ⟨o, s _ _ h⟩)
  · exact .inr h
theorem sqT_same {K : PySem.W.Frag} {H H' : Hp} {a : Addr} {xs : List V} (h : SqT K H a xs) (s : L2.Same H H') : SqT K H' a xs := by
  rcases h with (h | ⟨o, h⟩) | h
  · exact .inl (.inl (s _ _ h))
  · exact .inl (.inr ⟨o, s _ _ h⟩)
  · exact .inr h
mutual
theorem dp_same {K : PySem.W.Frag} {H H' : Hp} (s : L2.Same H H') : ∀ {v : V} {d : PyData}, Dp K H v d → Dp K H' v d
  | _, _, .non => .non
  | _, _, .bl b => .bl b
  | _, _, .int i => .int i
  | _, _, .str x => .str x
  | _, _, .lst h a => .lst (sqL_same h s) (dpAll_same s a)
  | _, _, .tup h a => .tup (sqT_same h s) (dpAll_same s a)
theorem dpAll_same {K : PySem.W.Frag} {H H' : Hp} (s : L2.Same H H') : ∀ {vs : List V} {ds : List PyData}, DpAll K H vs ds → DpAll K H' vs ds
  | _, _, .nil => .nil
  | _, _, .cons a r => .cons (dp_same s a) (dpAll_same s r)
end
theorem Shw.same {K : PySem.W.Frag} {H H' : Hp} {v : V} {t : Str} (h : Shw K H v t) (s : L2.Same H H') : Shw K H' v t := by
  cases h with
  | non => exact .non
  | bl b => exact .bl b
  | int i h => exact .int i h
  | str x h => exact .str x h
  | dp a b c d e => exact .dp (dp_same s a) b c d e
@[irreducible] def rShow (K : PySem.W.Frag) : List V → Hp → VK → Prop := fun xs H Q => ∃ v t, xs = [v] ∧ Shw K H v t ∧ Q (.str t) H
theorem rShow_of {K : PySem.W.Frag} {v : V} {t : Str} {H : Hp} {Q : VK} (h : Shw K H v t) (q : Q (.str t) H) : rShow K [v] H Q := by
  unfold rShow
  exact ⟨v, t, rfl, h, q⟩
section
variable {X : Cx} {K : PySem.W.Frag}
theorem call_show (hK : X.K = K) (hu : X.A.units + 102 < cLine) (hg : X.A.guards = some []) : CallR X (.builtin "repr") (rShow K) := by
  subst hK
  intro pins s σ H xs us Q I r h
  unfold rShow at h
  obtain ⟨v, t, rfl, hs, q⟩ := h
  obtain ⟨u, rfl, ru⟩ := vals1 r
  cases hs with
  | non =>
    cases (show u = Value.none from ru)
    exact PySem.P.repr_of_none ⟨.str _, H, I.tok _, ⟨_, rfl⟩, q⟩
  | bl b =>
    cases (show u = Value.bool b from ru)
    exact PySem.P.repr_of_bool ⟨.str _, H, I.tok _, ⟨_, rfl⟩, q⟩
  | int i h =>
    obtain ⟨t, rfl⟩ := ru
    exact PySem.P.repr_of_int h ⟨.str _, H, I.tok _, ⟨_, rfl⟩, q⟩
  | str x h =>
    obtain ⟨t, rfl⟩ := ru
    exact PySem.P.repr_of_str ⟨.str _, H, I.tok _, ⟨_, rfl⟩, q⟩ (hsz := h)
  | dp hd h1 h2 h3 h4 =>
    rename_i a d
    cases (show u = Value.ref a from ru)
    obtain ⟨as, rd⟩ := Dp.reads I d _ _ hd rfl
    exact repr_of_reads' rd h1 (fun z => by rw [h2] at z; cases z) hg (by omega) (fun _ _ e => e) (fun h' u tk k => ⟨.str d.shown, H, I.kept k, ⟨u, rfl⟩, q⟩) h4
/-! ### errors raised -/
variable {CX : CXT} {x : Str} {C fI : Addr} {k : Nat} {sp : Sp} {dvs : List V} {e : Expr} {es : List Expr} {ta : TA} {p pos : Pos}
theorem passF : Passes (L2.CX X.prog X.w) X (fun _ _ _ => False) := fun _ _ _ _ _ _ _ h => by
  obtain ⟨_, _, _, _, _, _, _, _, _, _, _, _, z⟩ := h
  exact z.elim
theorem pmk_po (T : OexC X.K C) (iC : PySem.W.findIn X.K (.ref C) "__init__" = some (some (.ref fI))) (tI : PySem.W.typeIn X.K (.ref fI) = some (.type "function")) (F : PromOX X CX k fI dvs sp) (hr : Room (k + 1) X.A) (hx : Passes CX X (fun _ _ _ => False)) (hm : X.mg x = some (.ref C)) (ha : PA X (e :: es) ta) (hg : Gl X x := by rfl)
    (hdb : (x == ("__debug__" : Str)) = false := by decide) (he : starEach (e :: es) X.env = (false, eval e X.env) :: starEach es X.env := by rfl) (hpl : (backTo pos (starEach es X.env)).any (·.1) = false := by rfl) : PMk X (.Call (.Name x p) (e :: es) [] pos) (tMkO C sp dvs ta) := by
  obtain ⟨fd, ps, ds, G, b, hd⟩ := F
  exact pmk_oex T iC tI G hr b hd hx hg hm ha hdb he hpl
end
structure IniT (K : PySem.W.Frag) (C f : Addr) : Prop where
  iC : PySem.W.findIn K (.ref C) "__init__" = some (some (.ref f))
  tI : PySem.W.typeIn K (.ref f) = some (.type "function")
def iniB (x : Str) (K : PySem.W.Frag) : Bool := He.eqO (PySem.W.findIn K (.ref (gd x K)) "__init__") (some (some (.ref (md x "__init__" K)))) && decide (PySem.W.typeIn K (.ref (md x "__init__" K)) = some (.type "function"))
theorem iniB_ok {x : Str} {K : PySem.W.Frag} (h : iniB x K = true) : IniT K (gd x K) (md x "__init__" K) := by
  obtain ⟨h1, h2⟩ := He.ba h
  exact ⟨He.eqO_ok h1, of_decide_eq_true h2⟩
def coB (x : Str) (K : PySem.W.Frag) : Bool := He.eqO (PySem.W.findIn K (.ref (gd x K)) "__call__") (some (some (.ref (md x "__call__" K)))) && (PySem.W.isFn K (.ref (md x "__call__" K)) && PySem.W.fnIn K (md x "__call__" K))
theorem coB_ok {x : Str} {K : PySem.W.Frag} (h : coB x K = true) : StX.CallO K (gd x K) (md x "__call__" K) := by
  obtain ⟨h1, h⟩ := He.ba h
  obtain ⟨h2, h3⟩ := He.ba h
  exact ⟨He.eqO_ok h1, h2, h3⟩
/-- a promise, raw -/
theorem PromO.raw {P : Program} {w : World} {K : PySem.W.Frag} {mg : Str → Option Value} {base : Heap} {CX : CXT} {k : Nat} {f : Addr} {sp : Sp} (F : PromO P w K mg base CX k f [] sp) : FnR P w K mg base CX k f sp := by
  obtain ⟨fd, ps, ds, G, b, hd⟩ := F
  have z := G.raw b hd
  intro A outer s H us vs Q E hr e0 r hs
  exact z A outer s H us vs Q E hr e0 r (show sp (vs ++ []) H Q E by rw [List.append_nil]; exact hs)
end Gh

set_option Elab.async false
set_option linter.all false
set_option maxRecDepth 100000
set_option maxHeartbeats 4000000
/-! Et: enumerate over a tuple. -/
namespace Gh
open PySem PySem.Spec PyProof.Rows L2
theorem meets_enumerate_newT (l : Addr) (items : Array Value) (n : Nat) (dct : Option Addr) (sl : Array (Option Value)) :
    Meets (Builtin.«enumerate.__new__» ⟨[.type "enumerate", .ref l], []⟩) (fun _ R s => s.heap.get? l = some { cls := .type "tuple", dict := dct, data := .seq items n, slots := sl } ∧
      R (.ok (.ret (.ref (s.heap.push { cls := .type "tuple_iterator", data := .fields #[.ref l, .int 0 0] }).objs.size)))
        { s with heap := (s.heap.push { cls := .type "tuple_iterator", data := .fields #[.ref l, .int 0 0] }).push { cls := .type "enumerate", data := .fields #[.none, .bool false, .ref s.heap.objs.size, rawInt 0, .none, .none] } }) :=
  .of_wp fun prog w A R s h => by
    obtain ⟨hp, g, d, tk, os⟩ := s; obtain ⟨hl, h⟩ := h
    have hsub := sub_enumerate
    have hL : Heap.IsTuple (Shared.heap ⟨hp, g, d, tk, os⟩) l items := ⟨_, hl, rfl, n, rfl⟩
    wp_walk using wpAny_loadPart' hl
    refine wpAny_stack_any fun st => wpAny_pure ?_
    split
    · rename_i c _ _ _ _ _
      cases (c == Value.type "enumerate")
      · wp_walk using wpAny_loadPart' hl, wpAny_pyIter_tuple hL
        exact ⟨_, rfl, h⟩
      · wp_walk using wpAny_loadPart' hl, wpAny_pyIter_tuple hL
        exact ⟨_, rfl, h⟩
    · wp_walk using wpAny_loadPart' hl, wpAny_pyIter_tuple hL
      exact ⟨_, rfl, h⟩
section
variable {prog : Program} {w : World} {A : Around} {E : Value → Shared → Prop} {s : Shared}
theorem call_enumerate_tup {l : Addr} {items : Array Value} {Q : Value → Shared → Prop} (hL : s.heap.IsTuple l items)
    (h : ∀ h', IsEnum h' (s.heap.objs.size + 1) s.heap.objs.size 0 .none → h'.IsTupleIter s.heap.objs.size l 0 → h'.objs.size = s.heap.objs.size + 2 →
      (∀ b o, s.heap.get? b = some o → h'.get? b = some o) → Q (.ref (s.heap.objs.size + 1)) { s with heap := h' }) :
    wpAny (model prog w) A (call (.type "enumerate") [.ref l]) Q E s := by
  obtain ⟨⟨c, dct, dt, sl⟩, hl, hc, n, hd⟩ := hL
  replace hc : c = .type "tuple" := hc
  replace hd : dt = .seq items n := hd
  subst hc hd
  refine callType_new F.called_enumerate (by decide) (F.typeCall_enumerate_1 _) (F.newCall_enumerate_1 _) (fun obj => F.args_object_init_2 obj _) F.entry_enumerate_new
    (meets_enumerate_newT l items n dct sl) ⟨hl, ?_⟩
  have hz : (s.heap.push { cls := .type "tuple_iterator", data := .fields #[.ref l, .int 0 0] }).objs.size = s.heap.objs.size + 1 := Heap.size_push ..
  show _ ∧ _
  rw [hz]
  have he : IsEnum ((s.heap.push { cls := .type "tuple_iterator", data := .fields #[.ref l, .int 0 0] }).push
      { cls := .type "enumerate", data := .fields #[.none, .bool false, .ref s.heap.objs.size, rawInt 0, .none, .none] }) (s.heap.objs.size + 1) s.heap.objs.size 0 .none := by
    have := Heap.get?_push_size (s.heap.push { cls := .type "tuple_iterator", data := .fields #[.ref l, .int 0 0] })
      (o := { cls := .type "enumerate", data := .fields #[.none, .bool false, .ref s.heap.objs.size, rawInt 0, .none, .none] }) rfl
    rw [hz] at this; exact this
  refine ⟨⟨_, he, rfl⟩, h _ he ⟨_, Heap.get?_push_of_some _ (Heap.get?_push_size _ rfl), rfl, rfl⟩ (by rw [Heap.size_push, hz]) fun b o x => Heap.get?_push_of_some _ (Heap.get?_push_of_some _ x)⟩
end
/-- the tuple at a, its items in new pairs -/
def Itu (K : PySem.W.Frag) (a : Addr) : It :=
  ⟨fun i H => ∃ (xs : List V) (x : V), SqT K H a xs ∧ xs[i]? = some x, fun i H v H' => ∃ T x, v = .ref T ∧ H T = none ∧ H' = upd H T (.tup [.int (i : Nat), x]) ∧ ∀ xs, SqT K H a xs → xs[i]? = some x, fun i H => ∃ xs : List V, SqT K H a xs ∧ xs.length = i⟩
theorem turn_enumT {P : Program} {w : World} {K : PySem.W.Frag} {elts : List Expr} {kk : Nat} {tpos : Pos} (a e it : Addr) :
    Turn P w K (.Tuple elts kk tpos) (Itu K a) [e, it] e (fun i h => (∃ old, IsEnum h e it ((i : Nat) : Int) old) ∧ h.IsTupleIter it a i ∧ e ≠ it ∧ a ≠ it ∧ e ≠ a) where
  mem := by simp
  obj := fun i h st b hb => by
    obtain ⟨⟨old, he⟩, ⟨o, ho, hc, hd⟩, _⟩ := st
    have e' : b = e ∨ b = it := by simpa using hb
    rcases e' with z | z
    · rw [z]; exact ⟨_, he, fun v q => nomatch q⟩
    · rw [z]; exact ⟨o, ho, fun v q => by rw [hd] at q; cases q⟩
  keep := fun i h h' st k => let ⟨⟨old, he⟩, hi, hne⟩ := st; ⟨⟨old, k e (by simp) _ he⟩, hi.at fun o q => k it (by simp) o q, hne⟩
  item := by
    intro X hP hw hK hc i pins s σ H E I hf st hg
    subst hP hw hK
    obtain ⟨⟨old, he⟩, hit, hne, hai, hea⟩ := st
    obtain ⟨xs, x, hq, hx⟩ := hg
    obtain ⟨its, rv, p, hz⟩ := I.tuple hq
    obtain ⟨u, hu, ru⟩ := rv.get hx
    have hel : e < s.heap.objs.size := Heap.lt_size he
    have hil : it < s.heap.objs.size := by obtain ⟨_, q, _⟩ := hit; exact Heap.lt_size q
    have hlt : i < its.toArray.size := by
      obtain ⟨z, _⟩ := List.getElem?_eq_some_iff.mp hu
      simpa using z
    refine wpAny_pyNext_enum_itemD (Draws.tuple (A := X.A.in1) (show X.A.in1.handled = none from I.ok.hd hc) it a hai its.toArray) he ⟨hit, p⟩ hlt hne (by simp; exact ⟨hne, hea⟩) fun u' h' tk pu ho hit' hT hsz hk => ?_
    have eu : u' = u := by
      have z : its.toArray[i]? = some u := by simpa using hu
      rw [z] at pu
      exact (Option.some.inj pu).symm
    subst eu
    refine ⟨_, rfl, wpAny_letOwnedTupleGo_enum (s := { s with heap := h', toks := tk + 1 }) ho fun h'' he' sb => ?_⟩
    have hT2 : h''.get? s.heap.objs.size = some { cls := .type "tuple", data := .seq #[.int i tk, u'] } := (sb.2 _ (Nat.ne_of_gt hel)).trans hT
    have new : ObjOk X.prog X.w (upd H s.heap.objs.size (.tup [.int (i : Nat), x])) h'' s.heap.objs.size (.tup [.int (i : Nat), x]) :=
      ⟨by show 2 ≤ sizeLine; decide, [.int i tk, u'], .cons ⟨_, rfl⟩ (.cons ru .nil), ⟨_, hT2, rfl, _, rfl⟩⟩
    have I1 : Inv X pins σ (upd H s.heap.objs.size (.tup [.int (i : Nat), x])) { s with heap := h'', toks := tk + 1 } :=
      I.turnedNew (ch := [e, it]) (fun b ob hb q => (sb.2 b (fun z => hb (by simp [z]))).trans (hk b ob (fun z => hb (by simp [z])) (fun z => hb (by simp [z])) q)) hf (Nat.le_refl _) new
    refine ⟨.ref s.heap.objs.size, _, I1, rfl, ⟨_, x, rfl, I.hok.fresh (Nat.le_refl _), rfl, fun ys hy => by rw [I.tuple_inj hy hq]; exact hx⟩, ⟨⟨u', ?_⟩, hit'.1.at fun o q => (sb.2 it (Ne.symm hne)).trans q, hne, hai, hea⟩, fun b hb => ?_⟩
    · have e1 : ((i + 1 : Nat) : Int) = (i : Int) + 1 := by omega
      rw [e1]; exact he'
    · have hb' : b < s.heap.objs.size := by
        have e' : b = e ∨ b = it := by simpa using hb
        rcases e' with z | z
        · rw [z]; exact hel
        · rw [z]; exact hil
      rw [upd_ne (Nat.ne_of_lt hb')]
      exact (hf b hb).1
  done := by
    intro X hP hw hK hc i pins s σ H E I hf st hg
    subst hP hw hK
    obtain ⟨⟨old, he⟩, hit, hne, hai, hea⟩ := st
    obtain ⟨xs, hq, hx⟩ := hg
    obtain ⟨its, rv, p, hz⟩ := I.tuple hq
    obtain ⟨f0, f1, f2, f3, f4, f5⟩ := hf it (by simp)
    have hl := rv.length
    have en : its.toArray.size = i := by
      rw [List.size_toArray]
      omega
    refine wpAny_pyNext_enum_endD (Draws.tuple (A := X.A.in1) (show X.A.in1.handled = none from I.ok.hd hc) it a hai its.toArray) he ⟨by rw [en]; exact hit, p⟩ fun h' eb => ⟨rfl, I.turned (t' := s.toks) (fun b o hb q => eb b o hb q) f0 f1 f3 f4 f5⟩
  self := fun A i s Q E st h => let ⟨⟨_, he⟩, _⟩ := st; wpAny_pyIter_enum he h
def iEnumT (K : PySem.W.Frag) (ta : TA) : TI := fun σ H R => ta σ H fun vs H1 => ∃ a xs, vs = [.ref a] ∧ SqT K H1 a xs ∧ R (Itu K a) H1
theorem pi_enumT {X : Cx} {e : Expr} {ta : TA} {p pos tpos : Pos} {elts : List Expr} {kk : Nat} (hg : Gl X "enumerate") (hm : X.mg "enumerate" = none) (ha : PA X [e] ta) (hs : starEach [e] X.env = [(false, eval e X.env)] := by rfl) :
    PI X (.Tuple elts kk tpos) (.Call (.Name "enumerate" p) [e] [] pos) (iEnumT X.K ta) := by
  refine ⟨fun pins s σ H R I h => ?_⟩
  refine Call_ (ld_blt I hg hm boot_enumerate (PyProof.Rows.callWith_type1 (thn (ha.run pos pins s σ H _ I h) fun us s1 ⟨vs, H1, I1, r1, q1⟩ => ?_) hs rfl))
  obtain ⟨a, xs, ex, hq, q⟩ := q1
  subst ex
  cases r1 with
  | cons r rr =>
    cases rr
    cases r
    obtain ⟨its, rv, p', hz⟩ := I1.tuple hq
    have hal : a < s1.heap.objs.size := by obtain ⟨_, z, _⟩ := p'; exact Heap.lt_size z
    refine call_enumerate_tup p' fun h' he hit hsz hk => wpAny_pyIter_enum he ?_
    have I2 : Inv X pins σ H1 { s1 with heap := h' } := I1.kept (t' := s1.toks) hk
    refine ⟨s1.heap.objs.size + 1, [s1.heap.objs.size + 1, s1.heap.objs.size], _, _, H1, rfl, I2, turn_enumT a (s1.heap.objs.size + 1) s1.heap.objs.size, ⟨⟨.none, he⟩, hit, Nat.succ_ne_self _, Nat.ne_of_lt hal, Nat.ne_of_gt (Nat.lt_succ_of_lt hal)⟩, fun b hb => ?_, q⟩
    have e' : b = s1.heap.objs.size + 1 ∨ b = s1.heap.objs.size := by simpa using hb
    have hle : s1.heap.objs.size ≤ b := by
      rcases e' with z | z
      · rw [z]; exact Nat.le_add_right _ _
      · rw [z]; exact Nat.le_refl _
    exact I1.fpOk hle (I1.hok.fresh hle)
/-- enumerate over a list or a tuple -/
theorem PI.or {X : Cx} {tg iter : Expr} {w1 w2 : TI} (a : PI X tg iter w1) (b : PI X tg iter w2) : PI X tg iter (fun σ H R => w1 σ H R ∨ w2 σ H R) :=
  ⟨fun pins s σ H R I h => h.elim (a.run pins s σ H R I) (b.run pins s σ H R I)⟩
/-- over a tuple that stays -/
theorem for_enumT {K : PySem.W.Frag} {a : Addr} {xs : List V} {g : TG} {tb : TS} {D : Ends} {σ : L2.St} {H : Hp} (Pv : Nat → L2.St → Hp → Prop) (h0 : Pv 0 σ H) (hl : ∀ i σ H, i ≤ xs.length → Pv i σ H → SqT K H a xs)
    (hs : ∀ i x σ H T, xs[i]? = some x → Pv i σ H → H T = none → g (.ref T) σ (upd H T (.tup [.int (i : Nat), x])) fun σ2 H2 => tb { D with nx := Pv (i + 1), ct := Pv (i + 1), bk := D.nx } σ2 H2) (hd : ∀ σ H, Pv xs.length σ H → D.nx σ H) :
    ∃ W : Nat → Nat → L2.St → Hp → Prop, (∃ m, W 0 m σ H) ∧ ∀ i m σ H, W i m σ H →
      ((Itu K a).stop i H ∧ D.nx σ H) ∨ ((Itu K a).go i H ∧ ∃ N : L2.St → Hp → Prop, (∀ σ' H', N σ' H' → ∃ m', m' < m ∧ W (i + 1) m' σ' H') ∧ ∀ x H', (Itu K a).yld i H x H' → g x σ H' fun σ2 H2 => tb { D with nx := N, ct := N, bk := D.nx } σ2 H2) := by
  refine ⟨fun i m σ H => m = xs.length - i ∧ i ≤ xs.length ∧ Pv i σ H, ⟨xs.length, by simp, Nat.zero_le _, h0⟩, ?_⟩
  rintro i m σ H ⟨rfl, hi, p⟩
  have q := hl i σ H hi p
  by_cases hlt : i < xs.length
  · refine .inr ⟨⟨xs, xs[i], q, by simp [hlt]⟩, Pv (i + 1), fun σ' H' p' => ⟨xs.length - (i + 1), by omega, rfl, hlt, p'⟩, fun x H' y => ?_⟩
    obtain ⟨T, x0, rfl, nT, rfl, y⟩ := y
    exact hs i x0 σ H T (y xs q) p nT
  · have e : i = xs.length := by omega
    subst e
    exact .inl ⟨⟨xs, q, rfl⟩, hd σ H p⟩
end Gh

set_option Elab.async false
set_option linter.all false
set_option maxRecDepth 100000
set_option maxHeartbeats 4000000
/-! Os: o[i], o[i] = v by own methods; -o. -/
namespace Gh
open PySem PySem.Spec PyProof.Rows L2
section
variable {X : Cx} {C f : Addr} {r : List V → Hp → VK → Prop}
/-- o[i] = v by the instance's own __setitem__ -/
@[irreducible] def rSetO (C : Addr) (r : List V → Hp → VK → Prop) : TSet := fun o i v H Q => ∃ a dx fs, o = .ref a ∧ H a = some (.ins C dx fs) ∧ r [o, i, v] H fun _ H' => Q H'
theorem set_own (hq : PySem.W.noSeq X.K C = true) (hs : PySem.W.findIn X.K (.ref C) "__setitem__" = some (some (.ref f))) (hf : PySem.W.isFn X.K (.ref f) = true) (R : CallR X (.ref f) r) : PSet X (rSetO C r) := by
  intro pins s σ H o i v ov iv u Q I ro ri rv h
  unfold rSetO at h
  obtain ⟨a, dx, fs, rfl, ha, q⟩ := h
  cases (show ov = Value.ref a from ro)
  obtain ⟨ox, od, J⟩ := ins_look I ha
  obtain ⟨m, hF⟩ := I.fr
  refine PySem.W.ksp_setItem hF I.ok.mod.kin J hq hs hf ?_
  exact wpAny_mono (R pins s σ H [.ref a, i, v] [.ref a, iv, u] _ I (.cons rfl (.cons ri (.cons rv .nil))) q) (fun w s' z => by
    obtain ⟨x, H', I', _, q'⟩ := z
    exact ⟨H', I', q'⟩) fun _ _ x => x
/-- o[i] by the instance's own __getitem__ -/
@[irreducible] def rIxO (C : Addr) (sp : Sp) (E : XK) : R2 := fun x y H Q => ∃ a dx fs, x = .ref a ∧ H a = some (.ins C dx fs) ∧ sp [x, y] H Q E
structure IxT (K : PySem.W.Frag) (C f : Addr) : Prop where
  at_ : PySem.W.findIn K (.ref C) "__getitem__" = some (some (.ref f))
  fi : PySem.W.fnIn K f = true
  fn : PySem.W.isFn K (.ref f) = true
def ixB (x : Str) (K : PySem.W.Frag) : Bool := He.eqO (PySem.W.findIn K (.ref (gd x K)) "__getitem__") (some (some (.ref (md x "__getitem__" K)))) && (PySem.W.fnIn K (md x "__getitem__" K) && PySem.W.isFn K (.ref (md x "__getitem__" K)))
theorem ixB_ok {x : Str} {K : PySem.W.Frag} (h : ixB x K = true) : IxT K (gd x K) (md x "__getitem__" K) := by
  obtain ⟨h1, h⟩ := He.ba h
  obtain ⟨h2, h3⟩ := He.ba h
  exact ⟨He.eqO_ok h1, h2, h3⟩
theorem pe_ixO {CX : CXT} {k : Nat} {sp : Sp} {E : XK} {value slice : Expr} {pos : Pos} {ta tb : TE} (hv : PE X value ta) (hs : PE X slice tb) (c : IxT X.K C f) (F : PromOX X CX k f [] sp) (hr : Room (k + 1) X.A) (hx : Passes CX X E)
    (hsl : ∀ o i, subscripted slice true o i = runValue (.builtin "lifetime.subscript" ⟨[o, i], []⟩) := by intro _ _; rfl) : PE X (.Subscript value slice pos) (tOp (rIxO C sp E) ta tb) := by
  refine ⟨fun pins s σ H Q I h => ?_⟩
  refine Subscript_ (thn (hv.run pins s σ H _ I h) fun u s1 ⟨x, H1, I1, rx, q1⟩ => thn (hs.run pins s1 σ H1 _ I1 q1) fun v s2 ⟨y, H2, I2, ry, q2⟩ => ?_)
  unfold rIxO at q2
  obtain ⟨a, dx, fs, rfl, ha, q⟩ := q2
  cases (show u = Value.ref a from rx)
  obtain ⟨ox, od, J⟩ := ins_look I2 ha
  obtain ⟨m, hF⟩ := I2.fr
  refine PySem.W.sub_K hF I2.ok.mod.kin J c.at_ c.fi c.fn ?_ (hsl _ _)
  refine wpAny_call (codeAny_mono ((PromO.raw F) X.A.in1 X.stack s2 H2 [.ref a, v] [.ref a, y] Q E hr.in1 I2.env0.in1 (.cons rfl (.cons ry .nil)) q) fun r s' hq => ?_)
  cases r with
  | error e => exact hx pins σ H2 s2 e s' I2 hq
  | ok fl =>
    cases fl with
    | ret u => exact I2.after hq
    | next => exact False.elim hq
    | brk => exact False.elim hq
    | cont => exact False.elim hq
end
end Gh

set_option Elab.async false
set_option linter.all false
set_option maxRecDepth 100000
set_option maxHeartbeats 4000000
/-! Lm: a def that makes lambdas; what stays when a table grows. -/
namespace Gh
open PySem PySem.Spec PyProof.Rows L2
/-- a def that lets no error out, its code object known -/
theorem fnG1 {P : Program} {w : World} {K : PySem.W.Frag} {mg : Str → Option Value} {base : Heap} {CX : CXT} {k : Nat} {f : Addr} {fd : FuncData} {ps : List Str} {sp : Sp} {dvs : List V} {x qual : Str} {params : Arguments} {body : List Stmt} {scope : Scope} {kws : List (Str × V)} {N : List Str}
    (F : FunD K x qual params body scope dvs kws f fd) (S : FnScope N ps scope) (len : ∀ vs H Q E, sp vs H Q E → vs.length = ps.length)
    (hbody : ∀ (cdv : Value) (A : Around) (outer : List Env) (s : Shared) (H : Hp) (vs : List V) (Q : VK) (E : XK), cdv = fd.code → Room k (A.deeper (envOfC qual scope s.heap.objs.size f cdv)) → (A.deeper (envOfC qual scope s.heap.objs.size f cdv)).guards = some [] → sp vs H Q E →
      ∃ t, PSs (cxOf CX P w K mg base N qual scope f cdv A outer s H E).nox body t ∧ t { nx := fun _ H' => Q .non H', rt := Q } (start N vs) H) : FnG P w K mg base CX (k + 1) f fd ps sp := by
  obtain ⟨oc, od, dV, kV, doc, pm, an, cdv, ct, osl, rfl, lk, hcd, _, _⟩ := F.ex
  refine ⟨len, fun A outer s H args us vs Q E hr hg e0 hb r hsp => ?_⟩
  refine LamX.run_ofS (N := N) (ps := ps) lk hcd S hr e0 hb r (len _ _ _ _ hsp) fun hr' => ?_
  obtain ⟨t, ht, q⟩ := hbody cdv A outer s H vs Q E rfl hr' hg hsp
  exact ⟨t, PSs.nox ht, q⟩
theorem codeOf_fn {K : PySem.W.Frag} {x qual : Str} {params : Arguments} {body : List Stmt} {scope : Scope} {dvs : List V} {kws : List (Str × V)} {fd : FuncData} {p : Str × Option Str} (F : FunD K x qual params body scope dvs kws (He.fAd K p) fd) : fd.code = .ref (He.codeOf K p) := by
  obtain ⟨oc, od, dV, kV, doc, pm, an, cdv, ct, osl, rfl, lk, hcd, _, _⟩ := F.ex
  obtain ⟨c, rfl⟩ := He.codeIn_ref hcd
  exact (congrArg Value.ref (He.codeOf_eq lk rfl)).symm
/-! ### what stays -/
section
variable {K : PySem.W.Frag} {H H' : Hp}
theorem extN_same (s : L2.Same H H') : LamX.ExtN H H' := LamX.ExtN.of s
theorem sqL_extN {a : Addr} {xs : List V} (h : SqL K H a xs) (s : LamX.ExtN H H') : SqL K H' a xs := by
  rcases h with (h | ⟨o, h⟩) | h
  · exact .inl (.inl (s _ _ h (fun _ z => by cases z)))
  · exact .inl (.inr ⟨o, s _ _ h (fun _ z => by cases z)⟩)
  · exact .inr h
theorem sqT_extN {a : Addr} {xs : List V} (h : SqT K H a xs) (s : LamX.ExtN H H') : SqT K H' a xs := by
  rcases h with (h | ⟨o, h⟩) | h
  · exact .inl (.inl (s _ _ h (fun _ z => by cases z)))
  · exact .inl (.inr ⟨o, s _ _ h (fun _ z => by cases z)⟩)
  · exact .inr h
mutual
theorem dp_extN (s : LamX.ExtN H H') : ∀ {v : V} {d : PyData}, Dp K H v d → Dp K H' v d
  | _, _, .non => .non
  | _, _, .bl b => .bl b
  | _, _, .int i => .int i
  | _, _, .str x => .str x
  | _, _, .lst h a => .lst (sqL_extN h s) (dpAll_extN s a)
  | _, _, .tup h a => .tup (sqT_extN h s) (dpAll_extN s a)
theorem dpAll_extN (s : LamX.ExtN H H') : ∀ {vs : List V} {ds : List PyData}, DpAll K H vs ds → DpAll K H' vs ds
  | _, _, .nil => .nil
  | _, _, .cons a r => .cons (dp_extN s a) (dpAll_extN s r)
end
theorem Shw.extN {v : V} {t : Str} (h : Shw K H v t) (s : LamX.ExtN H H') : Shw K H' v t := by
  cases h with
  | non => exact .non
  | bl b => exact .bl b
  | int i h => exact .int i h
  | str x h => exact .str x h
  | dp a b c d e => exact .dp (dp_extN s a) b c d e
theorem Kd.extN {v : V} (k : Kd H v) (s : LamX.ExtN H H') : Kd H' v := by
  cases k with
  | non => exact .non
  | bl b => exact .bl b
  | int i => exact .int i
  | str x => exact .str x
  | lst h => exact .lst (s _ _ h (fun _ z => by cases z))
  | tup h => exact .tup (s _ _ h (fun _ z => by cases z))
  | dK h => exact .dK (s _ _ h (fun _ z => by cases z))
theorem PenAt.extN {p : Addr} {b : Nat} (h : PenAt H p b) (s : LamX.ExtN H H') : PenAt H' p b := by
  obtain ⟨c, ns, i, z, h1, h2, r⟩ := h
  exact ⟨c, ns, i, z, s _ _ h1 (fun _ z => by cases z), s _ _ h2 (fun _ z => by cases z), r⟩
theorem tabs_keep {T : List (Addr × Str)} {p : Addr} {b : Nat} (t : LamX.Tabs T H) (pn : PenAt H p b) (k : Keep H H' p) : LamX.Tabs T H' := fun q hq => by
  obtain ⟨c, ns, i, z, hp, _⟩ := pn
  obtain ⟨ps, h1, h2, h3⟩ := t q hq
  refine ⟨ps, k _ _ h1 (ne_of h1 hp (by intro e; cases e)), h2, fun pos cv hc => ?_⟩
  obtain ⟨c', e1, e2⟩ := h3 pos cv hc
  exact ⟨c', e1, k _ _ e2 (ne_of e2 hp (by intro e; unfold LamX.CodeO at e; cases e))⟩
/-! ### shown lists -/
theorem log_lt {i : Int} (h1 : -(10 ^ 50) < i) (h2 : i < 10 ^ 50) : i.natAbs.log2 < 1920 := by
  have h : i.natAbs < 2 ^ 1920 := Nat.lt_of_lt_of_le (show i.natAbs < 10 ^ 50 by omega) (by decide)
  by_cases h0 : i.natAbs = 0
  · rw [h0]
    decide
  · exact (Nat.log2_lt h0).mpr h
theorem short_int {i : Int} (h1 : -(10 ^ 50) < i) (h2 : i < 10 ^ 50) : PyData.leavesShort 60 (.int i) = true := by
  have e := int_text_length_le10 (a := i) (k := 50) (by decide) (by omega)
  have z : ((PyData.int i).shown).length ≤ 60 := by
    show (Str.ofString (toString i)).length ≤ 60
    rw [PySem.ofString_length]
    omega
  show decide _ = true
  exact decide_eq_true z
theorem weight_int {i : Int} (h1 : -(10 ^ 50) < i) (h2 : i < 10 ^ 50) : PyData.weight (.int i) ≤ 2000 := by
  show (if i == 0 then 0 else i.natAbs.log2 + 1) ≤ 2000
  have := log_lt h1 h2
  split <;> omega
/-- a list of three numbers is shown -/
theorem shw3 {l : Addr} {a b c : Int} (hl : SqL K H l [.int a, .int b, .int c]) (a1 : -(10 ^ 50) < a) (a2 : a < 10 ^ 50) (b1 : -(10 ^ 50) < b) (b2 : b < 10 ^ 50) (c1 : -(10 ^ 50) < c) (c2 : c < 10 ^ 50) : Shw K H (.ref l) (PyData.list [.int a, .int b, .int c]).shown := by
  refine .dp (.lst hl (.cons (.int _) (.cons (.int _) (.cons (.int _) .nil)))) ?_ rfl ?_ ?_
  · show (decide _ && (decide _ && (decide _ && true))) = true
    rw [decide_eq_true (log_lt a1 a2), decide_eq_true (log_lt b1 b2), decide_eq_true (log_lt c1 c2)] <;> rfl
  · exact Nat.le_of_ble_eq_true rfl
  · have h := PyData.shown_le 60 (by decide) (.list [.int a, .int b, .int c]) (by
      show (_ && (_ && (_ && true))) = true
      rw [short_int a1 a2, short_int b1 b2, short_int c1 c2] <;> rfl)
    have e : PyData.weight (.list [.int a, .int b, .int c]) = PyData.weight (.int a) + 1 + (PyData.weight (.int b) + 1 + (PyData.weight (.int c) + 1 + 0)) := rfl
    have := weight_int a1 a2
    have := weight_int b1 b2
    have := weight_int c1 c2
    rw [sizeLine_eq]
    omega
end
/-! ### instances called, the reading free of the context -/
def tCallI (C : Addr) (sp : Sp) (E : XK) (tf : TE) (t : TA) : TE := fun σ H Q => tf σ H fun y H1 => ∃ a, y = V.ref a ∧ t σ H1 fun vs H2 => (∃ dx fs, H2 a = some (.ins C dx fs)) ∧ sp (V.ref a :: vs) H2 Q E
theorem pe_callI {X : Cx} {CX : CXT} {k : Nat} {C g : Addr} {sp : Sp} {E : XK} {fe e : Expr} {es : List Expr} {tf : TE} {t : TA} {pos : Pos} (hf : PE X fe tf) (c : StX.CallO X.K C g) (F : PromOX X CX k g [] sp) (hr : Room k X.A) (hx : Passes CX X E) (ha : PA X (e :: es) t)
    (ht : eval (.Call fe (e :: es) [] pos) X.env = (do callWith pos (← eval fe X.env) [] (backTo pos (starEach (e :: es) X.env)) (backToKw pos (keywordEach [] X.env))) := by rfl)
    (he : starEach (e :: es) X.env = (false, eval e X.env) :: starEach es X.env := by rfl) (hpl : (backTo pos (starEach es X.env)).any (·.1) = false := by rfl) : PE X (.Call fe (e :: es) [] pos) (tCallI C sp E tf t) := by
  refine ⟨fun pins s σ H Q I h => ?_⟩
  refine Call_ (thn (hf.run pins s σ H _ I h) fun u s1 ⟨y, H1, I1, ry, a, ey, q⟩ => ?_) ht
  subst ey
  obtain rfl : u = Value.ref a := ry
  refine StX.callO_with (thn (ha.run pos pins s1 σ H1 _ I1 q) fun us s2 ⟨vs, H2, I2, rv, hi, q2⟩ => ?_) he hpl
  obtain ⟨ox, od, J, hd⟩ := StX.insC_at I2 (.inr hi)
  exact ⟨⟨C, ox, od, J, hd⟩, StX.run_callO c (PromO.raw F) hr hx I2 (.inr hi) rv q2⟩
end Gh

set_option Elab.async false
set_option linter.all false
set_option maxRecDepth 100000
set_option maxHeartbeats 4000000
/-! St: steps of readings: heaps by names, one lemma for each construct's reading; rules of one's own whose readings have names. -/
namespace Gh
open PySem PySem.Spec PyProof.Rows L2
/-! ### heaps -/
/-- p is new, and o stands there -/
structure Nw (H H' : Hp) (p : Addr) (o : HO) : Prop where
  no : H p = none
  same : L2.Same H H'
  at_ : H' p = some o
/-- o stands at p, all else as it was -/
structure Mu (H H' : Hp) (p : Addr) (o : HO) : Prop where
  keep : Keep H H' p
  at_ : H' p = some o
section
variable {H H' : Hp} {p a l : Addr} {o u : HO}
theorem nw_upd (n : H p = none) : Nw H (upd H p o) p o := ⟨n, same_new n, upd_same⟩
theorem mu_upd : Mu H (upd H p o) p o := ⟨Keep.refl.put, upd_same⟩
theorem Nw.up (n : Nw H H' p o) (h : H a = some u) : H' a = some u := n.same _ _ h
theorem same_up (n : L2.Same H H') (h : H a = some u) : H' a = some u := n _ _ h
theorem Mu.up (n : Mu H H' p o) (e : a ≠ p) (h : H a = some u) : H' a = some u := n.keep _ _ h e
theorem keep_up (n : Keep H H' p) (e : a ≠ p) (h : H a = some u) : H' a = some u := n _ _ h e
theorem Mu.free (n : Mu H H' p o) (h : H' a = none) : H a = none := by
  cases e : H a with
  | none => rfl
  | some u =>
    by_cases q : a = p
    · subst q
      rw [n.at_] at h
      cases h
    · rw [n.up q e] at h
      cases h
theorem Nw.ne (n : Nw H H' l o) (h : H a = some u) : l ≠ a := fun e => by
  rw [← e, n.no] at h
  cases h
end
/-- a pen and its cells -/
def Pen (H : Hp) (p c : Addr) (b : Nat) : Prop := ∃ (ns : List Int) (i z : Int), H p = some (.lst [.ref c, .int i, .int z]) ∧ H c = some (.lst (ns.map V.int)) ∧ ns.length ≤ 63 ∧ 0 ≤ i ∧ i + b ≤ 1000000 ∧ 0 ≤ z
section
variable {H H' : Hp} {p c a l : Addr} {o u : HO} {b k : Nat} {xs : List V} {C dx : Addr} {fs : List (Str × V)}
theorem Pen.le (h : Pen H p c b) (q : k ≤ b) : Pen H p c k := by
  obtain ⟨ns, i, z, h1, h2, h3, h4, h5, h6⟩ := h
  exact ⟨ns, i, z, h1, h2, h3, h4, by omega, h6⟩
theorem Pen.same (n : L2.Same H H') (h : Pen H p c b) : Pen H' p c b := by
  obtain ⟨ns, i, z, h1, h2, h3⟩ := h
  exact ⟨ns, i, z, n _ _ h1, n _ _ h2, h3⟩
theorem Pen.nw (n : Nw H H' l o) (h : Pen H p c b) : Pen H' p c b := h.same n.same
theorem Pen.mu (n : Mu H H' l o) (e1 : l ≠ p) (e2 : l ≠ c) (h : Pen H p c b) : Pen H' p c b := by
  obtain ⟨ns, i, z, h1, h2, h3⟩ := h
  exact ⟨ns, i, z, n.up e1.symm h1, n.up e2.symm h2, h3⟩
theorem Pen.keep (n : Keep H H' l) (e1 : l ≠ p) (e2 : l ≠ c) (h : Pen H p c b) : Pen H' p c b := by
  obtain ⟨ns, i, z, h1, h2, h3⟩ := h
  exact ⟨ns, i, z, n _ _ h1 e1.symm, n _ _ h2 e2.symm, h3⟩
theorem nw_pen (n : Nw H H' l o) (h : Pen H p c b) : l ≠ p := by
  obtain ⟨ns, i, z, h1, h2, h3⟩ := h
  exact n.ne h1
theorem nw_cell (n : Nw H H' l o) (h : Pen H p c b) : l ≠ c := by
  obtain ⟨ns, i, z, h1, h2, h3⟩ := h
  exact n.ne h2
theorem tup_pen (n : H a = some (.tup xs)) (h : Pen H p c b) : a ≠ p := by
  obtain ⟨ns, i, z, h1, h2, h3⟩ := h
  exact ne_of n h1 (by intro e; cases e)
theorem tup_cell (n : H a = some (.tup xs)) (h : Pen H p c b) : a ≠ c := by
  obtain ⟨ns, i, z, h1, h2, h3⟩ := h
  exact ne_of n h2 (by intro e; cases e)
theorem ins_pen (n : H a = some (.ins C dx fs)) (h : Pen H p c b) : a ≠ p := by
  obtain ⟨ns, i, z, h1, h2, h3⟩ := h
  exact ne_of n h1 (by intro e; cases e)
theorem ins_cell (n : H a = some (.ins C dx fs)) (h : Pen H p c b) : a ≠ c := by
  obtain ⟨ns, i, z, h1, h2, h3⟩ := h
  exact ne_of n h2 (by intro e; cases e)
theorem Pen.cells (h : Pen H p c b) : c ≠ p := by
  obtain ⟨ns, i, z, h1, h2, h3⟩ := h
  exact pen_ne h1 h2
end
section
variable {H H' : Hp} {a t l : Addr} {o u : HO} {xs ys : List V} {C dx : Addr} {fs : List (Str × V)}
theorem ins_lst (h : H a = some (.ins C dx fs)) (k : H t = some (.lst xs)) : a ≠ t := ne_of h k (by intro e; cases e)
theorem ins_tup (h : H a = some (.ins C dx fs)) (k : H t = some (.tup xs)) : a ≠ t := ne_of h k (by intro e; cases e)
theorem tup_lst (h : H a = some (.tup ys)) (k : H t = some (.lst xs)) : a ≠ t := ne_of h k (by intro e; cases e)
theorem nw_ne (n : Nw H H' l o) (h : H a = some u) : l ≠ a := n.ne h
end
/-- the promise of the def that draws -/
def spDr : Sp := fun vs H Q _ => ∃ (p c : Addr) (b : Nat) (m : Int), vs = [.ref p, .int m] ∧ 0 < m ∧ m.natAbs.log2 < 9000 ∧ Pen H p c (b + 1) ∧
  ∀ (d : Int) (H' : Hp), 0 ≤ d → d < m → Pen H' p c b → Keep H H' p → Q (.int d) H'
/-- the promise of the def that makes a pen -/
def spPn (K : PySem.W.Frag) : Sp := fun vs H Q _ => ∃ (a : Addr) (ns : List Int), vs = [.ref a] ∧ SqL K H a (ns.map V.int) ∧ ns.length ≤ 63 ∧ ∀ (p c : Addr) (H' : Hp), H p = none → Pen H' p c 1000000 → L2.Same H H' → Q (.ref p) H'
/-- the promise of the def that picks -/
def spPk : Sp := fun vs H Q _ => ∃ (p c : Addr) (b : Nat) (l : Addr) (xs : List V), vs = [.ref p, .ref l] ∧ H l = some (.lst xs) ∧ 0 < xs.length ∧ xs.length ≤ 1000 ∧ l ≠ p ∧ Pen H p c (b + 1) ∧
  ∀ (j : Nat) (v : V) (H' : Hp), xs[j]? = some v → Pen H' p c b → Keep H H' p → Q v H'
section
variable {H : Hp} {E : XK} {Q : VK} {p c l : Addr} {b : Nat} {m : Int} {xs : List V}
theorem st_draw (pn : Pen H p c (b + 1)) (h0 : 0 < m) (h9 : m.natAbs.log2 < 9000) (q : ∀ (d : Int) (H' : Hp), 0 ≤ d → d < m → Pen H' p c b → Keep H H' p → Q (.int d) H') : rSp spDr [] E [.ref p, .int m] H Q :=
  ⟨p, c, b, m, rfl, h0, h9, pn, q⟩
theorem st_pick (hl : H l = some (.lst xs)) (pn : Pen H p c (b + 1)) (h0 : 0 < xs.length) (h9 : xs.length ≤ 1000) (ne : l ≠ p) (q : ∀ (j : Nat) (v : V) (H' : Hp), xs[j]? = some v → Pen H' p c b → Keep H H' p → Q v H') : rSp spPk [] E [.ref p, .ref l] H Q :=
  ⟨p, c, b, l, xs, rfl, hl, h0, h9, ne, pn, q⟩
theorem log_of (h0 : 0 < m) (h : m < 10 ^ 100) : m.natAbs.log2 < 9000 := by
  have h2 : m.natAbs < 2 ^ 9000 := Nat.lt_of_lt_of_le (show m.natAbs < 10 ^ 100 by omega) (by decide)
  exact (Nat.log2_lt (by omega)).mpr h2
end
/-! ### rules whose readings have names -/
@[irreducible] def rLn (K : PySem.W.Frag) : List V → Hp → VK → Prop := fun xs H Q => ∃ x n, xs = [x] ∧ LenV K x H n ∧ Q (.int n) H
@[irreducible] def rListOf (K : PySem.W.Frag) : List V → Hp → VK → Prop := fun xs H Q => ∃ p ys, xs = [.ref p] ∧ (SqL K H p ys ∨ SqT K H p ys) ∧ ∀ l, H l = none → Q (.ref l) (upd H l (.lst ys))
@[irreducible] def rTupOf (K : PySem.W.Frag) : List V → Hp → VK → Prop := fun xs H Q => ∃ p ys, xs = [.ref p] ∧ ((SqL K H p ys ∧ ∀ l, H l = none → Q (.ref l) (upd H l (.tup ys))) ∨ (SqT K H p ys ∧ Q (.ref p) H))
@[irreducible] def rInt : List V → Hp → VK → Prop := rInt1
@[irreducible] def rAbs : List V → Hp → VK → Prop := fun xs H Q => ∃ i, xs = [.int i] ∧ Q (.int (if i < 0 then -i else i)) H
@[irreducible] def rStrI : List V → Hp → VK → Prop := fun xs H Q => ∃ i, xs = [.int i] ∧ i.natAbs.log2 < 1920 ∧ Q (.str (toString i)) H
@[irreducible] def rIsN : R2 := fun x y H Q => y = .non ∧ Q (.bl (decide (x = .non))) H
@[irreducible] def rNotN : R2 := fun x y H Q => y = .non ∧ Q (.bl (!decide (x = .non))) H
section
variable {X : Cx} {K : PySem.W.Frag}
theorem cr_len (h : X.K = K) : CallR X (.builtin "len") (rLn K) := by unfold rLn; exact h ▸ call_len
theorem cr_listOf (h : X.K = K) : CallR X (.type "list") (rListOf K) := by unfold rListOf; exact h ▸ call_list_of
theorem cr_tupOf (h : X.K = K) : CallR X (.type "tuple") (rTupOf K) := by unfold rTupOf; exact h ▸ call_tuple_of
theorem cr_int : CallR X (.type "int") rInt := by unfold rInt; exact call_int1
theorem cr_abs : CallR X (.builtin "abs") rAbs := by unfold rAbs; exact call_abs
theorem cr_strI : CallR X (.type "str") rStrI := by unfold rStrI; exact call_str_int
theorem or_isN : OpR X (compareOp .Is) rIsN := by unfold rIsN; exact op_isN
theorem or_notN : OpR X (compareOp .IsNot) rNotN := by unfold rNotN; exact op_notN
theorem sl_listK (h : X.K = K) : SlR X (rSlL K) := h ▸ sl_list
theorem sl_tupK (h : X.K = K) : SlR X (rSlT K) := h ▸ sl_tup
theorem op_inK (h : X.K = K) : OpR X (compareOp .In) (rIn K false) := h ▸ op_in_seq
theorem op_eqDK (h : X.K = K) (hu : X.A.units + 64 < cLine) : OpR X (compareOp .Eq) (rEqD K) := h ▸ op_eqD hu
theorem op_neDK (h : X.K = K) (hu : X.A.units + 64 < cLine) : OpR X (compareOp .NotEq) (rNeD K) := h ▸ op_neD hu
theorem call_isiTK {X : Cx} {K : PySem.W.Frag} (h : X.K = K) : CallR X (.builtin "isinstance") (rIsiT K) := h ▸ call_isiT
/-- o.f, the class told -/
@[irreducible] def rFld (C : Addr) (f : Str) : V → Hp → VK → Prop := fun x H Q => ∃ a dx fs v, x = .ref a ∧ H a = some (.ins C dx fs) ∧ fs.lookup f = some v ∧ Q v H
theorem pe_f {C : Addr} {e : Expr} {f : Str} {pos : Pos} {ta : TE} (he : PE X e ta) (c : Cls X.K C) (n : NoAttr X.K C f) (hb : attributeBase e f X.env (eval e X.env) = eval e X.env := by rfl) : PE X (.Attribute e f pos) (tUn (rFld C f) ta) := by
  refine ⟨fun pins s σ H Q I h => ?_⟩
  refine attr_of hb (thn (he.run pins s σ H _ I h) fun u s1 ⟨x, H1, I1, rx, q0⟩ => ?_)
  unfold rFld at q0
  obtain ⟨a, dx, fs, v, ex, ea, l, q⟩ := q0
  subst ex
  obtain rfl : u = Value.ref a := rx
  exact getattr_ok I1 ea c n l fun u' s2 I2 ru => ⟨v, H1, I2, ru, q⟩
/-- o.f = e, the class told -/
@[irreducible] def sF (C : Addr) (ta tv : TE) (f : Str) : TS := fun D σ H => tv σ H fun y H1 => ta σ H1 fun x H2 => ∃ a dx fs, x = .ref a ∧ H2 a = some (.ins C dx fs) ∧ fs.length < 1000 ∧ D.nx σ (upd H2 a (.ins C dx (putF f y fs)))
theorem ps_f {C : Addr} {o value : Expr} {f : Str} {pos pos' : Pos} {ta tv : TE} (ha : PE X o ta) (hv : PE X value tv) (c : Cls X.K C) (n : NoAttr X.K C f) (hs : swapsWith value (some (.Attribute o f pos')) pos.line X.env = pure false := by rfl) : PS X (.Assign [.Attribute o f pos'] value pos) (sF C ta tv f) := by
  refine ⟨fun pins s σ H D I h => ?_⟩
  unfold sF at h
  refine plainObj_wpAny_Assign_Attribute (thn (hv.run pins s σ H _ I h) fun u s1 ⟨y, H1, I1, ry, q⟩ => thn (ha.run pins s1 σ H1 _ I1 q) fun ov s2 ⟨x, H2, I2, rx, a, dx, fs, ex, ea, l, q2⟩ => ?_) hs
  subst ex
  obtain rfl : ov = Value.ref a := rx
  exact setattr_ok I2 ea c n l ry fun s3 I3 => ⟨σ, _, I3, q2⟩
/-- o.NAME, a constant of the class, the class told -/
@[irreducible] def rConst (C : Addr) (f : Str) (v : V) : V → Hp → VK → Prop := fun x H Q => ∃ a dx fs, x = .ref a ∧ H a = some (.ins C dx fs) ∧ fs.lookup f = none ∧ Q v H
theorem pe_c {C : Addr} {e : Expr} {f : Str} {pos : Pos} {ta : TE} {v : V} {u0 : Value} (he : PE X e ta) (c : Cls X.K C) (k : Con X.K C f v u0) (hb : attributeBase e f X.env (eval e X.env) = eval e X.env := by rfl) : PE X (.Attribute e f pos) (tUn (rConst C f v) ta) := by
  refine ⟨fun pins s σ H Q I h => ?_⟩
  refine attr_of hb (thn (he.run pins s σ H _ I h) fun u s1 ⟨x, H1, I1, rx, q0⟩ => ?_)
  unfold rConst at q0
  obtain ⟨a, dx, fs, ex, ea, l, q⟩ := q0
  subst ex
  obtain rfl : u = Value.ref a := rx
  exact getcon_ok I1 ea c k l fun s2 I2 => ⟨v, H1, I2, k.rel, q⟩
end
/-! ### steps -/
theorem len_ok {n : Nat} (h : n ≤ 100000) : n ≤ sizeLine := Nat.le_trans h (by decide)
/-- a ** b of two written numbers -/
@[irreducible] def rPowK (r : Int) : R2 := fun x y H Q => ∃ i j, x = .int i ∧ y = .int j ∧ CPow i j ∧ i ^ j.toNat = r ∧ Q (.int r) H
theorem op_powK {X : Cx} (r : Int) : OpR X (binaryOp .Pow) (rPowK r) := by
  intro pins s σ H x y v u Q I rx ry h
  unfold rPowK at h
  obtain ⟨i, j, h1, h2, h3, h4, q⟩ := h
  exact op_pow pins s σ H x y v u Q I rx ry ⟨i, j, h1, h2, h3, by show Q (.int (i ^ j.toNat)) H; rw [h4]; exact q⟩
section
variable {K : PySem.W.Frag} {H : Hp} {σ : L2.St} {Q : VK} {D : Ends} {i j n : Int} {x y v : V} {ta tb tc te tf : TE} {t u : TS} {c d : TT} {k : Bool} {a l p C dx : Addr} {xs ys : List V} {A B : Prop}
theorem st_seq (h : t { D with nx := u D } σ H) : tSeq t u D σ H := h
theorem st_nx (h : D.nx σ H) : tNext D σ H := h
theorem st_asg {g : TG} (h : te σ H fun x H1 => g x σ H1 D.nx) : tAsg te g D σ H := h
theorem st_name {m : Nat} {Q : L2.St → Hp → Prop} (h : Q (σ.set m (some v)) H) : gName m v σ H Q := h
theorem st_drop (h : te σ H fun _ H1 => D.nx σ H1) : tDrop te D σ H := h
theorem st_ret (h : te σ H D.rt) : tRet te D σ H := h
theorem st_retN (h : D.rt .non H) : tRetN D σ H := h
theorem st_ifS (h : c σ H fun b H1 => if b = true then t D σ H1 else u D σ H1) : tIfS c t u D σ H := h
theorem st_brk (h : D.bk σ H) : tBreak D σ H := h
theorem st_cnt (h : D.ct σ H) : tCont D σ H := h
theorem st_par {m m' : Nat} {t : TA} (h : t σ H fun vs H1 => ∃ v w, vs = [v, w] ∧ D.nx ((σ.set m (some v)).set m' (some w)) H1) : tPar m m' t D σ H := h
theorem st_par2 {P : V → V → Prop} (h : P x y) : ∃ v w, [x, y] = [v, w] ∧ P v w := ⟨x, y, rfl, h⟩
theorem st_aug {m : Nat} {ti : TIp} (e : σ[m]? = some (some x)) (h : te σ H fun y H1 => ti x y H1 fun z H2 => D.nx (σ.set m (some z)) H2) : tAug m te ti D σ H := ⟨x, e, h⟩
theorem st_var {m : Nat} (e : σ[m]? = some (some v)) (h : Q v H) : tVar m σ H Q := ⟨v, e, h⟩
theorem st_c (h : Q v H) : tC v σ H Q := h
theorem st_op {r : R2} (h : ta σ H fun x H1 => tb σ H1 fun y H2 => r x y H2 Q) : tOp r ta tb σ H Q := h
theorem st_un {r : V → Hp → VK → Prop} (h : ta σ H fun x H1 => r x H1 Q) : tUn r ta σ H Q := h
theorem st_rI0 {g : Int → Int → V} (h : Q (g i j) H) : rI0 g (.int i) (.int j) H Q := ⟨i, j, rfl, rfl, h⟩
theorem st_rI {g : Int → Int → V} {R : Int → Int → Prop} (hc : R i j) (h : Q (g i j) H) : rI R g (.int i) (.int j) H Q := ⟨i, j, rfl, rfl, hc, h⟩
theorem st_rU {g : Int → V} (h : Q (g i) H) : rU g (.int i) H Q := ⟨i, rfl, h⟩
theorem st_rAdd (h : Q (.int (i + j)) H) : rAdd (.int i) (.int j) H Q := ⟨i, j, rfl, rfl, h⟩
theorem st_rSub (h : Q (.int (i - j)) H) : rSub (.int i) (.int j) H Q := ⟨i, j, rfl, rfl, h⟩
theorem st_eq (e : scal x y = true) (h : Q (.bl (decide (x = y))) H) : rEq x y H Q := ⟨e, h⟩
theorem st_ne (e : scal x y = true) (h : Q (.bl (!decide (x = y))) H) : rNe x y H Q := ⟨e, h⟩
theorem st_isN (h : Q (.bl (decide (x = .non))) H) : rIsN x .non H Q := by unfold rIsN; exact ⟨rfl, h⟩
theorem st_notN (h : Q (.bl (!decide (x = .non))) H) : rNotN x .non H Q := by unfold rNotN; exact ⟨rfl, h⟩
theorem st_test {Q : Bool → Hp → Prop} (h : te σ H fun x H' => ∃ k, x = .bl k ∧ Q k H') : tTest te σ H Q := h
theorem st_tB {Q : Bool → Hp → Prop} (h : te σ H fun x H' => ∃ k, x = .bl k ∧ Q k H') : tB te σ H Q := h
theorem st_ebl {P : Bool → Prop} (h : P k) : ∃ k', V.bl k = .bl k' ∧ P k' := ⟨k, rfl, h⟩
theorem st_eint {P : Int → Prop} (h : P i) : ∃ k', V.int i = .int k' ∧ P k' := ⟨i, rfl, h⟩
theorem st_and {Q : Bool → Hp → Prop} (h : c σ H fun k H1 => if k = true then d σ H1 Q else Q false H1) : tAnd c d σ H Q := h
theorem st_or {Q : Bool → Hp → Prop} (h : c σ H fun k H1 => if k = true then Q true H1 else d σ H1 Q) : tOr c d σ H Q := h
theorem st_not {Q : Bool → Hp → Prop} (h : c σ H fun k H1 => Q (!k) H1) : tNot c σ H Q := h
theorem st_andV (h : ta σ H fun x H1 => ∃ c, x = .bl c ∧ if c = true then tb σ H1 Q else Q (.bl false) H1) : tAndV ta tb σ H Q := h
theorem st_orV (h : ta σ H fun x H1 => ∃ c, x = .bl c ∧ if c = true then Q (.bl true) H1 else tb σ H1 Q) : tOrV ta tb σ H Q := h
theorem st_notV (h : ta σ H fun x H1 => ∃ c, x = .bl c ∧ Q (.bl (!c)) H1) : tNotV ta σ H Q := h
theorem st_ifE (h : c σ H fun k H1 => if k = true then ta σ H1 Q else tb σ H1 Q) : tIf c ta tb σ H Q := h
theorem st_chain {r r' : R2} (h : ta σ H fun x H1 => tb σ H1 fun y H2 => r x y H2 fun z H3 => ∃ k, z = .bl k ∧ if k = true then tc σ H3 fun w H4 => r' y w H4 Q else Q (.bl false) H3) : tChain r r' ta tb tc σ H Q := h
theorem st_if1 (e : k = true) (h : A) : if k = true then A else B := by rw [if_pos e]; exact h
theorem st_if0 (e : k = false) (h : B) : if k = true then A else B := by rw [e, if_neg (by decide)]; exact h
theorem st_nil {Q : List V → Hp → Prop} (h : Q [] H) : tNil σ H Q := h
theorem st_cons {t : TA} {Q : List V → Hp → Prop} (h : ta σ H fun x H1 => t σ H1 fun xs H2 => Q (x :: xs) H2) : tCons ta t σ H Q := h
theorem st_cl {r : List V → Hp → VK → Prop} {t : TA} (h : t σ H fun vs H1 => r vs H1 Q) : tCl r t σ H Q := h
theorem st_cb {r : List V → Hp → VK → Prop} {t : TA} (h : t σ H fun vs H1 => r vs H1 Q) : tCB r t σ H Q := h
theorem st_mt {m : Str} {r : List V → Hp → VK → Prop} {t : TA} (h : ta σ H fun x H1 => ∃ a dx fs, x = .ref a ∧ H1 a = some (.ins C dx fs) ∧ fs.lookup m = none ∧ t σ H1 fun vs H2 => r (x :: vs) H2 Q) : tMt C m r ta t σ H Q := h
theorem st_emt {m : Str} {fs : List (Str × V)} {P : Prop} (h : H a = some (.ins C dx fs)) (e : fs.lookup m = none) (q : P) : ∃ a' dx fs, V.ref a = .ref a' ∧ H a' = some (.ins C dx fs) ∧ fs.lookup m = none ∧ P := ⟨a, dx, fs, rfl, h, e, q⟩
theorem st_pr {sp : Sp} {dvs : List V} {E : XK} (h : ta σ H fun x H1 => ∃ a dx fs, x = .ref a ∧ H1 a = some (.ins C dx fs) ∧ sp (.ref a :: dvs) H1 Q E) : tPr C sp dvs E ta σ H Q := h
theorem st_epr {fs : List (Str × V)} {sp : Sp} {dvs : List V} {E : XK} (h : H a = some (.ins C dx fs)) (q : rSp sp dvs E [.ref a] H Q) : ∃ a' dx fs, V.ref a = .ref a' ∧ H a' = some (.ins C dx fs) ∧ sp (.ref a' :: dvs) H Q E := ⟨a, dx, fs, rfl, h, q⟩
theorem st_fld {f : Str} {fs : List (Str × V)} (h : H a = some (.ins C dx fs)) (e : fs.lookup f = some v) (q : Q v H) : rFld C f (.ref a) H Q := by unfold rFld; exact ⟨a, dx, fs, v, rfl, h, e, q⟩
theorem st_const {f : Str} {fs : List (Str × V)} (h : H a = some (.ins C dx fs)) (e : fs.lookup f = none) (q : Q v H) : rConst C f v (.ref a) H Q := by unfold rConst; exact ⟨a, dx, fs, rfl, h, e, q⟩
def rSetF (C : Addr) (f : Str) (y x : V) (H : Hp) (P : Hp → Prop) : Prop := ∃ a dx fs, x = .ref a ∧ H a = some (.ins C dx fs) ∧ fs.length < 1000 ∧ P (upd H a (.ins C dx (putF f y fs)))
theorem st_sF {f : Str} (h : te σ H fun y H1 => ta σ H1 fun x H2 => rSetF C f y x H2 fun H3 => D.nx σ H3) : sF C ta te f D σ H := by unfold sF; exact h
theorem st_setF {f : Str} {fs : List (Str × V)} {P : Hp → Prop} (h : H a = some (.ins C dx fs)) (e : fs.length < 1000) (q : ∀ H', Mu H H' a (.ins C dx (putF f y fs)) → P H') : rSetF C f y (.ref a) H P := ⟨a, dx, fs, rfl, h, e, q _ mu_upd⟩
theorem st_powK {r : Int} (h1 : CPow i j) (h2 : i ^ j.toNat = r) (q : Q (.int r) H) : rPowK r (.int i) (.int j) H Q := by unfold rPowK; exact ⟨i, j, rfl, rfl, h1, h2, q⟩
/-! lists and tuples -/
def rNewL (xs : List V) (H : Hp) (Q : VK) : Prop := xs.length ≤ sizeLine ∧ ∀ p, H p = none → Q (.ref p) (upd H p (.lst xs))
def rNewT (xs : List V) (H : Hp) (Q : VK) : Prop := xs.length ≤ sizeLine ∧ ∀ p, H p = none → Q (.ref p) (upd H p (.tup xs))
theorem st_lst {t : TA} (h : t σ H fun xs H1 => rNewL xs H1 Q) : tLst t σ H Q := h
theorem st_tup {t : TA} (h : t σ H fun xs H1 => rNewT xs H1 Q) : tTup t σ H Q := h
theorem st_newL (e : xs.length ≤ sizeLine) (h : ∀ p H', Nw H H' p (.lst xs) → Q (.ref p) H') : rNewL xs H Q := ⟨e, fun p np => h p _ (nw_upd np)⟩
theorem st_newT (e : xs.length ≤ sizeLine) (h : ∀ p H', Nw H H' p (.tup xs) → Q (.ref p) H') : rNewT xs H Q := ⟨e, fun p np => h p _ (nw_upd np)⟩
theorem new_of {o : HO} (h : ∀ p H', Nw H H' p o → Q (.ref p) H') : ∀ p, H p = none → Q (.ref p) (upd H p o) := fun p np => h p _ (nw_upd np)
theorem st_ixL (h : H p = some (.lst xs)) (e : atI xs i = some v) (q : Q v H) : rIxL K (.ref p) (.int i) H Q := ⟨p, xs, i, v, rfl, rfl, SqL.of h, e, q⟩
theorem st_ixLs (h : SqL K H p xs) (e : atI xs i = some v) (q : Q v H) : rIxL K (.ref p) (.int i) H Q := ⟨p, xs, i, v, rfl, rfl, h, e, q⟩
theorem st_ixT (h : H p = some (.tup xs)) (e : atI xs i = some v) (q : Q v H) : rIxT K (.ref p) (.int i) H Q := ⟨p, xs, i, v, rfl, rfl, SqT.of h, e, q⟩
theorem st_ixTs (h : SqT K H p xs) (e : atI xs i = some v) (q : Q v H) : rIxT K (.ref p) (.int i) H Q := ⟨p, xs, i, v, rfl, rfl, h, e, q⟩
theorem st_lenL (h : H p = some (.lst xs)) (q : Q (.int xs.length) H) : rLn K [.ref p] H Q := by unfold rLn; exact ⟨_, _, rfl, .inl ⟨xs, SqL.of h, rfl⟩, q⟩
theorem st_lenT (h : H p = some (.tup xs)) (q : Q (.int xs.length) H) : rLn K [.ref p] H Q := by unfold rLn; exact ⟨_, _, rfl, .inr ⟨xs, SqT.of h, rfl⟩, q⟩
theorem st_lenS {z : Str} (e : z.length ≤ sizeLine) (q : Q (.int z.length) H) : rLn K [.str z] H Q := by unfold rLn; exact ⟨_, _, rfl, ⟨e, rfl⟩, q⟩
theorem st_listL (h : H p = some (.lst xs)) (q : ∀ l H', Nw H H' l (.lst xs) → Q (.ref l) H') : rListOf K [.ref p] H Q := by unfold rListOf; exact ⟨p, xs, rfl, .inl (SqL.of h), new_of q⟩
theorem st_listT (h : H p = some (.tup xs)) (q : ∀ l H', Nw H H' l (.lst xs) → Q (.ref l) H') : rListOf K [.ref p] H Q := by unfold rListOf; exact ⟨p, xs, rfl, .inr (SqT.of h), new_of q⟩
theorem st_tupL (h : H p = some (.lst xs)) (q : ∀ l H', Nw H H' l (.tup xs) → Q (.ref l) H') : rTupOf K [.ref p] H Q := by unfold rTupOf; exact ⟨p, xs, rfl, .inl ⟨SqL.of h, new_of q⟩⟩
theorem st_tupT (h : H p = some (.tup xs)) (q : Q (.ref p) H) : rTupOf K [.ref p] H Q := by unfold rTupOf; exact ⟨p, xs, rfl, .inr ⟨SqT.of h, q⟩⟩
theorem st_int (q : Q (.int i) H) : rInt [.int i] H Q := by unfold rInt; exact .inl ⟨i, rfl, q⟩
theorem st_intB (q : Q (.int (if k = true then 1 else 0)) H) : rInt [.bl k] H Q := by unfold rInt; exact .inr ⟨k, rfl, q⟩
theorem st_abs (q : Q (.int (if i < 0 then -i else i)) H) : rAbs [.int i] H Q := by unfold rAbs; exact ⟨i, rfl, q⟩
theorem st_strI (e : i.natAbs.log2 < 1920) (q : Q (.str (toString i)) H) : rStrI [.int i] H Q := by unfold rStrI; exact ⟨i, rfl, e, q⟩
theorem st_sl {r : V → Option Int → Option Int → Hp → VK → Prop} {tl th : TO} (h : te σ H fun x H1 => tl σ H1 fun l H2 => th σ H2 fun u H3 => r x l u H3 Q) : tSl r te tl th σ H Q := h
theorem st_part {Q : Option Int → Hp → Prop} (h : te σ H fun x H1 => ∃ i, x = .int i ∧ Q (some i) H1) : tPart te σ H Q := h
theorem st_nopart {Q : Option Int → Hp → Prop} (h : Q none H) : tNoPart σ H Q := h
theorem st_slL {lo hi : Option Int} (h : H p = some (.lst xs)) (q : ∀ l H', Nw H H' l (.lst (cutV xs lo hi)) → Q (.ref l) H') : rSlL K (.ref p) lo hi H Q := ⟨p, xs, rfl, SqL.of h, new_of q⟩
theorem st_slLs {lo hi : Option Int} (h : SqL K H p xs) (q : ∀ l H', Nw H H' l (.lst (cutV xs lo hi)) → Q (.ref l) H') : rSlL K (.ref p) lo hi H Q := ⟨p, xs, rfl, h, new_of q⟩
theorem st_cat (h : H l = some (.lst xs)) (h' : H p = some (.lst ys)) (e : xs.length + ys.length ≤ sizeLine) (q : ∀ a H', Nw H H' a (.lst (xs ++ ys)) → Q (.ref a) H') : rCat (.ref l) (.ref p) H Q := ⟨l, p, xs, ys, rfl, rfl, h, h', e, new_of q⟩
theorem st_bm {T : String} {r : V → List V → Hp → VK → Prop} {t : TA} (h : te σ H fun x H1 => tyV K T x H1 ∧ t σ H1 fun xs H2 => r x xs H2 Q) : tBM K T r te t σ H Q := h
theorem st_bm0 {T : String} {r : V → List V → Hp → VK → Prop} (h : te σ H fun x H1 => tyV K T x H1 ∧ r x [] H1 Q) : tBM0 K T r te σ H Q := h
theorem st_tyL {P : Prop} (h : H p = some (.lst xs)) (q : P) : tyV K "list" (.ref p) H ∧ P := ⟨.inl ⟨rfl, xs, SqL.of h⟩, q⟩
theorem st_tyS {z : Str} {P : Prop} (q : P) : tyV K "str" (.str z) H ∧ P := ⟨rfl, q⟩
theorem st_app (h : H l = some (.lst xs)) (e : xs.length < sizeLine) (q : ∀ H', Mu H H' l (.lst (xs ++ [y])) → Q .non H') : rAppend (.ref l) [y] H Q := ⟨l, xs, y, rfl, rfl, h, e, q _ mu_upd⟩
theorem st_gsub {to ti : TE} {ts : TSet} {Q : L2.St → Hp → Prop} (h : to σ H fun o H1 => ti σ H1 fun i H2 => ts o i v H2 fun H3 => Q σ H3) : gSub to ti ts v σ H Q := h
theorem st_setL {m : Nat} {Q : Hp → Prop} (h : H p = some (.lst xs)) (e : ixN xs.length i = some m) (q : ∀ H', Mu H H' p (.lst (xs.set m v)) → Q H') : rSetL (.ref p) (.int i) v H Q := ⟨p, xs, i, m, rfl, rfl, h, e, q _ mu_upd⟩
theorem st_show {z : Str} (h : Shw K H v z) (q : Q (.str z) H) : rShow K [v] H Q := rShow_of h q
theorem st_isi {cv : V} {tv uv : Value} {b : Bool} (h1 : ClsV cv uv) (h2 : TyX K H x tv) (h3 : PySem.W.kitOne K tv uv = some b) (q : Q (.bl b) H) : rIsi K [x, cv] H Q := ⟨x, cv, tv, uv, b, rfl, h1, h2, h3, q⟩
theorem st_eqD {d e : PyData} (h1 : Dp K H x d) (h2 : Dp K H y e) (h3 : SeqAt.shaped d = true) (h4 : SeqAt.shaped e = true) (q : Q (.bl (PyData.eqv d e)) H) : rEqD K x y H Q := ⟨d, e, h1, h2, h3, h4, q⟩
theorem st_neD {d e : PyData} (h1 : Dp K H x d) (h2 : Dp K H y e) (h3 : SeqAt.shaped d = true) (h4 : SeqAt.shaped e = true) (q : Q (.bl (!PyData.eqv d e)) H) : rNeD K x y H Q := ⟨d, e, h1, h2, h3, h4, q⟩
theorem st_gtup {m : Nat} {g : TGs} {Q : L2.St → Hp → Prop} (h : H a = some (.tup xs)) (e : xs.length = m) (q : g xs σ H Q) : gTup K m g (.ref a) σ H Q := ⟨a, xs, rfl, SqT.of h, e, q⟩
theorem st_gcons {g : TG} {gs : TGs} {Q : L2.St → Hp → Prop} (h : g v σ H fun σ' H' => gs xs σ' H' Q) : gCons g gs (v :: xs) σ H Q := ⟨v, xs, rfl, h⟩
theorem st_gnil {Q : L2.St → Hp → Prop} (h : Q σ H) : gNil [] σ H Q := ⟨rfl, h⟩
theorem st_list {R : It → Hp → Prop} (h : te σ H fun x H1 => ∃ a, x = .ref a ∧ (∃ xs, SqL K H1 a xs) ∧ R (Itl K a) H1) : iList K te σ H R := h
theorem st_elist {P : Addr → Prop} (h : H a = some (.lst xs)) (q : P a) : ∃ a', V.ref a = .ref a' ∧ (∃ xs, SqL K H a' xs) ∧ P a' := ⟨a, rfl, ⟨xs, SqL.of h⟩, q⟩
theorem st_itup {R : It → Hp → Prop} (h : te σ H fun x H1 => ∃ a, x = .ref a ∧ (∃ xs, SqT K H1 a xs) ∧ R (Itt K a) H1) : iTup K te σ H R := h
theorem st_eitup {P : Addr → Prop} (h : H a = some (.tup xs)) (q : P a) : ∃ a', V.ref a = .ref a' ∧ (∃ xs, SqT K H a' xs) ∧ P a' := ⟨a, rfl, ⟨xs, SqT.of h⟩, q⟩
end
end Gh

set_option Elab.async false
set_option linter.all false
set_option maxRecDepth 100000
set_option maxHeartbeats 4000000
/-! Sw: three comparisons in a row; a list's slice set; calls with keywords. -/
namespace Gh
open PySem PySem.Spec PyProof.Rows L2
section
variable {X : Cx} {a b c d : Expr} {ta tb tc td : TE} {pos : Pos}
/-- a op1 b op2 c op3 d -/
def tChain3 (r r' r2 : R2) (ta tb tc td : TE) : TE := fun σ H Q => ta σ H fun x H1 => tb σ H1 fun y H2 => r x y H2 fun z H3 => ∃ k, z = .bl k ∧
  (if k = true then tc σ H3 fun w H4 => r' y w H4 fun z' H5 => ∃ k', z' = .bl k' ∧ (if k' = true then td σ H5 fun v H6 => r2 w v H6 Q else Q (.bl false) H5) else Q (.bl false) H3)
theorem pt_chain3 {op op' op2 : CmpOp} {r r' r2 : R2} (ho : OpR X (compareOp op) r) (ho' : OpR X (compareOp op') r') (ho2 : OpR X (compareOp op2) r2) (ha : PE X a ta) (hb : PE X b tb) (hc : PE X c tc) (hd : PE X d td)
    (hm : lastMarks [op, op', op2] [b, c, d] = false := by with_unfolding_all rfl) : PT X (.Compare a [op, op', op2] [b, c, d] pos) (tTest (tChain3 r r' r2 ta tb tc td)) := by
  refine ⟨fun pins s σ H Q I h => ?_⟩
  refine isTrue_chain (thn (ha.run pins s σ H _ I h) fun v s1 ⟨x, H1, I1, r1, q1⟩ => test_link (thn (hb.run pins s1 σ H1 _ I1 q1) fun u s2 ⟨y, H2, I2, rr2, q2⟩ =>
    thn (ho pins s2 σ H2 x y v u _ I2 r1 rr2 q2) fun d s3 ⟨z, H3, I3, r3, k, e, q3⟩ => ?_)) hm
  subst e
  cases r3
  refine wpAny_truthy_bool ?_
  cases k with
  | false =>
    obtain ⟨k', e', q'⟩ := q3
    cases e'
    exact ite_ff ⟨H3, I3, q'⟩
  | true =>
    refine ite_tt (test_link (thn (hc.run pins s3 σ H3 _ I3 q3) fun w' s4 ⟨z', H4, I4, r4, q4⟩ => thn (ho' pins s4 σ H4 y z' u w' _ I4 rr2 r4 q4) fun d' s5 ⟨z2, H5, I5, r5, k2, e2, q5⟩ => ?_))
    subst e2
    cases r5
    refine wpAny_truthy_bool ?_
    cases k2 with
    | false =>
      obtain ⟨k', e', q'⟩ := q5
      cases e'
      exact ite_ff ⟨H5, I5, q'⟩
    | true =>
      refine ite_tt (test_last (thn (hd.run pins s5 σ H5 _ I5 q5) fun w2 s6 ⟨z3, H6, I6, r6, q6⟩ => thn (ho2 pins s6 σ H6 z' z3 w' w2 _ I6 r4 r6 q6) fun d2 s7 ⟨z4, H7, I7, r7, k3, e3, q7⟩ => ?_))
      subst e3
      cases r7
      exact wpAny_truthy_bool ⟨H7, I7, q7⟩
theorem st_chain3 {σ : L2.St} {H : Hp} {Q : VK} {r r' r2 : R2} (h : ta σ H fun x H1 => tb σ H1 fun y H2 => r x y H2 fun z H3 => ∃ k, z = .bl k ∧
  (if k = true then tc σ H3 fun w H4 => r' y w H4 fun z' H5 => ∃ k', z' = .bl k' ∧ (if k' = true then td σ H5 fun v H6 => r2 w v H6 Q else Q (.bl false) H5) else Q (.bl false) H3)) : tChain3 r r' r2 ta tb tc td σ H Q := h
/-! ### xs[a:c] = ys -/
/-- x[lo:hi] = v, lists both -/
def gSl (to tl th : TE) : TG := fun v σ H Q => to σ H fun x H1 => tl σ H1 fun lo H2 => th σ H2 fun hi H3 => ∃ (l m : Addr) (i j : Int) (xs ys : List V), x = .ref l ∧ v = .ref m ∧ lo = .int i ∧ hi = .int j ∧ H3 l = some (.lst xs) ∧ H3 m = some (.lst ys) ∧ l ≠ m ∧ 0 ≤ i ∧ i ≤ j ∧ j ≤ xs.length ∧ xs.length + ys.length ≤ sizeLine ∧
  Q σ (upd H3 l (.lst (xs.take i.toNat ++ ys ++ xs.drop j.toNat)))
theorem pg_sl {o lo hi : Expr} {to tl th : TE} {p2 pos : Pos} (ho : PE X o to) (hl : PE X lo tl) (hh : PE X hi th)
    (ha : ∀ v, assign (.Subscript o (.Slice (some lo) (some hi) none p2) pos) X.env v = (do
      let ov ← holding [v] (eval o X.env)
      let iv ← holding [v, ov] (eval (.Slice (some lo) (some hi) none p2) X.env)
      standAt pos
      holding [v, ov, iv] (setItem ov iv v)
      release [iv, v, ov] []) := by intro _; rfl) : PG X (.Subscript o (.Slice (some lo) (some hi) none p2) pos) (gSl to tl th) := by
  refine ⟨fun pins s σ H v u Q I r h => ?_⟩
  rw [ha]
  refine wpAny_bind (wpAny_holding (thn (ho.run pins s σ H _ I h) fun ov s1 ⟨x, H1, I1, r1, q1⟩ => ?_))
  refine wpAny_bind (wpAny_holding (wpAny_Slice ?_))
  rw [evalPart_some, evalPart_some, evalPart_none]
  refine thn (hl.run pins s1 σ H1 _ I1 q1) fun vl s2 ⟨y, H2, I2, r2, q2⟩ => thn (hh.run pins s2 σ H2 _ I2 q2) fun vu s3 ⟨y', H3, I3, r3, q3⟩ => wpAny_pure ?_
  have I4 : Inv X pins σ H3 { s3 with heap := s3.heap.push { cls := .type "slice", data := .fields #[vl, vu, .none] } } := I3.kept (t' := s3.toks) fun b ob q => Heap.get?_push_of_some _ q
  obtain ⟨l, m, i, j, xs, ys, rfl, rfl, rfl, rfl, e1, e2, ne, h0, h1, h2, hz, q⟩ := q3
  cases (show ov = Value.ref l from r1)
  cases (show u = Value.ref m from r)
  refine wpAny_bind (wpAny_standAt (wpAny_bind (wpAny_holding (set_slice (sl := s3.heap.objs.size) (vl := vl) (vu := vu) (a := i) (c := j) I4 e1 e2 ne (Heap.IsSliceOf.new ..) r2 r3 h0 h1 h2 hz fun s' I5 => ?_))))
  exact wpAny_release ⟨σ, _, I5, q⟩
def rSlS (v x lo hi : V) (H : Hp) (P : Hp → Prop) : Prop := ∃ (l m : Addr) (i j : Int) (xs ys : List V), x = .ref l ∧ v = .ref m ∧ lo = .int i ∧ hi = .int j ∧ H l = some (.lst xs) ∧ H m = some (.lst ys) ∧ l ≠ m ∧ 0 ≤ i ∧ i ≤ j ∧ j ≤ xs.length ∧ xs.length + ys.length ≤ sizeLine ∧ P (upd H l (.lst (xs.take i.toNat ++ ys ++ xs.drop j.toNat)))
theorem st_gsl {σ : L2.St} {H : Hp} {v : V} {Q : L2.St → Hp → Prop} {to tl th : TE} (h : to σ H fun x H1 => tl σ H1 fun lo H2 => th σ H2 fun hi H3 => rSlS v x lo hi H3 fun H4 => Q σ H4) : gSl to tl th v σ H Q := h
theorem st_slS {l m : Addr} {i j : Int} {xs ys : List V} {H : Hp} {P : Hp → Prop} (h1 : H l = some (.lst xs)) (h2 : H m = some (.lst ys)) (ne : l ≠ m) (h3 : 0 ≤ i) (h4 : i ≤ j) (h5 : j ≤ xs.length) (h6 : xs.length + ys.length ≤ sizeLine) (q : ∀ H', Mu H H' l (.lst (xs.take i.toNat ++ ys ++ xs.drop j.toNat)) → P H') : rSlS (.ref m) (.ref l) (.int i) (.int j) H P :=
  ⟨l, m, i, j, xs, ys, rfl, rfl, rfl, rfl, h1, h2, ne, h3, h4, h5, h6, q _ mu_upd⟩
end
/-! ### keywords -/
def CallK (X : Cx) (u : Value) (ks : List Str) (r : List V → List V → Hp → VK → Prop) : Prop := ∀ (pins : List (Addr × Obj)) (s : Shared) (σ : L2.St) (H : Hp) (vs zs : List V) (us ws : List Value) (Q : VK), Inv X pins σ H s → Vals vs us → Vals zs ws → r vs zs H Q → wpAny (model X.prog X.w) X.A (call u us (ks.zip ws)) (EP X pins σ Q) X.xe s
/-- a def called with n values and keywords ks -/
def PromK (P : Program) (w : World) (K : PySem.W.Frag) (mg : Str → Option Value) (base : Heap) (CX : CXT) (k : Nat) (f : Addr) (n : Nat) (ks : List Str) (gV : List V → List V → List V) (sp : Sp) : Prop :=
  ∃ (fd : FuncData) (ps : List Str) (g : List Value → List Value → List Value), FnOk P w K mg base CX k f fd ps sp ∧ KBn K fd ps n ks g gV
/-- values picked by indexes -/
def picks {α : Type} (l : List (Nat ⊕ Nat)) (its ws : List α) : List α := l.filterMap fun z => match z with
  | .inl i => ws[i]?
  | .inr j => its[j]?
theorem Vals.getO {zs : List V} {ws : List Value} (r : Vals zs ws) (i : Nat) : (zs[i]? = none ∧ ws[i]? = none) ∨ ∃ x v, zs[i]? = some x ∧ ws[i]? = some v ∧ RelV x v := by
  induction r generalizing i with
  | nil => exact .inl ⟨rfl, rfl⟩
  | cons h t ih =>
    cases i with
    | zero => exact .inr ⟨_, _, rfl, rfl, h⟩
    | succ i => exact ih i
theorem picks_rel (l : List (Nat ⊕ Nat)) {ds zs : List V} {its ws : List Value} (r1 : Vals ds its) (r2 : Vals zs ws) : Vals (picks l ds zs) (picks l its ws) := by
  induction l with
  | nil => exact .nil
  | cons z r ih =>
    unfold picks at ih ⊢
    rw [List.filterMap_cons, List.filterMap_cons]
    cases z with
    | inl i =>
      rcases Vals.getO r2 i with ⟨e1, e2⟩ | ⟨x, v, e1, e2, rv⟩
      · simp only [e1, e2]
        exact ih
      · simp only [e1, e2]
        exact .cons rv ih
    | inr j =>
      rcases Vals.getO r1 j with ⟨e1, e2⟩ | ⟨x, v, e1, e2, rv⟩
      · simp only [e1, e2]
        exact ih
      · simp only [e1, e2]
        exact .cons rv ih
section
variable {K : PySem.W.Frag} {x qual : Str} {params : Arguments} {body : List Stmt} {scope : Scope} {dvs : List V} {kws : List (Str × V)} {f : Addr} {fd : FuncData} {ps : List Str}
/-- no defaults -/
theorem FunD.kbN (F : FunD K x qual params body scope [] kws f fd) (n : Nat) (ks : List Str) (l : List (Nat ⊕ Nat))
    (h : ∀ (kV doc pm : Value) (an : Option Addr) (cdv ct : Value) (us ws : List Value), us.length = n → ws.length = ks.length → bindArgs (PySem.W.fnOf x qual params body scope .none kV doc pm an cdv ct) ⟨us, ks.zip ws⟩ = pure (ps.zip (us ++ picks l [] ws))) :
    KBn K fd ps n ks (fun us ws => us ++ picks l [] ws) (fun vs zs => vs ++ picks l [] zs) := by
  obtain ⟨oc, od, dV, kV, doc, pm, an, cdv, ct, osl, rfl, lk, hcd, hD, hK⟩ := F.ex
  rcases hD with ⟨_, rfl⟩ | ⟨e, _⟩
  · exact ⟨fun s us ws X l1 l2 => .of_eq (h kV doc pm an cdv ct us ws l1 l2), fun r1 r2 => r1.append (picks_rel l .nil r2)⟩
  · exact absurd rfl e
/-- with defaults -/
theorem FunD.kbD (F : FunD K x qual params body scope dvs kws f fd) (n : Nat) (ks : List Str) (l : List (Nat ⊕ Nat)) (hd : dvs ≠ [])
    (h : ∀ (T : Addr) (kV doc pm : Value) (an : Option Addr) (cdv ct : Value) (us its ws : List Value), us.length = n → its.length = dvs.length → ws.length = ks.length →
      ∃ k, bindArgs (PySem.W.fnOf x qual params body scope (.ref T) kV doc pm an cdv ct) ⟨us, ks.zip ws⟩ = seqItems? (.ref T) >>= k ∧ k (some its.toArray) = pure (ps.zip (us ++ picks l its ws))) :
    ∃ g, KBn K fd ps n ks g (fun vs zs => vs ++ picks l dvs zs) := by
  obtain ⟨its, b⟩ := FunD.kbindsD F n ks (fun us its ws => us ++ picks l its ws) hd (fun r1 r2 r3 => r1.append (picks_rel l r2 r3)) h
  exact ⟨_, b⟩
end
section
variable {X : Cx} {CX : CXT} {k n : Nat} {f C : Addr} {ks : List Str} {sp : Sp} {E : XK} {x m : Str} {p pos apos : Pos} {e o : Expr} {es : List Expr} {kws : List Keyword} {t tk : TA} {ta : TE} {gV : List V → List V → List V} {r : List V → List V → Hp → VK → Prop}
def rSpK (n m : Nat) (gV : List V → List V → List V) (sp : Sp) (E : XK) : List V → List V → Hp → VK → Prop := fun vs zs H Q => vs.length = n ∧ zs.length = m ∧ sp (gV vs zs) H Q E
theorem PromK.call (F : PromK X.prog X.w X.K X.mg X.base CX k f n ks gV sp) (hr : Room k X.A) (hx : Passes CX X E) : CallK X (.ref f) ks (rSpK n ks.length gV sp E) := by
  intro pins s σ H vs zs us ws Q I rv rz ⟨l1, l2, h⟩
  obtain ⟨fd, ps, g, G, b⟩ := F
  exact run_fnN G hr b hx I rv rz l1 l2 h
def rMkK (C : Addr) (n m : Nat) (gV : List V → List V → List V) (sp : Sp) (E : XK) : List V → List V → Hp → VK → Prop := fun vs zs H Q => vs.length = n ∧ zs.length = m ∧ rMk C (fun us H Q E => sp us H Q E) [] E (gV vs zs) H Q
theorem PromK.make (M : Mk X.K C f) (F : PromK X.prog X.w X.K X.mg X.base CX k f (n + 1) ks (fun vs zs => vs ++ gV [] zs) sp) (hr : Room (k + 1) X.A) (hx : Passes CX X E) : CallK X (.ref C) ks (rMkK C n ks.length (fun vs zs => vs ++ gV [] zs) sp E) := by
  intro pins s σ H vs zs us ws Q I rv rz ⟨l1, l2, h⟩
  obtain ⟨fd, ps, g, G, b⟩ := F
  refine run_makeN M G hr b hx I rv rz l1 l2 fun x dx nx ndx ne => ?_
  unfold rMk at h
  have z := h x dx nx ndx ne
  rw [List.append_nil] at z
  exact z
def tClK (r : List V → List V → Hp → VK → Prop) (t tk : TA) : TE := fun σ H Q => t σ H fun vs H1 => tk σ H1 fun zs H2 => r vs zs H2 Q
/-- x(e, .., k = v, ..) -/
theorem pe_gk (R : CallK X (.ref f) ks r) (hg : Gl X x) (hm : X.mg x = some (.ref f)) (hk : PySem.W.keepIn X.K (.ref f) = true) (ha : PA X (e :: es) t) (hkw : PK X kws tk) (hall : (backToKw pos (keywordEach kws X.env)).all (·.1.isSome) = true := by rfl) (hks : (backToKw pos (keywordEach kws X.env)).filterMap (·.1) = ks := by rfl)
    (hdb : (x == ("__debug__" : Str)) = false := by decide) (he : starEach (e :: es) X.env = (false, eval e X.env) :: starEach es X.env := by rfl)
    (hpl : ((backTo pos (starEach (e :: es) X.env)).any (·.1) || (backToKw pos (keywordEach kws X.env)).any (·.1.isNone)) = false := by rfl) : PE X (.Call (.Name x p) (e :: es) kws pos) (tClK r t tk) := by
  refine ⟨fun pins s σ H Q I h => ?_⟩
  refine wpAny_Call_Name_kw (ld_glob I hg hm ?_ hdb)
  refine PySem.W.callWith_KW (h₀ := X.base) I.ok.mod.kin hk hall (thn (ha.run pos pins s σ H _ I h) fun us s1 ⟨vs, H1, I1, rv, q⟩ => ?_) hpl he
  refine thn (hkw.run pos pins s1 σ H1 _ I1 q) fun ws s2 ⟨zs, H2, I2, rz, q2⟩ => ⟨I2.kIn, ?_⟩
  rw [hks]
  exact R pins s2 σ H2 vs zs us ws Q I2 rv rz q2
/-- x(k = v, ..) -/
theorem pe_gk0 (R : CallK X (.ref f) ks r) (hg : Gl X x) (hm : X.mg x = some (.ref f)) (hk : PySem.W.keepIn X.K (.ref f) = true) (hkw : PK X kws tk) (hall : (backToKw pos (keywordEach kws X.env)).all (·.1.isSome) = true := by rfl) (hks : (backToKw pos (keywordEach kws X.env)).filterMap (·.1) = ks := by rfl)
    (hdb : (x == ("__debug__" : Str)) = false := by decide)
    (hpl : ((backTo pos (starEach [] X.env)).any (·.1) || (backToKw pos (keywordEach kws X.env)).any (·.1.isNone)) = false := by rfl) : PE X (.Call (.Name x p) [] kws pos) (tClK r tNil tk) := by
  refine ⟨fun pins s σ H Q I h => ?_⟩
  refine wpAny_Call_Name_kw (ld_glob I hg hm ?_ hdb)
  refine PySem.W.callWith_KW0 (h₀ := X.base) I.ok.mod.kin hk hall (thn (hkw.run pos pins s σ H _ I h) fun ws s2 ⟨zs, H2, I2, rz, q2⟩ => ⟨I2.kIn, ?_⟩) hpl
  rw [hks]
  exact R pins s2 σ H2 [] zs [] ws Q I2 .nil rz q2
/-- o.m(.., k = v, ..) -/
def tMtK (C : Addr) (m : Str) (r : List V → List V → Hp → VK → Prop) (ta : TE) (t tk : TA) : TE := fun σ H Q => ta σ H fun x H1 => ∃ a dx fs, x = .ref a ∧ H1 a = some (.ins C dx fs) ∧ fs.lookup m = none ∧ t σ H1 fun vs H2 => tk σ H2 fun zs H3 => r (x :: vs) zs H3 Q
theorem pe_mk {pl : Sem Bool} (he : PE X o ta) (c : Cls X.K C) (hm : Meth X.K C m f) (R : CallK X (.ref f) ks r) (ha : PA X (e :: es) t) (hkw : PK X kws tk) (hall : (backToKw pos (keywordEach kws X.env)).all (·.1.isSome) = true := by rfl) (hks : (backToKw pos (keywordEach kws X.env)).filterMap (·.1) = ks := by rfl)
    (hst : starEach (e :: es) X.env = (false, eval e X.env) :: starEach es X.env := by rfl) (hpl : ((backTo pos (starEach (e :: es) X.env)).any (·.1) || (backToKw pos (keywordEach kws X.env)).any (·.1.isNone)) = false := by rfl)
    (ht : eval (.Call (.Attribute o m apos) (e :: es) kws pos) X.env = (do
      let ov ← eval o X.env
      standAt apos.atName
      let (f, first) ← holding [ov] (getMethod ov m pl)
      callWith pos f first (backTo pos (starEach (e :: es) X.env)) (backToKw pos (keywordEach kws X.env))) := by rfl) :
    PE X (.Call (.Attribute o m apos) (e :: es) kws pos) (tMtK C m r ta t tk) := by
  refine ⟨fun pins s σ H Q I h => ?_⟩
  refine PySem.W.methodCall_KW (pl := pl) (thn (he.run pins s σ H _ I h) fun u s1 ⟨x, H1, I1, rx, a, dx, fs, ex, ea, l, q⟩ => ?_) ht
  subst ex
  obtain rfl : u = Value.ref a := rx
  refine getmeth_ok I1 ea c hm l ?_
  refine PySem.W.callWith_KW (first := [.ref a]) (h₀ := X.base) I.ok.mod.kin hm.kp hall (thn (ha.run pos pins s1 σ H1 _ I1 q) fun us s2 ⟨vs, H2, I2, rv, q2⟩ => ?_) hpl hst
  refine thn (hkw.run pos pins s2 σ H2 _ I2 q2) fun ws s3 ⟨zs, H3, I3, rz, q3⟩ => ⟨I3.kIn, ?_⟩
  rw [hks]
  exact R pins s3 σ H3 (.ref a :: vs) zs (.ref a :: us) ws Q I3 (.cons rfl rv) rz q3
theorem pe_mk0 {pl : Sem Bool} (he : PE X o ta) (c : Cls X.K C) (hm : Meth X.K C m f) (R : CallK X (.ref f) ks r) (hkw : PK X kws tk) (hall : (backToKw pos (keywordEach kws X.env)).all (·.1.isSome) = true := by rfl) (hks : (backToKw pos (keywordEach kws X.env)).filterMap (·.1) = ks := by rfl)
    (hpl : ((backTo pos (starEach [] X.env)).any (·.1) || (backToKw pos (keywordEach kws X.env)).any (·.1.isNone)) = false := by rfl)
    (ht : eval (.Call (.Attribute o m apos) [] kws pos) X.env = (do
      let ov ← eval o X.env
      standAt apos.atName
      let (f, first) ← holding [ov] (getMethod ov m pl)
      callWith pos f first (backTo pos (starEach [] X.env)) (backToKw pos (keywordEach kws X.env))) := by rfl) :
    PE X (.Call (.Attribute o m apos) [] kws pos) (tMtK C m r ta tNil tk) := by
  refine ⟨fun pins s σ H Q I h => ?_⟩
  refine PySem.W.methodCall_KW (pl := pl) (thn (he.run pins s σ H _ I h) fun u s1 ⟨x, H1, I1, rx, a, dx, fs, ex, ea, l, q⟩ => ?_) ht
  subst ex
  obtain rfl : u = Value.ref a := rx
  refine getmeth_ok I1 ea c hm l ?_
  refine PySem.W.callWith_KW0 (first := [.ref a]) (h₀ := X.base) I.ok.mod.kin hm.kp hall (thn (hkw.run pos pins s1 σ H1 _ I1 q) fun ws s3 ⟨zs, H3, I3, rz, q3⟩ => ⟨I3.kIn, ?_⟩) hpl
  rw [hks]
  exact R pins s3 σ H3 [.ref a] zs [.ref a] ws Q I3 (.cons rfl .nil) rz q3
end
section
variable {H : Hp} {σ : L2.St} {Q : VK} {ta : TE} {t tk : TA} {r : List V → List V → Hp → VK → Prop} {C : Addr} {m : Str} {n k : Nat} {gV : List V → List V → List V} {sp : Sp} {E : XK} {vs zs : List V}
theorem st_clK (h : t σ H fun vs H1 => tk σ H1 fun zs H2 => r vs zs H2 Q) : tClK r t tk σ H Q := h
theorem st_mtK (h : ta σ H fun x H1 => ∃ a dx fs, x = .ref a ∧ H1 a = some (.ins C dx fs) ∧ fs.lookup m = none ∧ t σ H1 fun vs H2 => tk σ H2 fun zs H3 => r (x :: vs) zs H3 Q) : tMtK C m r ta t tk σ H Q := h
theorem st_spK (h1 : vs.length = n) (h2 : zs.length = k) (h : rSp sp [] E (gV vs zs) H Q) : rSpK n k gV sp E vs zs H Q := ⟨h1, h2, by
  unfold rSp at h
  rw [List.append_nil] at h
  exact h⟩
end
end Gh

set_option Elab.async false
set_option linter.all false
set_option maxRecDepth 100000
set_option maxHeartbeats 4000000
/-! Dt: data that can be shown and compared: its depth and size told. -/
namespace Gh
open PySem PySem.Spec PyProof.Rows L2
/-- d is at most n deep and has at most b parts; its numbers have at most 100 figures -/
structure Fn (d : PyData) (n b : Nat) : Prop where
  cl : d.canLay0 = true
  sh : d.showable = true
  nd : d.hasDict = false
  ls : d.leavesShort 200 = true
  dp : d.depth ≤ n
  bk : d.bulk ≤ b
structure FnAll (ds : List PyData) (n b : Nat) : Prop where
  cl : PyData.canLayAll0 ds = true
  sh : PyData.showableAll ds = true
  nd : PyData.hasDictAll ds = false
  ls : PyData.leavesShortAll 200 ds = true
  dp : PyData.depthAll ds ≤ n
  bk : PyData.bulkAll ds ≤ b
theorem log_lt100 {i : Int} (h1 : -(10 ^ 100) < i) (h2 : i < 10 ^ 100) : i.natAbs.log2 < 1920 := by
  have h : i.natAbs < 2 ^ 1920 := Nat.lt_of_lt_of_le (show i.natAbs < 10 ^ 100 by omega) (by decide)
  by_cases h0 : i.natAbs = 0
  · rw [h0]
    decide
  · exact (Nat.log2_lt h0).mpr h
theorem Fn.int {i : Int} (h1 : -(10 ^ 100) < i) (h2 : i < 10 ^ 100) : Fn (.int i) 0 0 := by
  refine ⟨rfl, decide_eq_true (log_lt100 h1 h2), rfl, ?_, Nat.le_refl _, Nat.le_refl _⟩
  have e := int_text_length_le10 (a := i) (k := 100) (by decide) (by omega)
  refine decide_eq_true ?_
  show (Str.ofString (toString i)).length ≤ 200
  rw [PySem.ofString_length]
  omega
theorem Fn.bool (b : Bool) : Fn (.bool b) 0 0 := ⟨rfl, rfl, rfl, rfl, Nat.le_refl _, Nat.le_refl _⟩
theorem Fn.none : Fn .none 0 0 := ⟨rfl, rfl, rfl, rfl, Nat.le_refl _, Nat.le_refl _⟩
theorem Fn.str {x : Str} (h0 : (PyData.str x).canLay0 = true) (h : (x.cps.toList.all fun c => decide (c < 16 ^ 8)) = true) : Fn (.str x) 0 x.cps.size := ⟨h0, rfl, rfl, h, Nat.le_refl _, Nat.le_refl _⟩
theorem Fn.le {d : PyData} {n b n' b' : Nat} (h : Fn d n b) (h1 : n ≤ n') (h2 : b ≤ b') : Fn d n' b' := ⟨h.cl, h.sh, h.nd, h.ls, Nat.le_trans h.dp h1, Nat.le_trans h.bk h2⟩
theorem FnAll.nil {n b : Nat} : FnAll [] n b := ⟨rfl, rfl, rfl, rfl, Nat.zero_le _, Nat.zero_le _⟩
theorem FnAll.cons {d : PyData} {ds : List PyData} {n b c : Nat} (h : Fn d n b) (k : FnAll ds n c) : FnAll (d :: ds) n (b + 1 + c) := by
  refine ⟨?_, ?_, ?_, ?_, ?_, ?_⟩
  · show (d.canLay0 && _) = true
    rw [h.cl, k.cl] <;> rfl
  · show (d.showable && _) = true
    rw [h.sh, k.sh] <;> rfl
  · show (d.hasDict || _) = false
    rw [h.nd, k.nd] <;> rfl
  · show (d.leavesShort 200 && _) = true
    rw [h.ls, k.ls] <;> rfl
  · show max _ _ ≤ n
    exact Nat.max_le.mpr ⟨h.dp, k.dp⟩
  · show d.bulk + 1 + _ ≤ _
    have := h.bk
    have := k.bk
    omega
theorem Fn.list {ds : List PyData} {n b : Nat} (h : FnAll ds n b) : Fn (.list ds) (n + 1) b := ⟨h.cl, h.sh, h.nd, h.ls, Nat.succ_le_succ h.dp, h.bk⟩
theorem Fn.tuple {ds : List PyData} {n b : Nat} (h : FnAll ds n b) : Fn (.tuple ds) (n + 1) b := ⟨h.cl, h.sh, h.nd, h.ls, Nat.succ_le_succ h.dp, h.bk⟩
theorem FnAll.each {n b : Nat} : ∀ {ds : List PyData}, (∀ d ∈ ds, Fn d n b) → FnAll ds n ((b + 1) * ds.length)
  | [], _ => FnAll.nil
  | d :: r, h => by
    have z := FnAll.cons (h d List.mem_cons_self) (FnAll.each fun e he => h e (List.mem_cons_of_mem _ he))
    have e : b + 1 + (b + 1) * r.length = (b + 1) * (d :: r).length := by
      rw [List.length_cons, Nat.mul_add, Nat.mul_one, Nat.add_comm]
    rw [e] at z
    exact z
theorem FnAll.ints {ns : List Int} (h : ∀ n ∈ ns, -(10 ^ 100) < n ∧ n < 10 ^ 100) : FnAll (ns.map PyData.int) 0 ns.length := by
  have z := FnAll.each (n := 0) (b := 0) (ds := ns.map PyData.int) fun d hd => by
    obtain ⟨n, hn, rfl⟩ := List.mem_map.mp hd
    exact Fn.int (h n hn).1 (h n hn).2
  rw [List.length_map, Nat.zero_add, Nat.one_mul] at z
  exact z
theorem Fn.shaped {d : PyData} {n b : Nat} (h : Fn d n b) (hn : n ≤ 64) : SeqAt.shaped d = true := by
  unfold SeqAt.shaped
  rw [h.cl, decide_eq_true (Nat.le_trans h.dp hn)] <;> rfl
theorem Fn.eqv {d : PyData} {n b : Nat} (h : Fn d n b) : PyData.eqv d d = true := SeqAt.eqv_refl d h.cl
theorem Fn.shw {K : PySem.W.Frag} {H : Hp} {a : Addr} {d : PyData} {n b : Nat} (h : Fn d n b) (k : Dp K H (.ref a) d) (hn : n ≤ 100) (hb : b ≤ 80000) : Shw K H (.ref a) d.shown := by
  refine .dp k h.sh h.nd (Nat.le_trans h.dp hn) ?_
  have z := PyData.shown_le_bulk 200 (by decide) d h.ls
  have := h.bk
  rw [sizeLine_eq]
  omega
section
variable {K : PySem.W.Frag} {H : Hp} {a : Addr} {ns : List Int}
theorem shw_lst (h : H a = some (.lst (ns.map V.int))) (l : ns.length ≤ 80000) (b : ∀ n ∈ ns, -(10 ^ 100) < n ∧ n < 10 ^ 100) : Shw K H (.ref a) (PyData.list (ns.map .int)).shown :=
  (Fn.list (FnAll.ints b)).shw (.lst (SqL.of h) (dp_ints K H ns)) (by decide) l
theorem shw_tup (h : H a = some (.tup (ns.map V.int))) (l : ns.length ≤ 80000) (b : ∀ n ∈ ns, -(10 ^ 100) < n ∧ n < 10 ^ 100) : Shw K H (.ref a) (PyData.tuple (ns.map .int)).shown :=
  (Fn.tuple (FnAll.ints b)).shw (.tup (SqT.of h) (dp_ints K H ns)) (by decide) l
theorem shaped_tup (ns : List Int) : SeqAt.shaped (.tuple (ns.map PyData.int)) = true := PySem.W.ke_shaped_ints ns
end
section
variable {H H' : Hp} {a l p c : Addr} {u : HO} {b : Nat}
theorem none_ne (n : H l = none) (h : H a = some u) : l ≠ a := fun e => by
  rw [← e, n] at h
  cases h
theorem none_pen (n : H l = none) (h : Pen H p c b) : l ≠ p := by
  obtain ⟨ns, i, z, h1, h2, h3⟩ := h
  exact none_ne n h1
theorem none_cell (n : H l = none) (h : Pen H p c b) : l ≠ c := by
  obtain ⟨ns, i, z, h1, h2, h3⟩ := h
  exact none_ne n h2
/-- all stands but at p and t -/
def Keep2 (H H' : Hp) (p t : Addr) : Prop := ∀ a o, H a = some o → a ≠ p → a ≠ t → H' a = some o
theorem keep2_up {t : Addr} (n : Keep2 H H' p t) (e : a ≠ p) (e' : a ≠ t) (h : H a = some u) : H' a = some u := n _ _ h e e'
theorem st_setO {C dx : Addr} {fs : List (Str × V)} {r : List V → Hp → VK → Prop} {i v : V} {Q : Hp → Prop} (h : H a = some (.ins C dx fs)) (q : r [.ref a, i, v] H fun _ H' => Q H') : rSetO C r (.ref a) i v H Q := by
  unfold rSetO
  exact ⟨a, dx, fs, rfl, h, q⟩
theorem st_ixO {C dx : Addr} {fs : List (Str × V)} {sp : Sp} {E : XK} {y : V} {Q : VK} (h : H a = some (.ins C dx fs)) (q : rSp sp [] E [.ref a, y] H Q) : rIxO C sp E (.ref a) y H Q := by
  unfold rIxO
  exact ⟨a, dx, fs, rfl, h, q⟩
end
/-! ### comprehensions -/
section
variable {K : PySem.W.Frag} {H : Hp} {σ : L2.St} {Q : VK} {m : Nat} {tt : TT} {te tl : TE} {vs : List Nat} {t : TA} {a : Addr} {xs : List V}
def rLc (J : It) (m : Nat) (tt : TT) (te : TE) (vs : List Nat) (σ : L2.St) (H : Hp) (Q : VK) : Prop := ∀ D, H D = none → ∃ W : Nat → Nat → Hp → Prop, (∃ k, W 0 k (upd H D (.lst []))) ∧ ∀ i k H, W i k H →
  (J.stop i H ∧ Q (.ref D) H) ∨ (J.go i H ∧ ∃ Nx : Hp → Prop, (∀ H', Nx H' → ∃ k', k' < k ∧ W (i + 1) k' H') ∧ ∀ x H', J.yld i H x H' → gName m x (wipe σ vs) H' fun σ2 H2 => wipe σ2 vs = wipe σ vs ∧ tt σ2 H2 fun b H3 =>
    if b = true then te σ2 H3 fun y H4 => ∃ acc, H4 D = some (.lst acc) ∧ acc.length < sizeLine ∧ Nx (upd H4 D (.lst (acc ++ [y]))) else Nx H3)
theorem st_lcR1 (h : t σ H fun us H1 => ∃ j : Int, us = [.int j] ∧ -(2 ^ 62) ≤ j ∧ j < 2 ^ 62 ∧ rLc (Itr 0 j.toNat) m tt te vs σ H1 Q) : tLc (iRng1 t) (gName m) tt te vs σ H Q := h
theorem st_lcR2 (h : t σ H fun us H1 => ∃ i j : Int, us = [.int i, .int j] ∧ (-(2 ^ 62) ≤ i ∧ i < 2 ^ 62 ∧ -(2 ^ 62) ≤ j ∧ j < 2 ^ 62) ∧ rLc (Itr i (j - i).toNat) m tt te vs σ H1 Q) : tLc (iRng2 t) (gName m) tt te vs σ H Q := h
theorem st_lcL (h : tl σ H fun x H1 => ∃ a, x = .ref a ∧ (∃ xs, SqL K H1 a xs) ∧ rLc (Itl K a) m tt te vs σ H1 Q) : tLc (iList K tl) (gName m) tt te vs σ H Q := h
theorem st_lcT (h : tl σ H fun x H1 => ∃ a, x = .ref a ∧ (∃ xs, SqT K H1 a xs) ∧ rLc (Itt K a) m tt te vs σ H1 Q) : tLc (iTup K tl) (gName m) tt te vs σ H Q := h
theorem st_eR1 {j : Int} {P : Int → Prop} (h0 : -(2 ^ 62) ≤ j) (h1 : j < 2 ^ 62) (h : P j) : ∃ j', [V.int j] = [.int j'] ∧ -(2 ^ 62) ≤ j' ∧ j' < 2 ^ 62 ∧ P j' := ⟨j, rfl, h0, h1, h⟩
theorem st_eR2 {i j : Int} {P : Int → Int → Prop} (h0 : -(2 ^ 62) ≤ i ∧ i < 2 ^ 62 ∧ -(2 ^ 62) ≤ j ∧ j < 2 ^ 62) (h : P i j) : ∃ i' j', [V.int i, V.int j] = [.int i', .int j'] ∧ (-(2 ^ 62) ≤ i' ∧ i' < 2 ^ 62 ∧ -(2 ^ 62) ≤ j' ∧ j' < 2 ^ 62) ∧ P i' j' := ⟨i, j, rfl, h0, h⟩
theorem st_yes {Q : Bool → Hp → Prop} (h : Q true H) : tYes σ H Q := h
/-- what holds ahead of the turn i: the list at D is acc -/
def LcI (Pv : Nat → Hp → List V → Prop) (D : Addr) (i : Nat) (H : Hp) : Prop := ∃ acc, acc.length ≤ i ∧ H D = some (.lst acc) ∧ Pv i H acc
/-- y is put behind -/
def rPush (D : Addr) (P : Hp → Prop) (y : V) (H : Hp) : Prop := ∃ acc, H D = some (.lst acc) ∧ acc.length < sizeLine ∧ P (upd H D (.lst (acc ++ [y])))
theorem st_push {Pv : Nat → Hp → List V → Prop} {D : Addr} {i : Nat} {y : V} {acc : List V} (h : H D = some (.lst acc)) (l : acc.length ≤ i) (hi : i < 100000) (q : ∀ H', Mu H H' D (.lst (acc ++ [y])) → Pv (i + 1) H' (acc ++ [y])) : rPush D (LcI Pv D (i + 1)) y H :=
  ⟨acc, h, Nat.lt_of_le_of_lt l (Nat.lt_of_lt_of_le hi (len_ok (Nat.le_refl _))), acc ++ [y], by rw [List.length_append]; exact Nat.succ_le_succ l, upd_same, q _ mu_upd⟩
/-- over a range -/
theorem lcR {lo : Int} {n : Nat} (Pv : Addr → Nat → Hp → List V → Prop) (hw : ∀ x, wipe ((wipe σ vs).set m (some x)) vs = wipe σ vs) (h0 : ∀ D H1, Nw H H1 D (.lst []) → Pv D 0 H1 [])
    (hs : ∀ D i H1 acc, H D = none → i < n → acc.length ≤ i → H1 D = some (.lst acc) → Pv D i H1 acc → tt ((wipe σ vs).set m (some (.int (lo + (i : Nat))))) H1 fun b H2 => if b = true then te ((wipe σ vs).set m (some (.int (lo + (i : Nat))))) H2 fun y H3 => rPush D (LcI (Pv D) D (i + 1)) y H3 else LcI (Pv D) D (i + 1) H2)
    (hd : ∀ D H1 acc, H D = none → acc.length ≤ n → H1 D = some (.lst acc) → Pv D n H1 acc → Q (.ref D) H1) : rLc (Itr lo n) m tt te vs σ H Q := by
  intro D nD
  exact lc_range (Qd := fun H => Q (.ref D) H) (LcI (Pv D) D) ⟨[], Nat.zero_le _, upd_same, h0 D _ (nw_upd nD)⟩ (fun i H1 hi ⟨acc, l, e, p⟩ => ⟨hw _, hs D i H1 acc nD hi l e p⟩) (fun H1 ⟨acc, l, e, p⟩ => hd D H1 acc nD l e p)
/-- over a list that stays -/
theorem lcL (Pv : Addr → Nat → Hp → List V → Prop) (hw : ∀ x, wipe ((wipe σ vs).set m (some x)) vs = wipe σ vs) (h0 : ∀ D H1, Nw H H1 D (.lst []) → Pv D 0 H1 []) (hl : ∀ D i H1 acc, H D = none → Pv D i H1 acc → H1 a = some (.lst xs))
    (hs : ∀ D i x H1 acc, H D = none → xs[i]? = some x → acc.length ≤ i → H1 D = some (.lst acc) → Pv D i H1 acc → tt ((wipe σ vs).set m (some x)) H1 fun b H2 => if b = true then te ((wipe σ vs).set m (some x)) H2 fun y H3 => rPush D (LcI (Pv D) D (i + 1)) y H3 else LcI (Pv D) D (i + 1) H2)
    (hd : ∀ D H1 acc, H D = none → acc.length ≤ xs.length → H1 D = some (.lst acc) → Pv D xs.length H1 acc → Q (.ref D) H1) : rLc (Itl K a) m tt te vs σ H Q := by
  intro D nD
  exact lc_list (Qd := fun H => Q (.ref D) H) (xs := xs) (LcI (Pv D) D) ⟨[], Nat.zero_le _, upd_same, h0 D _ (nw_upd nD)⟩ (fun i H1 _ ⟨acc, l, e, p⟩ => SqL.of (hl D i H1 acc nD p)) (fun i x H1 hi ⟨acc, l, e, p⟩ => ⟨hw _, hs D i x H1 acc nD hi l e p⟩) (fun H1 ⟨acc, l, e, p⟩ => hd D H1 acc nD l e p)
/-- over a tuple -/
theorem lcT (Pv : Addr → Nat → Hp → List V → Prop) (hw : ∀ x, wipe ((wipe σ vs).set m (some x)) vs = wipe σ vs) (h0 : ∀ D H1, Nw H H1 D (.lst []) → Pv D 0 H1 []) (hl : ∀ D i H1 acc, H D = none → Pv D i H1 acc → SqT K H1 a xs)
    (hs : ∀ D i x H1 acc, H D = none → xs[i]? = some x → acc.length ≤ i → H1 D = some (.lst acc) → Pv D i H1 acc → tt ((wipe σ vs).set m (some x)) H1 fun b H2 => if b = true then te ((wipe σ vs).set m (some x)) H2 fun y H3 => rPush D (LcI (Pv D) D (i + 1)) y H3 else LcI (Pv D) D (i + 1) H2)
    (hd : ∀ D H1 acc, H D = none → acc.length ≤ xs.length → H1 D = some (.lst acc) → Pv D xs.length H1 acc → Q (.ref D) H1) : rLc (Itt K a) m tt te vs σ H Q := by
  intro D nD
  exact lc_tup (Qd := fun H => Q (.ref D) H) (xs := xs) (LcI (Pv D) D) ⟨[], Nat.zero_le _, upd_same, h0 D _ (nw_upd nD)⟩ (fun i H1 _ ⟨acc, l, e, p⟩ => hl D i H1 acc nD p) (fun i x H1 hi ⟨acc, l, e, p⟩ => ⟨hw _, hs D i x H1 acc nD hi l e p⟩) (fun H1 ⟨acc, l, e, p⟩ => hd D H1 acc nD l e p)
end
section
variable {H H' : Hp} {a l p c : Addr} {u : HO} {b : Nat}
theorem nw_pen' {H0 : Hp} {b0 : Nat} {o : HO} (_ : Pen H0 p c b0) (n : Nw H H' l o) (h : Pen H p c b) : l ≠ p := nw_pen n h
theorem nw_cell' {H0 : Hp} {b0 : Nat} {o : HO} (_ : Pen H0 p c b0) (n : Nw H H' l o) (h : Pen H p c b) : l ≠ c := nw_cell n h
theorem none_pen' {H0 : Hp} {b0 : Nat} (_ : Pen H0 p c b0) (n : H l = none) (h : Pen H p c b) : l ≠ p := none_pen n h
theorem none_cell' {H0 : Hp} {b0 : Nat} (_ : Pen H0 p c b0) (n : H l = none) (h : Pen H p c b) : l ≠ c := none_cell n h
theorem tup_pen' {H0 : Hp} {b0 : Nat} {xs : List V} (_ : Pen H0 p c b0) (n : H l = some (.tup xs)) (h : Pen H p c b) : l ≠ p := tup_pen n h
theorem tup_cell' {H0 : Hp} {b0 : Nat} {xs : List V} (_ : Pen H0 p c b0) (n : H l = some (.tup xs)) (h : Pen H p c b) : l ≠ c := tup_cell n h
theorem ins_pen' {H0 : Hp} {b0 : Nat} {C dx : Addr} {fs : List (Str × V)} (_ : Pen H0 p c b0) (n : H l = some (.ins C dx fs)) (h : Pen H p c b) : l ≠ p := ins_pen n h
theorem ins_cell' {H0 : Hp} {b0 : Nat} {C dx : Addr} {fs : List (Str × V)} (_ : Pen H0 p c b0) (n : H l = some (.ins C dx fs)) (h : Pen H p c b) : l ≠ c := ins_cell n h
theorem ite2d {q : Prop} [Decidable q] {A B : Prop} (h1 : q → A) (h2 : ¬ q → B) : if decide q = true then A else B := by
  by_cases h : q
  · rw [if_pos (decide_eq_true h)]
    exact h1 h
  · rw [if_neg (by simpa using h)]
    exact h2 h
theorem ite2n {q : Prop} [Decidable q] {A B : Prop} (h1 : ¬ q → A) (h2 : q → B) : if (!decide q) = true then A else B := by
  by_cases h : q
  · rw [if_neg (by simpa using h)]
    exact h2 h
  · rw [if_pos (by simpa using h)]
    exact h1 h
end
/-! ### loops -/
section
variable {K : PySem.W.Frag} {H : Hp} {σ : L2.St} {D : Ends} {m : Nat} {g : TG} {tb : TS} {tl : TE} {t : TA} {a : Addr} {xs : List V}
def rFor (J : It) (g : TG) (tb : TS) (D : Ends) (σ : L2.St) (H : Hp) : Prop := ∃ W : Nat → Nat → L2.St → Hp → Prop, (∃ m, W 0 m σ H) ∧ ∀ i m σ H, W i m σ H →
  (J.stop i H ∧ D.nx σ H) ∨ (J.go i H ∧ ∃ N : L2.St → Hp → Prop, (∀ σ' H', N σ' H' → ∃ m', m' < m ∧ W (i + 1) m' σ' H') ∧ ∀ x H', J.yld i H x H' → g x σ H' fun σ2 H2 => tb { D with nx := N, ct := N, bk := D.nx } σ2 H2)
theorem st_forR1 (h : t σ H fun us H1 => ∃ j : Int, us = [.int j] ∧ -(2 ^ 62) ≤ j ∧ j < 2 ^ 62 ∧ rFor (Itr 0 j.toNat) g tb D σ H1) : tFor (iRng1 t) g tb D σ H := h
theorem st_forR2 (h : t σ H fun us H1 => ∃ i j : Int, us = [.int i, .int j] ∧ (-(2 ^ 62) ≤ i ∧ i < 2 ^ 62 ∧ -(2 ^ 62) ≤ j ∧ j < 2 ^ 62) ∧ rFor (Itr i (j - i).toNat) g tb D σ H1) : tFor (iRng2 t) g tb D σ H := h
theorem st_forL (h : tl σ H fun x H1 => ∃ a, x = .ref a ∧ (∃ xs, SqL K H1 a xs) ∧ rFor (Itl K a) g tb D σ H1) : tFor (iList K tl) g tb D σ H := h
theorem st_forT (h : tl σ H fun x H1 => ∃ a, x = .ref a ∧ (∃ xs, SqT K H1 a xs) ∧ rFor (Itt K a) g tb D σ H1) : tFor (iTup K tl) g tb D σ H := h
theorem st_forE (h : t σ H fun us H1 => ∃ a xs, us = [.ref a] ∧ SqL K H1 a xs ∧ rFor (Ite K a) g tb D σ H1) : tFor (iEnum K t) g tb D σ H := h
theorem st_eE {P : Addr → Prop} (h : H a = some (.lst xs)) (q : P a) : ∃ a' xs, [V.ref a] = [.ref a'] ∧ SqL K H a' xs ∧ P a' := ⟨a, xs, rfl, SqL.of h, q⟩
theorem forR {lo : Int} {n : Nat} (Pv : Nat → L2.St → Hp → Prop) (h0 : Pv 0 σ H) (hs : ∀ i σ H, i < n → Pv i σ H → tb { D with nx := Pv (i + 1), ct := Pv (i + 1), bk := D.nx } (σ.set m (some (.int (lo + (i : Nat))))) H) (hd : ∀ σ H, Pv n σ H → D.nx σ H) : rFor (Itr lo n) (gName m) tb D σ H := for_range Pv h0 hs hd
theorem forL (Pv : Nat → L2.St → Hp → Prop) (h0 : Pv 0 σ H) (hl : ∀ i σ H, i ≤ xs.length → Pv i σ H → H a = some (.lst xs)) (hs : ∀ i x σ H, xs[i]? = some x → Pv i σ H → g x σ H fun σ2 H2 => tb { D with nx := Pv (i + 1), ct := Pv (i + 1), bk := D.nx } σ2 H2) (hd : ∀ σ H, Pv xs.length σ H → D.nx σ H) : rFor (Itl K a) g tb D σ H := for_list (xs := xs) Pv h0 (fun i σ H z p => SqL.of (hl i σ H z p)) hs hd
theorem forT (Pv : Nat → L2.St → Hp → Prop) (h0 : Pv 0 σ H) (hl : ∀ i σ H, i ≤ xs.length → Pv i σ H → SqT K H a xs) (hs : ∀ i x σ H, xs[i]? = some x → Pv i σ H → g x σ H fun σ2 H2 => tb { D with nx := Pv (i + 1), ct := Pv (i + 1), bk := D.nx } σ2 H2) (hd : ∀ σ H, Pv xs.length σ H → D.nx σ H) : rFor (Itt K a) g tb D σ H := for_tup (xs := xs) Pv h0 hl hs hd
theorem forE (Pv : Nat → L2.St → Hp → Prop) (h0 : Pv 0 σ H) (hl : ∀ i σ H, i ≤ xs.length → Pv i σ H → H a = some (.lst xs)) (hs : ∀ i x σ H T H', xs[i]? = some x → Pv i σ H → Nw H H' T (.tup [.int (i : Nat), x]) → g (.ref T) σ H' fun σ2 H2 => tb { D with nx := Pv (i + 1), ct := Pv (i + 1), bk := D.nx } σ2 H2) (hd : ∀ σ H, Pv xs.length σ H → D.nx σ H) : rFor (Ite K a) g tb D σ H := by
  refine ⟨fun i m σ H => m = xs.length - i ∧ i ≤ xs.length ∧ Pv i σ H, ⟨xs.length, by simp, Nat.zero_le _, h0⟩, ?_⟩
  rintro i m σ H ⟨rfl, hi, p⟩
  have q : SqL K H a xs := SqL.of (hl i σ H hi p)
  by_cases hlt : i < xs.length
  · refine .inr ⟨⟨xs, xs[i], q, by simp [hlt]⟩, Pv (i + 1), fun σ' H' p' => ⟨xs.length - (i + 1), by omega, rfl, hlt, p'⟩, fun x H' y => ?_⟩
    obtain ⟨T, x0, rfl, nT, rfl, y⟩ := y
    exact hs i x0 σ H T _ (y xs q) p (nw_upd nT)
  · have e : i = xs.length := by omega
    subst e
    exact .inl ⟨⟨xs, q, Nat.le_refl _⟩, hd σ H p⟩
end
section
theorem mem_ints {ns : List Int} {j : Nat} {v : V} (h : (ns.map V.int)[j]? = some v) : ∃ n ∈ ns, v = .int n := by
  obtain ⟨n, hn, e⟩ := List.mem_map.mp (List.mem_of_getElem? h)
  exact ⟨n, hn, e.symm⟩
end
end Gh

set_option Elab.async false
set_option linter.all false
set_option maxRecDepth 100000
set_option maxHeartbeats 0
namespace Lw
open PySem PySem.Spec PyProof.Rows L2 Gh
def top (i : Nat) : Stmt := PySem.Challenge.pw_everyhunt_k09_rows_set.main.body.getD i (.Pass ⟨0, 0, 0, 0⟩)
abbrev s_is_integer : Stmt := top 7
def d_is_integer : Df := ⟨gd "is_integer", "is_integer", "is_integer", s_is_integer, []⟩
abbrev s_is_within : Stmt := top 8
def d_is_within : Df := ⟨gd "is_within", "is_within", "is_within", s_is_within, []⟩
abbrev s_is_item : Stmt := top 14
def d_is_item : Df := ⟨gd "is_item", "is_item", "is_item", s_is_item, []⟩
abbrev s_need_items : Stmt := top 15
def d_need_items : Df := ⟨gd "need_items", "need_items", "need_items", s_need_items, []⟩
abbrev s_Row___init__ : Stmt := inClass (top 16) 1
def d_Row___init__ : Df := ⟨md "Row" "__init__", "__init__", "Row.__init__", s_Row___init__, []⟩
abbrev s_Row_contents : Stmt := inClass (top 16) 4
def d_Row_contents : Df := ⟨propG "Row" "contents", "contents", "Row.contents", s_Row_contents, []⟩
abbrev s_Row_need_place : Stmt := inClass (top 16) 8
def d_Row_need_place : Df := ⟨md "Row" "need_place", "need_place", "Row.need_place", s_Row_need_place, []⟩
abbrev s_Row_need_stretch : Stmt := inClass (top 16) 9
def d_Row_need_stretch : Df := ⟨md "Row" "need_stretch", "need_stretch", "Row.need_stretch", s_Row_need_stretch, []⟩
abbrev s_Row_exchange : Stmt := inClass (top 16) 10
def d_Row_exchange : Df := ⟨md "Row" "exchange", "exchange", "Row.exchange", s_Row_exchange, []⟩
abbrev s_Row___getitem__ : Stmt := inClass (top 16) 20
def d_Row___getitem__ : Df := ⟨md "Row" "__getitem__", "__getitem__", "Row.__getitem__", s_Row___getitem__, []⟩
abbrev s_Row___setitem__ : Stmt := inClass (top 16) 21
def d_Row___setitem__ : Df := ⟨md "Row" "__setitem__", "__setitem__", "Row.__setitem__", s_Row___setitem__, []⟩
abbrev s__law_pen : Stmt := top 18
def d__law_pen : Df := ⟨gd "_law_pen", "_law_pen", "_law_pen", s__law_pen, []⟩
abbrev s__law_draw : Stmt := top 19
def d__law_draw : Df := ⟨gd "_law_draw", "_law_draw", "_law_draw", s__law_draw, []⟩
abbrev s__law_pick : Stmt := top 20
def d__law_pick : Df := ⟨gd "_law_pick", "_law_pick", "_law_pick", s__law_pick, []⟩
abbrev s__law_item : Stmt := top 21
def d__law_item : Df := ⟨gd "_law_item", "_law_item", "_law_item", s__law_item, []⟩
abbrev s__law_exchanged : Stmt := top 22
def d__law_exchanged : Df := ⟨gd "_law_exchanged", "_law_exchanged", "_law_exchanged", s__law_exchanged, []⟩
abbrev s__law_deed : Stmt := top 23
def d__law_deed : Df := ⟨gd "_law_deed", "_law_deed", "_law_deed", s__law_deed, []⟩
abbrev s__law_read_right : Stmt := top 24
def d__law_read_right : Df := ⟨gd "_law_read_right", "_law_read_right", "_law_read_right", s__law_read_right, []⟩
abbrev s_law : Stmt := top 25
def d_law : Df := ⟨gd "law", "law", "law", s_law, []⟩
def fns : List Df := [d_is_integer, d_is_within, d_is_item, d_need_items, d_Row___init__, d_Row_contents, d_Row_need_place, d_Row_need_stretch, d_Row_exchange, d_Row___getitem__, d_Row___setitem__, d__law_pen, d__law_draw, d__law_pick, d__law_item, d__law_exchanged, d__law_deed, d__law_read_right, d_law]
def exs : List (PySem.W.Frag → Bool) := [fa (.free "abs"), fa (.free "bool"), fa (.free "enumerate"), fa (.free "int"), fa (.free "isinstance"), fa (.free "len"), fa (.free "list"), fa (.free "range"), fa (.free "repr"), fa (.free "tuple"), fa (.glo "is_integer"), fa (.keep "is_integer"), fa (.glo "is_within"), fa (.keep "is_within"), fa (.glo "is_item"), fa (.keep "is_item"), fa (.glo "need_items"), fa (.keep "need_items"), fa (.glo "_law_pen"), fa (.keep "_law_pen"), fa (.glo "_law_draw"), fa (.keep "_law_draw"), fa (.glo "_law_pick"), fa (.keep "_law_pick"), fa (.glo "_law_item"), fa (.keep "_law_item"), fa (.glo "_law_exchanged"), fa (.keep "_law_exchanged"), fa (.glo "_law_deed"), fa (.keep "_law_deed"),
  fa (.glo "_law_read_right"), fa (.keep "_law_read_right"), fa (.glo "Row"), fa (.keep "Row"), fa (.int "BEYOND_ITEMS" 1000000000000000000000000000000), fa (.int "MOST_ITEMS" 2000), fa (.cls "Row"), insB "Row", fa (.noat "Row" "own_items"), fa (.mkr "Row"), propB "Row" "contents", fa (.meth "Row" "need_place"), fa (.meth "Row" "need_stretch"), fa (.meth "Row" "exchange"), fa (.meth "Row" "__getitem__"), ixB "Row", fa (.meth "Row" "__setitem__"), (fun K => PySem.W.noSeq K (gd "Row" K)), fa (.glo "law")]
def loose0 : List Str := ["_wall", "__name__", "HuntError", "BadPlace", "BadRow", "BadText", "is_integer", "is_within", "number_in", "MOST_ITEMS", "BEYOND_ITEMS", "is_item", "need_items", "Row", "_law_pen", "_law_draw", "_law_pick", "_law_item", "_law_exchanged", "_law_deed", "_law_read_right"]
def loose : List Str := loose0
abbrev R : PySem.W.OpenRow := PySem.W.OpenLaw.row PySem.Challenge.rw_everyhunt_k09_rows_set
abbrev hk : PySem.W.Hook := hook 6 exs fns
def ob (s : PySem.W.SharedT) : Al := obsG 6 exs fns (HandSHeadRun.getT s)
theorem ob_eq (s : PySem.W.SharedT) : ob s = hk.obs s.abs := obsG_eq (HandSHeadRun.getT_eq s)
theorem run (w : World) : HandSHeadRun.RunEq R (PySem.W.view R.prog [25]) hk ob 8000 loose w := by
  intro os
  kernel_rfl
/-- what the top has left -/
structure Tx (K : PySem.W.Frag) (mg : Str → Option Value) : Prop where
  f_abs : mg "abs" = none
  f_bool : mg "bool" = none
  f_enumerate : mg "enumerate" = none
  f_int : mg "int" = none
  f_isinstance : mg "isinstance" = none
  f_len : mg "len" = none
  f_list : mg "list" = none
  f_range : mg "range" = none
  f_repr : mg "repr" = none
  f_tuple : mg "tuple" = none
  g_is_integer : mg "is_integer" = some (.ref (gd "is_integer" K))
  k_is_integer : PySem.W.keepIn K (.ref (gd "is_integer" K)) = true
  g_is_within : mg "is_within" = some (.ref (gd "is_within" K))
  k_is_within : PySem.W.keepIn K (.ref (gd "is_within" K)) = true
  g_is_item : mg "is_item" = some (.ref (gd "is_item" K))
  k_is_item : PySem.W.keepIn K (.ref (gd "is_item" K)) = true
  g_need_items : mg "need_items" = some (.ref (gd "need_items" K))
  k_need_items : PySem.W.keepIn K (.ref (gd "need_items" K)) = true
  g__law_pen : mg "_law_pen" = some (.ref (gd "_law_pen" K))
  k__law_pen : PySem.W.keepIn K (.ref (gd "_law_pen" K)) = true
  g__law_draw : mg "_law_draw" = some (.ref (gd "_law_draw" K))
  k__law_draw : PySem.W.keepIn K (.ref (gd "_law_draw" K)) = true
  g__law_pick : mg "_law_pick" = some (.ref (gd "_law_pick" K))
  k__law_pick : PySem.W.keepIn K (.ref (gd "_law_pick" K)) = true
  g__law_item : mg "_law_item" = some (.ref (gd "_law_item" K))
  k__law_item : PySem.W.keepIn K (.ref (gd "_law_item" K)) = true
  g__law_exchanged : mg "_law_exchanged" = some (.ref (gd "_law_exchanged" K))
  k__law_exchanged : PySem.W.keepIn K (.ref (gd "_law_exchanged" K)) = true
  g__law_deed : mg "_law_deed" = some (.ref (gd "_law_deed" K))
  k__law_deed : PySem.W.keepIn K (.ref (gd "_law_deed" K)) = true
  g__law_read_right : mg "_law_read_right" = some (.ref (gd "_law_read_right" K))
  k__law_read_right : PySem.W.keepIn K (.ref (gd "_law_read_right" K)) = true
  g_Row : mg "Row" = some (.ref (gd "Row" K))
  k_Row : PySem.W.keepIn K (.ref (gd "Row" K)) = true
  m_BEYOND_ITEMS : ∃ t, mg "BEYOND_ITEMS" = some (.int 1000000000000000000000000000000 t)
  m_MOST_ITEMS : ∃ t, mg "MOST_ITEMS" = some (.int 2000 t)
  cl_Row : Cls K (gd "Row" K)
  ty_Row : InsT K (gd "Row" K)
  n_Row_own_items : NoAttr K (gd "Row" K) "own_items"
  mk_Row : Mk K (gd "Row" K) (md "Row" "__init__" K)
  pr_Row_contents : PropOf K (gd "Row" K) "contents" (He.ma K (He.ga K "Row") "contents") (propG "Row" "contents" K)
  mt_Row_need_place : Meth K (gd "Row" K) "need_place" (md "Row" "need_place" K)
  mt_Row_need_stretch : Meth K (gd "Row" K) "need_stretch" (md "Row" "need_stretch" K)
  mt_Row_exchange : Meth K (gd "Row" K) "exchange" (md "Row" "exchange" K)
  mt_Row___getitem__ : Meth K (gd "Row" K) "__getitem__" (md "Row" "__getitem__" K)
  ix_Row : IxT K (gd "Row" K) (md "Row" "__getitem__" K)
  mt_Row___setitem__ : Meth K (gd "Row" K) "__setitem__" (md "Row" "__setitem__" K)
  ns_Row : PySem.W.noSeq K (gd "Row" K) = true
theorem tx_of {K : PySem.W.Frag} {h : Heap} {mg : Str → Option Value} (X : K.In h) (G : h.Ns mainGlobals mg) (c : Says exs fns K) : Tx K mg :=
  ⟨(He.free_ok X G (c.fact 0 rfl)), (He.free_ok X G (c.fact 1 rfl)), (He.free_ok X G (c.fact 2 rfl)), (He.free_ok X G (c.fact 3 rfl)), (He.free_ok X G (c.fact 4 rfl)), (He.free_ok X G (c.fact 5 rfl)), (He.free_ok X G (c.fact 6 rfl)), (He.free_ok X G (c.fact 7 rfl)), (He.free_ok X G (c.fact 8 rfl)), (He.free_ok X G (c.fact 9 rfl)), (He.glo_ok X G (c.fact 10 rfl)), ((c.fact 11 rfl)), (He.glo_ok X G (c.fact 12 rfl)), ((c.fact 13 rfl)), (He.glo_ok X G (c.fact 14 rfl)), ((c.fact 15 rfl)), (He.glo_ok X G (c.fact 16 rfl)), ((c.fact 17 rfl)), (He.glo_ok X G (c.fact 18 rfl)), ((c.fact 19 rfl)), (He.glo_ok X G (c.fact 20 rfl)), ((c.fact 21 rfl)), (He.glo_ok X G (c.fact 22 rfl)), ((c.fact 23 rfl)), (He.glo_ok X G (c.fact 24 rfl)), ((c.fact 25 rfl)), (He.glo_ok X G (c.fact 26 rfl)), ((c.fact 27 rfl)), (He.glo_ok X G (c.fact 28 rfl)), ((c.fact 29 rfl)), (He.glo_ok X G (c.fact 30 rfl)), ((c.fact 31 rfl)), (He.glo_ok X G (c.fact 32 rfl)), ((c.fact 33 rfl)), (He.int_ok X G (c.fact 34 rfl)), (He.int_ok X G (c.fact 35 rfl)), (He.cls_ok (c.fact 36 rfl)), (insB_ok (c.fact 37 rfl)), (He.eqO_ok (c.fact 38 rfl)), (He.mkr_ok (c.fact 39 rfl)), (propB_ok (c.fact 40 rfl)), (He.meth_ok (c.fact 41 rfl)), (He.meth_ok (c.fact 42 rfl)), (He.meth_ok (c.fact 43 rfl)), (He.meth_ok (c.fact 44 rfl)), (ixB_ok (c.fact 45 rfl)), (He.meth_ok (c.fact 46 rfl)), ((c.fact 47 rfl))⟩
end Lw

set_option Elab.async false
set_option linter.all false
set_option maxRecDepth 100000
set_option maxHeartbeats 4000000
set_option pp.maxSteps 600
namespace Lw
open PySem PySem.Spec PyProof.Rows L2 Gh
local macro_rules | `(tactic| nofun) => `(tactic| (first | assumption | exact Ne.symm (by assumption) | (apply nw_pen'; (· assumption); (· assumption); (· ac_rfl)) | (apply Ne.symm; apply nw_pen'; (· assumption); (· assumption); (· ac_rfl)) | (apply nw_cell'; (· assumption); (· assumption); (· ac_rfl)) | (apply Ne.symm; apply nw_cell'; (· assumption); (· assumption); (· ac_rfl)) | (apply none_pen'; (· assumption); (· assumption); (· ac_rfl)) | (apply Ne.symm; apply none_pen'; (· assumption); (· assumption); (· ac_rfl)) | (apply none_cell'; (· assumption); (· assumption); (· ac_rfl)) | (apply Ne.symm; apply none_cell'; (· assumption); (· assumption); (· ac_rfl)) | (apply tup_pen'; (· assumption); (· assumption); (· ac_rfl)) | (apply Ne.symm; apply tup_pen'; (· assumption); (· assumption); (· ac_rfl)) | (apply tup_cell'; (· assumption); (· assumption); (· ac_rfl)) | (apply Ne.symm; apply tup_cell'; (· assumption); (· assumption); (· ac_rfl)) | (apply ins_pen'; (· assumption); (· assumption); (· ac_rfl)) | (apply Ne.symm; apply ins_pen'; (· assumption); (· assumption); (· ac_rfl)) | (apply ins_cell'; (· assumption); (· assumption); (· ac_rfl)) | (apply Ne.symm; apply ins_cell'; (· assumption); (· assumption); (· ac_rfl)) | (apply ins_lst; (· assumption); (· infer_instance)) | (apply Ne.symm; apply ins_lst; (· assumption); (· infer_instance)) | (apply ins_tup; (· assumption); (· infer_instance)) | (apply Ne.symm; apply ins_tup; (· assumption); (· infer_instance)) | (apply tup_lst; (· assumption); (· infer_instance)) | (apply Ne.symm; apply tup_lst; (· assumption); (· infer_instance)) | (apply nw_ne; (· assumption); (· infer_instance)) | (apply Ne.symm; apply nw_ne; (· assumption); (· infer_instance)) | (apply none_ne; (· assumption); (· infer_instance)) | (apply Ne.symm; apply none_ne; (· assumption); (· infer_instance))))
local macro_rules | `(tactic| ac_rfl) => `(tactic| ((repeat (first | assumption | (apply Pen.nw; (focus assumption)) | (apply Pen.same; (focus assumption)) | (apply Pen.mu; (focus assumption); (focus nofun); (focus nofun)) | (apply Pen.keep; (focus assumption); (focus nofun); (focus nofun)))); done))
local macro_rules | `(tactic| infer_instance) => `(tactic| ((repeat (first | assumption | (apply Nw.at_; assumption) | (apply Mu.at_; assumption) | (apply Nw.up; (focus assumption)) | (apply same_up; (focus assumption)) | (apply Mu.up; (focus assumption); (focus nofun)) | (apply keep_up; (focus assumption); (focus nofun)) | (apply keep2_up; (focus assumption); (focus nofun); (focus nofun)))); done))
local macro_rules | `(tactic| symm_saturate) => `(tactic| (repeat (first | with_reducible refine st_seq ?_ | with_reducible refine st_asg ?_ | with_reducible refine st_name ?_ | with_reducible refine st_ret ?_ | with_reducible refine st_drop ?_ | with_reducible refine st_ifS ?_ | with_reducible refine st_nx ?_ | with_reducible refine st_brk ?_ | with_reducible refine st_cnt ?_ | with_reducible refine st_c ?_ | with_reducible refine st_op ?_ | with_reducible refine st_un ?_ | with_reducible refine st_rI0 ?_ | with_reducible refine st_cons ?_ | with_reducible refine st_nil ?_ | with_reducible refine st_cl ?_ | with_reducible refine st_cb ?_ | with_reducible refine st_mt ?_ | with_reducible refine st_pr ?_ | with_reducible refine st_test ?_ | with_reducible refine st_ebl ?_ | with_reducible refine st_eint ?_ | with_reducible refine st_par ?_ | with_reducible refine st_par2 ?_ | with_reducible refine st_and ?_ | with_reducible refine st_or ?_ | with_reducible refine st_not ?_ | with_reducible refine st_andV ?_ | with_reducible refine st_orV ?_ | with_reducible refine st_notV ?_ | with_reducible refine st_ifE ?_ | with_reducible refine st_chain ?_ | with_reducible refine st_lst ?_ | with_reducible refine st_tup ?_ | with_reducible refine st_retN ?_ | with_reducible refine st_rU ?_ | with_reducible refine st_rAdd ?_ | with_reducible refine st_rSub ?_ | with_reducible refine st_isN ?_ | with_reducible refine st_notN ?_ | with_reducible refine st_sF ?_ | with_reducible refine st_int ?_ | with_reducible refine st_intB ?_ | with_reducible refine st_abs ?_ | with_reducible refine st_sl ?_ | with_reducible refine st_part ?_ | with_reducible refine st_nopart ?_ | with_reducible refine st_bm ?_ | with_reducible refine st_bm0 ?_ | with_reducible refine st_tyS ?_ | with_reducible refine st_gsub ?_ | with_reducible refine st_gcons ?_ | with_reducible refine st_gnil ?_ | with_reducible refine st_chain3 ?_ | with_reducible refine st_gsl ?_ | with_reducible refine st_clK ?_ | with_reducible refine st_mtK ?_ | with_reducible refine st_lcR1 ?_ | with_reducible refine st_lcR2 ?_ | with_reducible refine st_lcL ?_ | with_reducible refine st_lcT ?_ | with_reducible refine st_yes ?_ | with_reducible refine st_forR1 ?_ | with_reducible refine st_forR2 ?_ | with_reducible refine st_forL ?_ | with_reducible refine st_forT ?_ | with_reducible refine st_forE ?_ | with_reducible refine st_list ?_ | with_reducible refine st_itup ?_ | with_reducible refine st_tB ?_ | ((with_reducible apply st_var); exact rfl) | ((with_reducible apply st_aug); exact rfl) | ((with_reducible apply st_eq); exact rfl) | ((with_reducible apply st_ne); exact rfl) | ((with_reducible apply st_spK); (focus exact rfl); (focus exact rfl)) | ((with_reducible apply st_rI); (first | decide | (refine Or.inl ⟨?_, ?_⟩ <;> omega) | (refine Or.inr ⟨?_, ?_⟩ <;> omega) | (show (0 : Int) < _; omega) | exact ⟨by omega, log_of (by omega) (by omega)⟩ | exact ⟨by decide, by decide, by decide⟩)) | ((with_reducible apply st_powK); (focus exact ⟨by decide, by decide, by decide⟩); (focus decide)) | ((with_reducible apply st_eR1); (focus omega); (focus omega)) | ((with_reducible apply st_eR2); (focus omega)) | ((with_reducible apply st_if1); (first | with_reducible rfl | assumption | exact rfl | decide | (simp only [decide_eq_true_eq, decide_eq_false_iff_not, Bool.not_eq_true', Bool.not_eq_false', Bool.not_true, Bool.not_false, Bool.true_and, Bool.and_true, Bool.false_and, Bool.and_false, V.int.injEq, V.str.injEq, V.bl.injEq, V.ref.injEq, reduceCtorEq, not_true, not_false_eq_true, decide_true, decide_false, Int.not_lt, Int.not_le, ne_eq, List.length_cons, List.length_nil, List.length_map, List.length_append, List.length_set, List.length_take, List.length_drop] <;> omega))) | ((with_reducible apply st_if0); (first | with_reducible rfl | assumption | exact rfl | decide | (simp only [decide_eq_true_eq, decide_eq_false_iff_not, Bool.not_eq_true', Bool.not_eq_false', Bool.not_true, Bool.not_false, Bool.true_and, Bool.and_true, Bool.false_and, Bool.and_false, V.int.injEq, V.str.injEq, V.bl.injEq, V.ref.injEq, reduceCtorEq, not_true, not_false_eq_true, decide_true, decide_false, Int.not_lt, Int.not_le, ne_eq, List.length_cons, List.length_nil, List.length_map, List.length_append, List.length_set, List.length_take, List.length_drop] <;> omega))) | ((with_reducible apply st_lenL); (focus infer_instance)) | ((with_reducible apply st_lenT); (focus infer_instance)) | ((with_reducible apply st_tupT); (focus infer_instance)) | ((with_reducible apply st_tyL); (focus infer_instance)) | ((with_reducible apply st_elist); (focus infer_instance)) | ((with_reducible apply st_eitup); (focus infer_instance)) | ((with_reducible apply st_eE); (focus infer_instance)) | ((with_reducible apply st_epr); (focus infer_instance)) | ((with_reducible apply st_setO); (focus infer_instance)) | ((with_reducible apply st_ixO); (focus infer_instance)) | ((with_reducible apply st_ixLs); (focus assumption); (focus (first | exact rfl | exact atI_nat (by assumption)))) | ((with_reducible apply st_ixTs); (focus assumption); (focus (first | exact rfl | exact atI_nat (by assumption)))) | ((with_reducible apply st_fld); (focus infer_instance); (focus exact rfl)) | ((with_reducible apply st_const); (focus infer_instance); (focus exact rfl)) | ((with_reducible apply st_emt); (focus infer_instance); (focus exact rfl)) | ((with_reducible apply st_ixL); (focus infer_instance); (focus (first | exact rfl | exact atI_nat (by assumption)))) | ((with_reducible apply st_ixT); (focus infer_instance); (focus (first | exact rfl | exact atI_nat (by assumption)))) | ((with_reducible apply st_gtup); (focus infer_instance); (focus (first | exact rfl | exact atI_nat (by assumption)))))))
local macro_rules | `(tactic| subst_eqs) => `(tactic| (repeat (first | with_reducible refine st_seq ?_ | with_reducible refine st_asg ?_ | with_reducible refine st_name ?_ | with_reducible refine st_ret ?_ | with_reducible refine st_drop ?_ | with_reducible refine st_ifS ?_ | with_reducible refine st_nx ?_ | with_reducible refine st_brk ?_ | with_reducible refine st_cnt ?_ | with_reducible refine st_c ?_ | with_reducible refine st_op ?_ | with_reducible refine st_un ?_ | with_reducible refine st_rI0 ?_ | with_reducible refine st_cons ?_ | with_reducible refine st_nil ?_ | with_reducible refine st_cl ?_ | with_reducible refine st_cb ?_ | with_reducible refine st_mt ?_ | with_reducible refine st_pr ?_ | with_reducible refine st_test ?_ | with_reducible refine st_ebl ?_ | with_reducible refine st_eint ?_ | with_reducible refine st_par ?_ | with_reducible refine st_par2 ?_ | with_reducible refine st_and ?_ | with_reducible refine st_or ?_ | with_reducible refine st_not ?_ | with_reducible refine st_andV ?_ | with_reducible refine st_orV ?_ | with_reducible refine st_notV ?_ | with_reducible refine st_ifE ?_ | with_reducible refine st_chain ?_ | with_reducible refine st_lst ?_ | with_reducible refine st_tup ?_ | with_reducible refine st_retN ?_ | with_reducible refine st_rU ?_ | with_reducible refine st_rAdd ?_ | with_reducible refine st_rSub ?_ | with_reducible refine st_isN ?_ | with_reducible refine st_notN ?_ | with_reducible refine st_sF ?_ | with_reducible refine st_int ?_ | with_reducible refine st_intB ?_ | with_reducible refine st_abs ?_ | with_reducible refine st_sl ?_ | with_reducible refine st_part ?_ | with_reducible refine st_nopart ?_ | with_reducible refine st_bm ?_ | with_reducible refine st_bm0 ?_ | with_reducible refine st_tyS ?_ | with_reducible refine st_gsub ?_ | with_reducible refine st_gcons ?_ | with_reducible refine st_gnil ?_ | with_reducible refine st_chain3 ?_ | with_reducible refine st_gsl ?_ | with_reducible refine st_clK ?_ | with_reducible refine st_mtK ?_ | with_reducible refine st_lcR1 ?_ | with_reducible refine st_lcR2 ?_ | with_reducible refine st_lcL ?_ | with_reducible refine st_lcT ?_ | with_reducible refine st_yes ?_ | with_reducible refine st_forR1 ?_ | with_reducible refine st_forR2 ?_ | with_reducible refine st_forL ?_ | with_reducible refine st_forT ?_ | with_reducible refine st_forE ?_ | with_reducible refine st_list ?_ | with_reducible refine st_itup ?_ | with_reducible refine st_tB ?_ | ((with_reducible apply st_var); exact rfl) | ((with_reducible apply st_aug); exact rfl) | ((with_reducible apply st_eq); exact rfl) | ((with_reducible apply st_ne); exact rfl) | ((with_reducible apply st_spK); (focus exact rfl); (focus exact rfl)) | ((with_reducible apply st_rI); (first | decide | (refine Or.inl ⟨?_, ?_⟩ <;> omega) | (refine Or.inr ⟨?_, ?_⟩ <;> omega) | (show (0 : Int) < _; omega) | exact ⟨by omega, log_of (by omega) (by omega)⟩ | exact ⟨by decide, by decide, by decide⟩)) | ((with_reducible apply st_powK); (focus exact ⟨by decide, by decide, by decide⟩); (focus decide)) | ((with_reducible apply st_eR1); (focus omega); (focus omega)) | ((with_reducible apply st_eR2); (focus omega)) | ((with_reducible apply st_if1); (first | with_reducible rfl | assumption | exact rfl | decide | (simp only [decide_eq_true_eq, decide_eq_false_iff_not, Bool.not_eq_true', Bool.not_eq_false', Bool.not_true, Bool.not_false, Bool.true_and, Bool.and_true, Bool.false_and, Bool.and_false, V.int.injEq, V.str.injEq, V.bl.injEq, V.ref.injEq, reduceCtorEq, not_true, not_false_eq_true, decide_true, decide_false, Int.not_lt, Int.not_le, ne_eq, List.length_cons, List.length_nil, List.length_map, List.length_append, List.length_set, List.length_take, List.length_drop] <;> omega))) | ((with_reducible apply st_if0); (first | with_reducible rfl | assumption | exact rfl | decide | (simp only [decide_eq_true_eq, decide_eq_false_iff_not, Bool.not_eq_true', Bool.not_eq_false', Bool.not_true, Bool.not_false, Bool.true_and, Bool.and_true, Bool.false_and, Bool.and_false, V.int.injEq, V.str.injEq, V.bl.injEq, V.ref.injEq, reduceCtorEq, not_true, not_false_eq_true, decide_true, decide_false, Int.not_lt, Int.not_le, ne_eq, List.length_cons, List.length_nil, List.length_map, List.length_append, List.length_set, List.length_take, List.length_drop] <;> omega))) | ((with_reducible apply st_lenL); (focus infer_instance)) | ((with_reducible apply st_lenT); (focus infer_instance)) | ((with_reducible apply st_tupT); (focus infer_instance)) | ((with_reducible apply st_tyL); (focus infer_instance)) | ((with_reducible apply st_elist); (focus infer_instance)) | ((with_reducible apply st_eitup); (focus infer_instance)) | ((with_reducible apply st_eE); (focus infer_instance)) | ((with_reducible apply st_epr); (focus infer_instance)) | ((with_reducible apply st_setO); (focus infer_instance)) | ((with_reducible apply st_ixO); (focus infer_instance)) | ((with_reducible apply st_ixLs); (focus assumption); (focus (first | exact rfl | exact atI_nat (by assumption)))) | ((with_reducible apply st_ixTs); (focus assumption); (focus (first | exact rfl | exact atI_nat (by assumption)))) | ((with_reducible apply st_fld); (focus infer_instance); (focus exact rfl)) | ((with_reducible apply st_const); (focus infer_instance); (focus exact rfl)) | ((with_reducible apply st_emt); (focus infer_instance); (focus exact rfl)) | ((with_reducible apply st_ixL); (focus infer_instance); (focus (first | exact rfl | exact atI_nat (by assumption)))) | ((with_reducible apply st_ixT); (focus infer_instance); (focus (first | exact rfl | exact atI_nat (by assumption)))) | ((with_reducible apply st_gtup); (focus infer_instance); (focus (first | exact rfl | exact atI_nat (by assumption)))) | ((with_reducible apply st_newL); (focus (refine len_ok ?_; simp only [List.length_cons, List.length_nil, List.length_append, List.length_map, List.length_set, List.length_take, List.length_drop]; omega)); intro l Hn nw) | ((with_reducible apply st_newT); (focus (refine len_ok ?_; simp only [List.length_cons, List.length_nil, List.length_append, List.length_map, List.length_set, List.length_take, List.length_drop]; omega)); intro l Hn nw) | ((with_reducible apply st_listL); (focus infer_instance); intro l Hn nw) | ((with_reducible apply st_listT); (focus infer_instance); intro l Hn nw) | ((with_reducible apply st_tupL); (focus infer_instance); intro l Hn nw) | ((with_reducible apply st_slL); (focus infer_instance); intro l Hn nw) | ((with_reducible apply st_cat); (focus infer_instance); (focus infer_instance); (focus (refine len_ok ?_; simp only [List.length_cons, List.length_nil, List.length_append, List.length_map, List.length_set, List.length_take, List.length_drop]; omega)); intro l Hn nw))))
section
variable {P : Program} {w : World} {K : PySem.W.Frag} {mg : Str → Option Value} {base : Heap} {f : Addr} {fd : FuncData}
def spInteger : Sp := fun vs H Q _ => ∃ v : V, vs = [v] ∧ Kd H v ∧ Q (.bl (isI v)) H
theorem st_integer {v : V} {H : Hp} {Q : VK} {E : XK} (h : Kd H v) (q : Q (.bl (isI v)) H) : rSp spInteger [] E [v] H Q := ⟨v, rfl, h, q⟩
abbrev N_is_integer : List Str := ["value"]
theorem sc_is_integer : FnScope N_is_integer ["value"] (defScope s_is_integer) := ⟨rfl, rfl, rfl, by decide +kernel, rfl, by decide +kernel, by decide +kernel⟩
theorem ok_is_integer (F : FnA K d_is_integer fd) (T : Tx K mg)  : FnOk P w K mg base CX0 1 (d_is_integer.adr K) fd ["value"] spInteger := by
  refine fnO0 F sc_is_integer (fun vs H Q E h => by (repeat (first | (obtain ⟨rfl, _⟩ := h; rfl) | (obtain ⟨_, h⟩ := h)))) (fun cdv A outer s H vs Q E hr h => ?_)
  refine ⟨_, (pss_one (ps_ret (pe_and (pe_callB (call_isiK1 (K := K) rfl) (by rfl) T.f_isinstance (by decide +kernel) (pa_cons (pv 0) (pa_cons (pe_bltn (v := .ty "int") (by rfl) T.f_int (by decide +kernel) rfl) pa_nil))) (pe_one (pe_not (pe_callB (call_isiK1 (K := K) rfl) (by rfl) T.f_isinstance (by decide +kernel) (pa_cons (pv 0) (pa_cons (pe_bltn (v := .ty "bool") (by rfl) T.f_bool (by decide +kernel) rfl) pa_nil)))))))), ?_⟩
  obtain ⟨v, rfl, kd, q⟩ := h
  obtain ⟨t, b, ty, e1, e2, e3⟩ := kd.isInt (K := K)
  symm_saturate
  refine st_isi (.ty _) ty e1 ?_
  symm_saturate
  refine ite2 (fun hb => ?_) (fun hb => ?_)
  · subst hb
    symm_saturate
    refine st_isi (.ty _) ty e2 ?_
    symm_saturate
    rw [Bool.true_and, Bool.not_not]
    exact q
  · have hb' : b = false := by simpa using hb
    rw [e3 hb'] at q
    exact q
/-- is_within of any value and two ints -/
def spWithin : Sp := fun vs H Q _ => ∃ (v : V) (a b : Int), vs = [v, .int a, .int b] ∧ Kd H v ∧ Q (.bl (withinV v a b)) H
theorem st_within {v : V} {a b : Int} {H : Hp} {Q : VK} {E : XK} (h : Kd H v) (q : Q (.bl (withinV v a b)) H) : rSp spWithin [] E [v, .int a, .int b] H Q := ⟨v, a, b, rfl, h, q⟩
theorem isI_int {v : V} (h : isI v = true) : ∃ i, v = .int i := by
  cases v with
  | int i => exact ⟨i, rfl⟩
  | _ => cases h
abbrev N_is_within : List Str := ["value", "least", "most"]
theorem sc_is_within : FnScope N_is_within ["value", "least", "most"] (defScope s_is_within) := ⟨rfl, rfl, rfl, by decide +kernel, rfl, by decide +kernel, by decide +kernel⟩
theorem ok_is_within (F : FnA K d_is_within fd) (T : Tx K mg) (G_is_integer : PromO P w K mg base CX0 1 (gd "is_integer" K) [] spInteger) : FnOk P w K mg base CX0 2 (d_is_within.adr K) fd ["value", "least", "most"] spWithin := by
  refine fnO0 F sc_is_within (fun vs H Q E h => by (repeat (first | (obtain ⟨rfl, _⟩ := h; rfl) | (obtain ⟨_, h⟩ := h)))) (fun cdv A outer s H vs Q E hr h => ?_)
  refine ⟨_, (pss_one (ps_ret (pe_and (pe_g (PromO.call G_is_integer (hr.mono (by decide)) pass0) (by rfl) T.g_is_integer T.k_is_integer (pa_cons (pv 0) pa_nil)) (pe_one (pe_chain op_le op_le (pv 1) (pv 0) (pv 2)))))), ?_⟩
  obtain ⟨v, a, b, rfl, kd, q⟩ := h
  symm_saturate
  refine st_integer kd ?_
  symm_saturate
  refine ite2 (fun hb => ?_) (fun hb => ?_)
  · obtain ⟨i, rfl⟩ := isI_int hb
    symm_saturate
    have q' : Q (.bl (decide (a ≤ i) && decide (i ≤ b))) H := q
    refine ite2 (fun h1 => ?_) (fun h1 => ?_)
    · symm_saturate
      rw [h1, Bool.true_and] at q'
      exact q'
    · have h2 : decide (a ≤ i) = false := by simpa using h1
      rw [h2, Bool.false_and] at q'
      exact q'
  · have e : withinV v a b = false := by
      cases v with
      | int i => exact absurd rfl hb
      | _ => rfl
    rw [e] at q
    exact q
theorem within_yes {i a b : Int} (h : a ≤ i ∧ i ≤ b) : withinV (.int i) a b = true := by
  show (decide (a ≤ i) && decide (i ≤ b)) = true
  rw [decide_eq_true h.1, decide_eq_true h.2] <;> rfl
theorem within_int {v : V} {a b : Int} (h : withinV v a b = true) : ∃ i, v = .int i ∧ a ≤ i ∧ i ≤ b := by
  cases v with
  | int i =>
    have h' : (decide (a ≤ i) && decide (i ≤ b)) = true := h
    rw [Bool.and_eq_true, decide_eq_true_eq, decide_eq_true_eq] at h'
    exact ⟨i, rfl, h'.1, h'.2⟩
  | _ => cases h
theorem st_withinY {i a b : Int} {H : Hp} {Q : VK} {E : XK} (h : a ≤ i ∧ i ≤ b) (q : Q (.bl true) H) : rSp spWithin [] E [.int i, .int a, .int b] H Q := st_within (.int i) (by rw [within_yes h]; exact q)
def spIn (a b : Int) : Sp := fun vs H Q _ => ∃ v : V, vs = [v] ∧ Kd H v ∧ Q (.bl (withinV v a b)) H
theorem st_in {v : V} {a b : Int} {H : Hp} {Q : VK} {E : XK} (h : Kd H v) (q : Q (.bl (withinV v a b)) H) : rSp (spIn a b) [] E [v] H Q := ⟨v, rfl, h, q⟩
/-- is_item of any value -/
def itemV (v : V) : Bool := match v with
  | .int i => decide (-1000000000000000000000000000000 < i) && decide (i < 1000000000000000000000000000000)
  | _ => false
def isItem (i : Int) : Prop := -1000000000000000000000000000000 < i ∧ i < 1000000000000000000000000000000
def spItem : Sp := fun vs H Q _ => ∃ v : V, vs = [v] ∧ Kd H v ∧ Q (.bl (itemV v)) H
theorem st_item {v : V} {H : Hp} {Q : VK} {E : XK} (h : Kd H v) (q : Q (.bl (itemV v)) H) : rSp spItem [] E [v] H Q := ⟨v, rfl, h, q⟩
theorem item_yes {i : Int} (h : isItem i) : itemV (.int i) = true := by
  show (decide _ && decide _) = true
  rw [decide_eq_true h.1, decide_eq_true h.2] <;> rfl
theorem st_itemY {i : Int} {H : Hp} {Q : VK} {E : XK} (h : isItem i) (q : Q (.bl true) H) : rSp spItem [] E [.int i] H Q := st_item (.int i) (by rw [item_yes h]; exact q)
abbrev N_is_item : List Str := ["value"]
theorem sc_is_item : FnScope N_is_item ["value"] (defScope s_is_item) := ⟨rfl, rfl, rfl, by decide +kernel, rfl, by decide +kernel, by decide +kernel⟩
theorem ok_is_item (F : FnA K d_is_item fd) (T : Tx K mg) (G_is_integer : PromO P w K mg base CX0 1 (gd "is_integer" K) [] spInteger) : FnOk P w K mg base CX0 2 (d_is_item.adr K) fd ["value"] spItem := by
  refine fnO0 F sc_is_item (fun vs H Q E h => by (repeat (first | (obtain ⟨rfl, _⟩ := h; rfl) | (obtain ⟨_, h⟩ := h)))) (fun cdv A outer s H vs Q E hr h => ?_)
  refine ⟨_, (pss_one (ps_ret (pe_and (pe_g (PromO.call G_is_integer (hr.mono (by decide)) pass0) (by rfl) T.g_is_integer T.k_is_integer (pa_cons (pv 0) pa_nil)) (pe_one (pe_chain op_lt op_lt (pe_un un_neg (pe_gi T.m_BEYOND_ITEMS (by rfl))) (pv 0) (pe_gi T.m_BEYOND_ITEMS (by rfl))))))), ?_⟩
  obtain ⟨v, rfl, kd, q⟩ := h
  symm_saturate
  refine st_integer kd ?_
  symm_saturate
  refine ite2 (fun hb => ?_) (fun hb => ?_)
  · obtain ⟨i, rfl⟩ := isI_int hb
    symm_saturate
    have q' : Q (.bl (decide (-1000000000000000000000000000000 < i) && decide (i < 1000000000000000000000000000000))) H := q
    refine ite2 (fun h1 => ?_) (fun h1 => ?_)
    · symm_saturate
      rw [show decide (-1000000000000000000000000000000 < i) = true from h1, Bool.true_and] at q'
      exact q'
    · have h2 : decide (-1000000000000000000000000000000 < i) = false := by simpa using h1
      rw [h2, Bool.false_and] at q'
      exact q'
  · have e : itemV v = false := by
      cases v with
      | int i => exact absurd rfl hb
      | _ => rfl
    rw [e] at q
    exact q
end
end Lw

set_option Elab.async false
set_option linter.all false
set_option maxRecDepth 100000
set_option maxHeartbeats 4000000
set_option pp.maxSteps 600
namespace Lw
open PySem PySem.Spec PyProof.Rows L2 Gh
local macro_rules | `(tactic| nofun) => `(tactic| (first | assumption | exact Ne.symm (by assumption) | (apply nw_pen'; (· assumption); (· assumption); (· ac_rfl)) | (apply Ne.symm; apply nw_pen'; (· assumption); (· assumption); (· ac_rfl)) | (apply nw_cell'; (· assumption); (· assumption); (· ac_rfl)) | (apply Ne.symm; apply nw_cell'; (· assumption); (· assumption); (· ac_rfl)) | (apply none_pen'; (· assumption); (· assumption); (· ac_rfl)) | (apply Ne.symm; apply none_pen'; (· assumption); (· assumption); (· ac_rfl)) | (apply none_cell'; (· assumption); (· assumption); (· ac_rfl)) | (apply Ne.symm; apply none_cell'; (· assumption); (· assumption); (· ac_rfl)) | (apply tup_pen'; (· assumption); (· assumption); (· ac_rfl)) | (apply Ne.symm; apply tup_pen'; (· assumption); (· assumption); (· ac_rfl)) | (apply tup_cell'; (· assumption); (· assumption); (· ac_rfl)) | (apply Ne.symm; apply tup_cell'; (· assumption); (· assumption); (· ac_rfl)) | (apply ins_pen'; (· assumption); (· assumption); (· ac_rfl)) | (apply Ne.symm; apply ins_pen'; (· assumption); (· assumption); (· ac_rfl)) | (apply ins_cell'; (· assumption); (· assumption); (· ac_rfl)) | (apply Ne.symm; apply ins_cell'; (· assumption); (· assumption); (· ac_rfl)) | (apply ins_lst; (· assumption); (· infer_instance)) | (apply Ne.symm; apply ins_lst; (· assumption); (· infer_instance)) | (apply ins_tup; (· assumption); (· infer_instance)) | (apply Ne.symm; apply ins_tup; (· assumption); (· infer_instance)) | (apply tup_lst; (· assumption); (· infer_instance)) | (apply Ne.symm; apply tup_lst; (· assumption); (· infer_instance)) | (apply nw_ne; (· assumption); (· infer_instance)) | (apply Ne.symm; apply nw_ne; (· assumption); (· infer_instance)) | (apply none_ne; (· assumption); (· infer_instance)) | (apply Ne.symm; apply none_ne; (· assumption); (· infer_instance))))
local macro_rules | `(tactic| ac_rfl) => `(tactic| ((repeat (first | assumption | (apply Pen.nw; (focus assumption)) | (apply Pen.same; (focus assumption)) | (apply Pen.mu; (focus assumption); (focus nofun); (focus nofun)) | (apply Pen.keep; (focus assumption); (focus nofun); (focus nofun)))); done))
local macro_rules | `(tactic| infer_instance) => `(tactic| ((repeat (first | assumption | (apply Nw.at_; assumption) | (apply Mu.at_; assumption) | (apply Nw.up; (focus assumption)) | (apply same_up; (focus assumption)) | (apply Mu.up; (focus assumption); (focus nofun)) | (apply keep_up; (focus assumption); (focus nofun)) | (apply keep2_up; (focus assumption); (focus nofun); (focus nofun)))); done))
local macro_rules | `(tactic| symm_saturate) => `(tactic| (repeat (first | with_reducible refine st_seq ?_ | with_reducible refine st_asg ?_ | with_reducible refine st_name ?_ | with_reducible refine st_ret ?_ | with_reducible refine st_drop ?_ | with_reducible refine st_ifS ?_ | with_reducible refine st_nx ?_ | with_reducible refine st_brk ?_ | with_reducible refine st_cnt ?_ | with_reducible refine st_c ?_ | with_reducible refine st_op ?_ | with_reducible refine st_un ?_ | with_reducible refine st_rI0 ?_ | with_reducible refine st_cons ?_ | with_reducible refine st_nil ?_ | with_reducible refine st_cl ?_ | with_reducible refine st_cb ?_ | with_reducible refine st_mt ?_ | with_reducible refine st_pr ?_ | with_reducible refine st_test ?_ | with_reducible refine st_ebl ?_ | with_reducible refine st_eint ?_ | with_reducible refine st_par ?_ | with_reducible refine st_par2 ?_ | with_reducible refine st_and ?_ | with_reducible refine st_or ?_ | with_reducible refine st_not ?_ | with_reducible refine st_andV ?_ | with_reducible refine st_orV ?_ | with_reducible refine st_notV ?_ | with_reducible refine st_ifE ?_ | with_reducible refine st_chain ?_ | with_reducible refine st_lst ?_ | with_reducible refine st_tup ?_ | with_reducible refine st_retN ?_ | with_reducible refine st_rU ?_ | with_reducible refine st_rAdd ?_ | with_reducible refine st_rSub ?_ | with_reducible refine st_isN ?_ | with_reducible refine st_notN ?_ | with_reducible refine st_sF ?_ | with_reducible refine st_int ?_ | with_reducible refine st_intB ?_ | with_reducible refine st_abs ?_ | with_reducible refine st_sl ?_ | with_reducible refine st_part ?_ | with_reducible refine st_nopart ?_ | with_reducible refine st_bm ?_ | with_reducible refine st_bm0 ?_ | with_reducible refine st_tyS ?_ | with_reducible refine st_gsub ?_ | with_reducible refine st_gcons ?_ | with_reducible refine st_gnil ?_ | with_reducible refine st_chain3 ?_ | with_reducible refine st_gsl ?_ | with_reducible refine st_clK ?_ | with_reducible refine st_mtK ?_ | with_reducible refine st_lcR1 ?_ | with_reducible refine st_lcR2 ?_ | with_reducible refine st_lcL ?_ | with_reducible refine st_lcT ?_ | with_reducible refine st_yes ?_ | with_reducible refine st_forR1 ?_ | with_reducible refine st_forR2 ?_ | with_reducible refine st_forL ?_ | with_reducible refine st_forT ?_ | with_reducible refine st_forE ?_ | with_reducible refine st_list ?_ | with_reducible refine st_itup ?_ | with_reducible refine st_tB ?_ | ((with_reducible apply st_var); exact rfl) | ((with_reducible apply st_aug); exact rfl) | ((with_reducible apply st_eq); exact rfl) | ((with_reducible apply st_ne); exact rfl) | ((with_reducible apply st_spK); (focus exact rfl); (focus exact rfl)) | ((with_reducible apply st_rI); (first | decide | (refine Or.inl ⟨?_, ?_⟩ <;> omega) | (refine Or.inr ⟨?_, ?_⟩ <;> omega) | (show (0 : Int) < _; omega) | exact ⟨by omega, log_of (by omega) (by omega)⟩ | exact ⟨by decide, by decide, by decide⟩)) | ((with_reducible apply st_powK); (focus exact ⟨by decide, by decide, by decide⟩); (focus decide)) | ((with_reducible apply st_eR1); (focus omega); (focus omega)) | ((with_reducible apply st_eR2); (focus omega)) | ((with_reducible apply st_if1); (first | with_reducible rfl | assumption | exact rfl | decide | (simp only [decide_eq_true_eq, decide_eq_false_iff_not, Bool.not_eq_true', Bool.not_eq_false', Bool.not_true, Bool.not_false, Bool.true_and, Bool.and_true, Bool.false_and, Bool.and_false, V.int.injEq, V.str.injEq, V.bl.injEq, V.ref.injEq, reduceCtorEq, not_true, not_false_eq_true, decide_true, decide_false, Int.not_lt, Int.not_le, ne_eq, List.length_cons, List.length_nil, List.length_map, List.length_append, List.length_set, List.length_take, List.length_drop] <;> omega))) | ((with_reducible apply st_if0); (first | with_reducible rfl | assumption | exact rfl | decide | (simp only [decide_eq_true_eq, decide_eq_false_iff_not, Bool.not_eq_true', Bool.not_eq_false', Bool.not_true, Bool.not_false, Bool.true_and, Bool.and_true, Bool.false_and, Bool.and_false, V.int.injEq, V.str.injEq, V.bl.injEq, V.ref.injEq, reduceCtorEq, not_true, not_false_eq_true, decide_true, decide_false, Int.not_lt, Int.not_le, ne_eq, List.length_cons, List.length_nil, List.length_map, List.length_append, List.length_set, List.length_take, List.length_drop] <;> omega))) | ((with_reducible apply st_lenL); (focus infer_instance)) | ((with_reducible apply st_lenT); (focus infer_instance)) | ((with_reducible apply st_tupT); (focus infer_instance)) | ((with_reducible apply st_tyL); (focus infer_instance)) | ((with_reducible apply st_elist); (focus infer_instance)) | ((with_reducible apply st_eitup); (focus infer_instance)) | ((with_reducible apply st_eE); (focus infer_instance)) | ((with_reducible apply st_epr); (focus infer_instance)) | ((with_reducible apply st_setO); (focus infer_instance)) | ((with_reducible apply st_ixO); (focus infer_instance)) | ((with_reducible apply st_ixLs); (focus assumption); (focus (first | exact rfl | exact atI_nat (by assumption)))) | ((with_reducible apply st_ixTs); (focus assumption); (focus (first | exact rfl | exact atI_nat (by assumption)))) | ((with_reducible apply st_fld); (focus infer_instance); (focus exact rfl)) | ((with_reducible apply st_const); (focus infer_instance); (focus exact rfl)) | ((with_reducible apply st_emt); (focus infer_instance); (focus exact rfl)) | ((with_reducible apply st_ixL); (focus infer_instance); (focus (first | exact rfl | exact atI_nat (by assumption)))) | ((with_reducible apply st_ixT); (focus infer_instance); (focus (first | exact rfl | exact atI_nat (by assumption)))) | ((with_reducible apply st_gtup); (focus infer_instance); (focus (first | exact rfl | exact atI_nat (by assumption)))))))
local macro_rules | `(tactic| subst_eqs) => `(tactic| (repeat (first | with_reducible refine st_seq ?_ | with_reducible refine st_asg ?_ | with_reducible refine st_name ?_ | with_reducible refine st_ret ?_ | with_reducible refine st_drop ?_ | with_reducible refine st_ifS ?_ | with_reducible refine st_nx ?_ | with_reducible refine st_brk ?_ | with_reducible refine st_cnt ?_ | with_reducible refine st_c ?_ | with_reducible refine st_op ?_ | with_reducible refine st_un ?_ | with_reducible refine st_rI0 ?_ | with_reducible refine st_cons ?_ | with_reducible refine st_nil ?_ | with_reducible refine st_cl ?_ | with_reducible refine st_cb ?_ | with_reducible refine st_mt ?_ | with_reducible refine st_pr ?_ | with_reducible refine st_test ?_ | with_reducible refine st_ebl ?_ | with_reducible refine st_eint ?_ | with_reducible refine st_par ?_ | with_reducible refine st_par2 ?_ | with_reducible refine st_and ?_ | with_reducible refine st_or ?_ | with_reducible refine st_not ?_ | with_reducible refine st_andV ?_ | with_reducible refine st_orV ?_ | with_reducible refine st_notV ?_ | with_reducible refine st_ifE ?_ | with_reducible refine st_chain ?_ | with_reducible refine st_lst ?_ | with_reducible refine st_tup ?_ | with_reducible refine st_retN ?_ | with_reducible refine st_rU ?_ | with_reducible refine st_rAdd ?_ | with_reducible refine st_rSub ?_ | with_reducible refine st_isN ?_ | with_reducible refine st_notN ?_ | with_reducible refine st_sF ?_ | with_reducible refine st_int ?_ | with_reducible refine st_intB ?_ | with_reducible refine st_abs ?_ | with_reducible refine st_sl ?_ | with_reducible refine st_part ?_ | with_reducible refine st_nopart ?_ | with_reducible refine st_bm ?_ | with_reducible refine st_bm0 ?_ | with_reducible refine st_tyS ?_ | with_reducible refine st_gsub ?_ | with_reducible refine st_gcons ?_ | with_reducible refine st_gnil ?_ | with_reducible refine st_chain3 ?_ | with_reducible refine st_gsl ?_ | with_reducible refine st_clK ?_ | with_reducible refine st_mtK ?_ | with_reducible refine st_lcR1 ?_ | with_reducible refine st_lcR2 ?_ | with_reducible refine st_lcL ?_ | with_reducible refine st_lcT ?_ | with_reducible refine st_yes ?_ | with_reducible refine st_forR1 ?_ | with_reducible refine st_forR2 ?_ | with_reducible refine st_forL ?_ | with_reducible refine st_forT ?_ | with_reducible refine st_forE ?_ | with_reducible refine st_list ?_ | with_reducible refine st_itup ?_ | with_reducible refine st_tB ?_ | ((with_reducible apply st_var); exact rfl) | ((with_reducible apply st_aug); exact rfl) | ((with_reducible apply st_eq); exact rfl) | ((with_reducible apply st_ne); exact rfl) | ((with_reducible apply st_spK); (focus exact rfl); (focus exact rfl)) | ((with_reducible apply st_rI); (first | decide | (refine Or.inl ⟨?_, ?_⟩ <;> omega) | (refine Or.inr ⟨?_, ?_⟩ <;> omega) | (show (0 : Int) < _; omega) | exact ⟨by omega, log_of (by omega) (by omega)⟩ | exact ⟨by decide, by decide, by decide⟩)) | ((with_reducible apply st_powK); (focus exact ⟨by decide, by decide, by decide⟩); (focus decide)) | ((with_reducible apply st_eR1); (focus omega); (focus omega)) | ((with_reducible apply st_eR2); (focus omega)) | ((with_reducible apply st_if1); (first | with_reducible rfl | assumption | exact rfl | decide | (simp only [decide_eq_true_eq, decide_eq_false_iff_not, Bool.not_eq_true', Bool.not_eq_false', Bool.not_true, Bool.not_false, Bool.true_and, Bool.and_true, Bool.false_and, Bool.and_false, V.int.injEq, V.str.injEq, V.bl.injEq, V.ref.injEq, reduceCtorEq, not_true, not_false_eq_true, decide_true, decide_false, Int.not_lt, Int.not_le, ne_eq, List.length_cons, List.length_nil, List.length_map, List.length_append, List.length_set, List.length_take, List.length_drop] <;> omega))) | ((with_reducible apply st_if0); (first | with_reducible rfl | assumption | exact rfl | decide | (simp only [decide_eq_true_eq, decide_eq_false_iff_not, Bool.not_eq_true', Bool.not_eq_false', Bool.not_true, Bool.not_false, Bool.true_and, Bool.and_true, Bool.false_and, Bool.and_false, V.int.injEq, V.str.injEq, V.bl.injEq, V.ref.injEq, reduceCtorEq, not_true, not_false_eq_true, decide_true, decide_false, Int.not_lt, Int.not_le, ne_eq, List.length_cons, List.length_nil, List.length_map, List.length_append, List.length_set, List.length_take, List.length_drop] <;> omega))) | ((with_reducible apply st_lenL); (focus infer_instance)) | ((with_reducible apply st_lenT); (focus infer_instance)) | ((with_reducible apply st_tupT); (focus infer_instance)) | ((with_reducible apply st_tyL); (focus infer_instance)) | ((with_reducible apply st_elist); (focus infer_instance)) | ((with_reducible apply st_eitup); (focus infer_instance)) | ((with_reducible apply st_eE); (focus infer_instance)) | ((with_reducible apply st_epr); (focus infer_instance)) | ((with_reducible apply st_setO); (focus infer_instance)) | ((with_reducible apply st_ixO); (focus infer_instance)) | ((with_reducible apply st_ixLs); (focus assumption); (focus (first | exact rfl | exact atI_nat (by assumption)))) | ((with_reducible apply st_ixTs); (focus assumption); (focus (first | exact rfl | exact atI_nat (by assumption)))) | ((with_reducible apply st_fld); (focus infer_instance); (focus exact rfl)) | ((with_reducible apply st_const); (focus infer_instance); (focus exact rfl)) | ((with_reducible apply st_emt); (focus infer_instance); (focus exact rfl)) | ((with_reducible apply st_ixL); (focus infer_instance); (focus (first | exact rfl | exact atI_nat (by assumption)))) | ((with_reducible apply st_ixT); (focus infer_instance); (focus (first | exact rfl | exact atI_nat (by assumption)))) | ((with_reducible apply st_gtup); (focus infer_instance); (focus (first | exact rfl | exact atI_nat (by assumption)))) | ((with_reducible apply st_newL); (focus (refine len_ok ?_; simp only [List.length_cons, List.length_nil, List.length_append, List.length_map, List.length_set, List.length_take, List.length_drop]; omega)); intro l Hn nw) | ((with_reducible apply st_newT); (focus (refine len_ok ?_; simp only [List.length_cons, List.length_nil, List.length_append, List.length_map, List.length_set, List.length_take, List.length_drop]; omega)); intro l Hn nw) | ((with_reducible apply st_listL); (focus infer_instance); intro l Hn nw) | ((with_reducible apply st_listT); (focus infer_instance); intro l Hn nw) | ((with_reducible apply st_tupL); (focus infer_instance); intro l Hn nw) | ((with_reducible apply st_slL); (focus infer_instance); intro l Hn nw) | ((with_reducible apply st_cat); (focus infer_instance); (focus infer_instance); (focus (refine len_ok ?_; simp only [List.length_cons, List.length_nil, List.length_append, List.length_map, List.length_set, List.length_take, List.length_drop]; omega)); intro l Hn nw))))
section
variable {P : Program} {w : World} {K : PySem.W.Frag} {mg : Str → Option Value} {base : Heap} {f : Addr} {fd : FuncData}
/-! ### the pen -/
abbrev N__law_pen : List Str := ["_law_script"]
theorem sc__law_pen : FnScope N__law_pen ["_law_script"] (defScope s__law_pen) := ⟨rfl, rfl, rfl, by decide +kernel, rfl, by decide +kernel, by decide +kernel⟩
theorem ok__law_pen (F : FnA K d__law_pen fd) (T : Tx K mg)  : FnOk P w K mg base CX0 1 (d__law_pen.adr K) fd ["_law_script"] (spPn K) := by
  refine fnO0 F sc__law_pen (fun vs H Q E h => by (repeat (first | (obtain ⟨rfl, _⟩ := h; rfl) | (obtain ⟨_, h⟩ := h)))) (fun cdv A outer s H vs Q E hr h => ?_)
  refine ⟨_, (pss_one (ps_ret (pe_lst (pa_cons (pe_callTy (cr_listOf (K := K) rfl) (by rfl) T.f_list (by decide +kernel) (pa_cons (pe_slice (sl_listK (K := K) rfl) (pv 0) po_none (po_some pe_int)) pa_nil)) (pa_cons pe_int (pa_cons pe_int pa_nil)))))), ?_⟩
  obtain ⟨a, ns, rfl, hS, hl, q⟩ := h
  have ec : cutV (ns.map V.int) none (some 63) = ns.map V.int := cut_all (by rw [List.length_map]; exact hl)
  symm_saturate
  refine st_slLs hS fun c H1 n1 => ?_
  rw [ec] at n1
  symm_saturate
  refine st_listL (by infer_instance) fun e H2 n2 => ?_
  symm_saturate
  refine st_newL (by (refine len_ok ?_; simp only [List.length_cons, List.length_nil, List.length_append, List.length_map, List.length_set, List.length_take, List.length_drop]; omega)) fun p H3 n3 => ?_
  refine q p e _ (n1.same.free (n2.same.free n3.no)) ⟨ns, 0, 0, by infer_instance, by infer_instance, hl, Int.le_refl _, by decide, Int.le_refl _⟩ (n1.same.trans (n2.same.trans n3.same))
abbrev N__law_draw : List Str := ["_law_pen_here", "_law_many", "_law_taken", "_law_cell", "_law_mixed", "_law_digit", "_law_great"]
theorem sc__law_draw : FnScope N__law_draw ["_law_pen_here", "_law_many"] (defScope s__law_draw) := ⟨rfl, rfl, rfl, by decide +kernel, rfl, by decide +kernel, by decide +kernel⟩
theorem ok__law_draw (F : FnA K d__law_draw fd) (T : Tx K mg)  : FnOk P w K mg base CX0 1 (d__law_draw.adr K) fd ["_law_pen_here", "_law_many"] spDr := by
  refine fnO0 F sc__law_draw (fun vs H Q E h => by (repeat (first | (obtain ⟨rfl, _⟩ := h; rfl) | (obtain ⟨_, h⟩ := h)))) (fun cdv A outer s H vs Q E hr h => ?_)
  refine ⟨_, (pss_cons (ps_if (pt_cmpR op_gt (pe_ix (ix_listK (K := K) rfl) (pv 0) pe_int (fun _ _ => rfl)) pe_int (nomark _))
      (pss_cons (ps_set (i := 5) sc__law_draw.nd rfl (.inl rfl) (pe_op op_mod (pe_callTy cr_int (by rfl) T.f_int (by decide +kernel) (pa_cons (pe_ix (ix_listK (K := K) rfl) (pv 0) pe_int (fun _ _ => rfl)) pa_nil)) (pv 1)))
      (pss_cons (ps_asg (pe_op op_fdivW (pe_callTy cr_int (by rfl) T.f_int (by decide +kernel) (pa_cons (pe_ix (ix_listK (K := K) rfl) (pv 0) pe_int (fun _ _ => rfl)) pa_nil)) (pv 1)) (pg_sub (pv 0) pe_int set_list))
      (pss_one (ps_ret (pv 5))))) pss_nil)
      (pss_cons (ps_set (i := 2) sc__law_draw.nd rfl (.inl rfl) (pe_ix (ix_listK (K := K) rfl) (pv 0) pe_int (fun _ _ => rfl)))
      (pss_cons (ps_asg (pe_op op_add (pv 2) pe_int) (pg_sub (pv 0) pe_int set_list))
      (pss_cons (ps_set (i := 3) sc__law_draw.nd rfl (.inl rfl) (pe_op op_add (pe_op op_mul pe_int (pv 2)) pe_int))
      (pss_cut (ps_if (pt_cmpR (op_neDK (K := K) rfl hr.units) (pe_ix (ix_listK (K := K) rfl) (pv 0) pe_int (fun _ _ => rfl)) (pe_lst pa_nil) (nomark _))
      (pss_one (ps_set (i := 3) sc__law_draw.nd rfl (.inl rfl) (pe_ix (ix_listK (K := K) rfl) (pe_ix (ix_listK (K := K) rfl) (pv 0) pe_int (fun _ _ => rfl)) (pe_op op_mod (pe_callTy cr_int (by rfl) T.f_int (by decide +kernel) (pa_cons (pv 2) pa_nil)) (pe_callB (cr_len (K := K) rfl) (by rfl) T.f_len (by decide +kernel) (pa_cons (pe_ix (ix_listK (K := K) rfl) (pv 0) pe_int (fun _ _ => rfl)) pa_nil))) (fun _ _ => rfl)))) pss_nil)
      (pss_cut (ps_if (PW.pt (pw_and (pt_cmpR op_lt (pv 2) (pe_callB (cr_len (K := K) rfl) (by rfl) T.f_len (by decide +kernel) (pa_cons (pe_ix (ix_listK (K := K) rfl) (pv 0) pe_int (fun _ _ => rfl)) pa_nil)) (nomark _)) (pw_and1 (pt_cmpR op_ge (pe_callB cr_abs (by rfl) T.f_abs (by decide +kernel) (pa_cons (pv 3) pa_nil)) (pe_op (op_powK 1000000000000000000) pe_int pe_int) (nomark _)))))
      (pss_cons (ps_set (i := 6) sc__law_draw.nd rfl (.inl rfl) (pe_op op_add (pe_op op_mul pe_int (pe_op op_sub (pe_callB cr_abs (by rfl) T.f_abs (by decide +kernel) (pa_cons (pv 3) pa_nil)) (pe_op (op_powK 1000000000000000000) pe_int pe_int))) (pe_callTy cr_int (by rfl) T.f_int (by decide +kernel) (pa_cons (pe_cmpR op_lt (pv 3) pe_int (nomark _)) pa_nil))))
      (pss_cons (ps_asg (pe_op op_fdivW (pe_callTy cr_int (by rfl) T.f_int (by decide +kernel) (pa_cons (pv 6) pa_nil)) (pv 1)) (pg_sub (pv 0) pe_int set_list))
      (pss_one (ps_ret (pe_op op_mod (pe_callTy cr_int (by rfl) T.f_int (by decide +kernel) (pa_cons (pv 6) pa_nil)) (pv 1)))))) pss_nil)
      (pss_cons (ps_set (i := 4) sc__law_draw.nd rfl (.inl rfl) (pe_op op_mod (pe_callTy cr_int (by rfl) T.f_int (by decide +kernel) (pa_cons (pe_op op_pow (pe_op op_add (pe_op op_add (pe_op op_mod (pe_callTy cr_int (by rfl) T.f_int (by decide +kernel) (pa_cons (pv 3) pa_nil)) pe_int) (pe_op op_mul pe_int (pv 2))) pe_int) pe_int) pa_nil)) pe_int))
      (pss_cons (ps_set (i := 4) sc__law_draw.nd rfl (.inl rfl) (pe_op op_mod (pe_callTy cr_int (by rfl) T.f_int (by decide +kernel) (pa_cons (pe_op op_pow (pe_op op_add (pe_op op_add (pe_op op_mul (pv 4) (pe_op op_add (pe_op op_mul pe_int (pv 2)) pe_int)) (pe_op op_mul (pe_op op_mul pe_int (pv 2)) (pv 2))) pe_int) pe_int) pa_nil)) pe_int))
      (pss_one (ps_ret (pe_op op_mod (pe_callTy cr_int (by rfl) T.f_int (by decide +kernel) (pa_cons (pe_op op_fdivW (pv 4) pe_int) pa_nil)) (pv 1)))))))))))), ?_⟩
  obtain ⟨p, c, b, m, rfl, hm, hlog, ⟨ns, i, z, hp, hc, hl, hi, hb, hz⟩, q⟩ := h
  have ncp : c ≠ p := pen_ne hp hc
  have mm := fun x : Int => mod_lt x hm
  have hdiv : ∀ x, CDivW x m := fun _ => ⟨hm, hlog⟩
  symm_saturate
  refine ite2 (fun h1 => ?_) (fun h1 => ?_)
  · symm_saturate
    refine st_rI (hdiv _) ?_
    symm_saturate
    refine st_setL hp rfl fun H1 n1 => ?_
    symm_saturate
    exact q _ _ (mm z).1 (mm z).2 ⟨ns, i, z / m, by infer_instance, by infer_instance, hl, hi, by omega, Int.ediv_nonneg hz (by omega)⟩ n1.keep
  · have z0 : z = 0 := by
      have : ¬ (z > 0) := by simpa using h1
      omega
    subst z0
    symm_saturate
    refine st_setL hp rfl fun H2 n2 => ?_
    have hp2 : H2 p = some (.lst [.ref c, .int (i + 1), .int 0]) := n2.at_
    have hc2 : H2 c = some (.lst (ns.map V.int)) := by infer_instance
    have k2 := n2.keep
    clear n2
    symm_saturate
    refine ⟨fun σ' H' => ∃ cell : Int, σ' = [some (.ref p), some (.int m), some (.int i), some (.int cell), none, none, none] ∧ H' p = some (.lst [.ref c, .int (i + 1), .int 0]) ∧ H' c = some (.lst (ns.map V.int)) ∧ Keep H H' p, ?_, ?_⟩
    · -- if the cells are not empty
      symm_saturate
      refine st_newL (by (refine len_ok ?_; simp only [List.length_cons, List.length_nil, List.length_append, List.length_map, List.length_set, List.length_take, List.length_drop]; omega)) fun e H3 n3 => ?_
      have hp3 : H3 p = some (.lst [.ref c, .int (i + 1), .int 0]) := by infer_instance
      have hc3 : H3 c = some (.lst (ns.map V.int)) := by infer_instance
      have k3 : Keep H H3 p := fun a o h1 h2 => n3.up (k2 _ _ h1 h2)
      refine st_neD (.lst (SqL.of hc3) (dp_ints K _ ns)) (.lst (SqL.of n3.at_) .nil) (PySem.W.ke_shaped_ints ns) (by decide +kernel) ?_
      clear n3
      symm_saturate
      refine ite2 (fun h2 => ?_) (fun h2 => ?_)
      · have hne : 0 < ns.length := by
          rw [eqv_nil] at h2
          cases ns with
          | nil => cases h2
          | cons a r => exact Nat.succ_pos _
        have hlen : (0 : Int) < ((ns.map V.int).length : Int) := by rw [List.length_map]; omega
        have mi := mod_lt i hlen
        obtain ⟨v, ev, _⟩ := atI_int (ns := ns) (i := i % ((ns.map V.int).length : Int)) mi.1 (by have := mi.2; rw [List.length_map] at this ⊢; exact this)
        symm_saturate
        refine st_ixL hc3 ev ?_
        symm_saturate
        exact ⟨v, rfl, hp3, hc3, k3⟩
      · symm_saturate
        exact ⟨_, rfl, hp3, hc3, k3⟩
    · rintro σ' H' ⟨cell, rfl, hp3, hc3, k3⟩
      -- a great cell?
      refine ⟨fun σ1 H1 => σ1 = [some (.ref p), some (.int m), some (.int i), some (.int cell), none, none, none] ∧ H1 = H', ?_, ?_⟩
      · symm_saturate
        refine ite2 (fun _ => ?_) (fun _ => ?_)
        · symm_saturate
          refine ite2 (fun h3 => ?_) (fun _ => ?_)
          · have hab : 1000000000000000000 ≤ (if cell < 0 then -cell else cell) := by simpa using h3
            symm_saturate
            have hgr : 0 ≤ 2 * ((if cell < 0 then -cell else cell) - 1000000000000000000) + (if decide (cell < 0) = true then 1 else 0) := by
              have : (0 : Int) ≤ (if decide (cell < 0) = true then 1 else 0) := by split <;> decide
              omega
            refine st_rI (hdiv _) ?_
            symm_saturate
            refine st_setL hp3 rfl fun H4 n4 => ?_
            symm_saturate
            refine q _ _ (mm _).1 (mm _).2 ⟨ns, i + 1, _, n4.at_, by infer_instance, hl, by omega, by omega, Int.ediv_nonneg hgr (by omega)⟩ (k3.trans n4.keep)
          · symm_saturate
            exact ⟨rfl, rfl⟩
        · symm_saturate
          exact ⟨rfl, rfl⟩
      · rintro σ1 H1 ⟨rfl, rfl⟩
        have hi2 : i ≤ 1000000 := by omega
        -- the first mix
        symm_saturate
        refine st_rI ⟨by decide, by decide, ?_⟩ ?_
        · refine pow_lt ?_ ?_ <;> omega
        have hx := mod_lt ((cell % 2147483549 + 83311 * i + 113) ^ (3 : Int).toNat) (show (0 : Int) < 2147483587 by decide)
        -- the second one
        symm_saturate
        refine st_rI ⟨by decide, by decide, ?_⟩ ?_
        · exact mix_ok hx.1 (Int.lt_trans hx.2 (by decide)) hi hi2 ⟨by decide, by decide⟩ ⟨by decide, by decide⟩ ⟨by decide, by decide⟩
        symm_saturate
        exact q _ _ (mm _).1 (mm _).2 ⟨ns, i + 1, 0, hp3, hc3, hl, by omega, by omega, Int.le_refl _⟩ k3
abbrev N__law_pick : List Str := ["_law_pen_here", "_law_some"]
theorem sc__law_pick : FnScope N__law_pick ["_law_pen_here", "_law_some"] (defScope s__law_pick) := ⟨rfl, rfl, rfl, by decide +kernel, rfl, by decide +kernel, by decide +kernel⟩
theorem ok__law_pick (F : FnA K d__law_pick fd) (T : Tx K mg) (G__law_draw : PromO P w K mg base CX0 1 (gd "_law_draw" K) [] spDr) : FnOk P w K mg base CX0 2 (d__law_pick.adr K) fd ["_law_pen_here", "_law_some"] spPk := by
  refine fnO0 F sc__law_pick (fun vs H Q E h => by (repeat (first | (obtain ⟨rfl, _⟩ := h; rfl) | (obtain ⟨_, h⟩ := h)))) (fun cdv A outer s H vs Q E hr h => ?_)
  refine ⟨_, (pss_one (ps_ret (pe_ix (ix_listK (K := K) rfl) (pv 1) (pe_g (PromO.call G__law_draw (hr.mono (by decide)) pass0) (by rfl) T.g__law_draw T.k__law_draw (pa_cons (pv 0) (pa_cons (pe_callB (cr_len (K := K) rfl) (by rfl) T.f_len (by decide +kernel) (pa_cons (pv 1) pa_nil)) pa_nil))) (fun _ _ => rfl)))), ?_⟩
  obtain ⟨p, c, b, l, xs, rfl, hl, h0, h9, ne, pn, q⟩ := h
  symm_saturate
  refine st_draw pn (by omega) (log_of (by omega) (by omega)) fun d H' d0 d1 pn' kp => ?_
  obtain ⟨j, rfl⟩ : ∃ j : Nat, d = j := ⟨d.toNat, by omega⟩
  have hj : j < xs.length := by omega
  exact st_ixL (by infer_instance) (atI_nat (List.getElem?_eq_getElem hj)) (q j _ H' (List.getElem?_eq_getElem hj) pn' kp)
end
end Lw

set_option Elab.async false
set_option linter.all false
set_option maxRecDepth 100000
set_option maxHeartbeats 4000000
set_option pp.maxSteps 900
namespace Lw
open PySem PySem.Spec PyProof.Rows L2 Gh
local macro_rules | `(tactic| nofun) => `(tactic| (first | assumption | exact Ne.symm (by assumption) | (apply nw_pen'; (· assumption); (· assumption); (· ac_rfl)) | (apply Ne.symm; apply nw_pen'; (· assumption); (· assumption); (· ac_rfl)) | (apply nw_cell'; (· assumption); (· assumption); (· ac_rfl)) | (apply Ne.symm; apply nw_cell'; (· assumption); (· assumption); (· ac_rfl)) | (apply none_pen'; (· assumption); (· assumption); (· ac_rfl)) | (apply Ne.symm; apply none_pen'; (· assumption); (· assumption); (· ac_rfl)) | (apply none_cell'; (· assumption); (· assumption); (· ac_rfl)) | (apply Ne.symm; apply none_cell'; (· assumption); (· assumption); (· ac_rfl)) | (apply tup_pen'; (· assumption); (· assumption); (· ac_rfl)) | (apply Ne.symm; apply tup_pen'; (· assumption); (· assumption); (· ac_rfl)) | (apply tup_cell'; (· assumption); (· assumption); (· ac_rfl)) | (apply Ne.symm; apply tup_cell'; (· assumption); (· assumption); (· ac_rfl)) | (apply ins_pen'; (· assumption); (· assumption); (· ac_rfl)) | (apply Ne.symm; apply ins_pen'; (· assumption); (· assumption); (· ac_rfl)) | (apply ins_cell'; (· assumption); (· assumption); (· ac_rfl)) | (apply Ne.symm; apply ins_cell'; (· assumption); (· assumption); (· ac_rfl)) | (apply ins_lst; (· assumption); (· infer_instance)) | (apply Ne.symm; apply ins_lst; (· assumption); (· infer_instance)) | (apply ins_tup; (· assumption); (· infer_instance)) | (apply Ne.symm; apply ins_tup; (· assumption); (· infer_instance)) | (apply tup_lst; (· assumption); (· infer_instance)) | (apply Ne.symm; apply tup_lst; (· assumption); (· infer_instance)) | (apply nw_ne; (· assumption); (· infer_instance)) | (apply Ne.symm; apply nw_ne; (· assumption); (· infer_instance)) | (apply none_ne; (· assumption); (· infer_instance)) | (apply Ne.symm; apply none_ne; (· assumption); (· infer_instance))))
local macro_rules | `(tactic| ac_rfl) => `(tactic| ((repeat (first | assumption | (apply Pen.nw; (focus assumption)) | (apply Pen.same; (focus assumption)) | (apply Pen.mu; (focus assumption); (focus nofun); (focus nofun)) | (apply Pen.keep; (focus assumption); (focus nofun); (focus nofun)))); done))
local macro_rules | `(tactic| infer_instance) => `(tactic| ((repeat (first | assumption | (apply Nw.at_; assumption) | (apply Mu.at_; assumption) | (apply Nw.up; (focus assumption)) | (apply same_up; (focus assumption)) | (apply Mu.up; (focus assumption); (focus nofun)) | (apply keep_up; (focus assumption); (focus nofun)) | (apply keep2_up; (focus assumption); (focus nofun); (focus nofun)))); done))
local macro_rules | `(tactic| symm_saturate) => `(tactic| (repeat (first | with_reducible refine st_seq ?_ | with_reducible refine st_asg ?_ | with_reducible refine st_name ?_ | with_reducible refine st_ret ?_ | with_reducible refine st_drop ?_ | with_reducible refine st_ifS ?_ | with_reducible refine st_nx ?_ | with_reducible refine st_brk ?_ | with_reducible refine st_cnt ?_ | with_reducible refine st_c ?_ | with_reducible refine st_op ?_ | with_reducible refine st_un ?_ | with_reducible refine st_rI0 ?_ | with_reducible refine st_cons ?_ | with_reducible refine st_nil ?_ | with_reducible refine st_cl ?_ | with_reducible refine st_cb ?_ | with_reducible refine st_mt ?_ | with_reducible refine st_pr ?_ | with_reducible refine st_test ?_ | with_reducible refine st_ebl ?_ | with_reducible refine st_eint ?_ | with_reducible refine st_par ?_ | with_reducible refine st_par2 ?_ | with_reducible refine st_and ?_ | with_reducible refine st_or ?_ | with_reducible refine st_not ?_ | with_reducible refine st_andV ?_ | with_reducible refine st_orV ?_ | with_reducible refine st_notV ?_ | with_reducible refine st_ifE ?_ | with_reducible refine st_chain ?_ | with_reducible refine st_lst ?_ | with_reducible refine st_tup ?_ | with_reducible refine st_retN ?_ | with_reducible refine st_rU ?_ | with_reducible refine st_rAdd ?_ | with_reducible refine st_rSub ?_ | with_reducible refine st_isN ?_ | with_reducible refine st_notN ?_ | with_reducible refine st_sF ?_ | with_reducible refine st_int ?_ | with_reducible refine st_intB ?_ | with_reducible refine st_abs ?_ | with_reducible refine st_sl ?_ | with_reducible refine st_part ?_ | with_reducible refine st_nopart ?_ | with_reducible refine st_bm ?_ | with_reducible refine st_bm0 ?_ | with_reducible refine st_tyS ?_ | with_reducible refine st_gsub ?_ | with_reducible refine st_gcons ?_ | with_reducible refine st_gnil ?_ | with_reducible refine st_chain3 ?_ | with_reducible refine st_gsl ?_ | with_reducible refine st_clK ?_ | with_reducible refine st_mtK ?_ | with_reducible refine st_lcR1 ?_ | with_reducible refine st_lcR2 ?_ | with_reducible refine st_lcL ?_ | with_reducible refine st_lcT ?_ | with_reducible refine st_yes ?_ | with_reducible refine st_forR1 ?_ | with_reducible refine st_forR2 ?_ | with_reducible refine st_forL ?_ | with_reducible refine st_forT ?_ | with_reducible refine st_forE ?_ | with_reducible refine st_list ?_ | with_reducible refine st_itup ?_ | with_reducible refine st_tB ?_ | ((with_reducible apply st_var); exact rfl) | ((with_reducible apply st_aug); exact rfl) | ((with_reducible apply st_eq); exact rfl) | ((with_reducible apply st_ne); exact rfl) | ((with_reducible apply st_spK); (focus exact rfl); (focus exact rfl)) | ((with_reducible apply st_rI); (first | decide | (refine Or.inl ⟨?_, ?_⟩ <;> omega) | (refine Or.inr ⟨?_, ?_⟩ <;> omega) | (show (0 : Int) < _; omega) | exact ⟨by omega, log_of (by omega) (by omega)⟩ | exact ⟨by decide, by decide, by decide⟩)) | ((with_reducible apply st_powK); (focus exact ⟨by decide, by decide, by decide⟩); (focus decide)) | ((with_reducible apply st_eR1); (focus omega); (focus omega)) | ((with_reducible apply st_eR2); (focus omega)) | ((with_reducible apply st_if1); (first | with_reducible rfl | assumption | exact rfl | decide | (simp only [decide_eq_true_eq, decide_eq_false_iff_not, Bool.not_eq_true', Bool.not_eq_false', Bool.not_true, Bool.not_false, Bool.true_and, Bool.and_true, Bool.false_and, Bool.and_false, V.int.injEq, V.str.injEq, V.bl.injEq, V.ref.injEq, reduceCtorEq, not_true, not_false_eq_true, decide_true, decide_false, Int.not_lt, Int.not_le, ne_eq, List.length_cons, List.length_nil, List.length_map, List.length_append, List.length_set, List.length_take, List.length_drop] <;> omega))) | ((with_reducible apply st_if0); (first | with_reducible rfl | assumption | exact rfl | decide | (simp only [decide_eq_true_eq, decide_eq_false_iff_not, Bool.not_eq_true', Bool.not_eq_false', Bool.not_true, Bool.not_false, Bool.true_and, Bool.and_true, Bool.false_and, Bool.and_false, V.int.injEq, V.str.injEq, V.bl.injEq, V.ref.injEq, reduceCtorEq, not_true, not_false_eq_true, decide_true, decide_false, Int.not_lt, Int.not_le, ne_eq, List.length_cons, List.length_nil, List.length_map, List.length_append, List.length_set, List.length_take, List.length_drop] <;> omega))) | ((with_reducible apply st_lenL); (focus infer_instance)) | ((with_reducible apply st_lenT); (focus infer_instance)) | ((with_reducible apply st_tupT); (focus infer_instance)) | ((with_reducible apply st_tyL); (focus infer_instance)) | ((with_reducible apply st_elist); (focus infer_instance)) | ((with_reducible apply st_eitup); (focus infer_instance)) | ((with_reducible apply st_eE); (focus infer_instance)) | ((with_reducible apply st_epr); (focus infer_instance)) | ((with_reducible apply st_setO); (focus infer_instance)) | ((with_reducible apply st_ixO); (focus infer_instance)) | ((with_reducible apply st_ixLs); (focus assumption); (focus (first | exact rfl | exact atI_nat (by assumption)))) | ((with_reducible apply st_ixTs); (focus assumption); (focus (first | exact rfl | exact atI_nat (by assumption)))) | ((with_reducible apply st_fld); (focus infer_instance); (focus exact rfl)) | ((with_reducible apply st_const); (focus infer_instance); (focus exact rfl)) | ((with_reducible apply st_emt); (focus infer_instance); (focus exact rfl)) | ((with_reducible apply st_ixL); (focus infer_instance); (focus (first | exact rfl | exact atI_nat (by assumption)))) | ((with_reducible apply st_ixT); (focus infer_instance); (focus (first | exact rfl | exact atI_nat (by assumption)))) | ((with_reducible apply st_gtup); (focus infer_instance); (focus (first | exact rfl | exact atI_nat (by assumption)))))))
local macro_rules | `(tactic| subst_eqs) => `(tactic| (repeat (first | with_reducible refine st_seq ?_ | with_reducible refine st_asg ?_ | with_reducible refine st_name ?_ | with_reducible refine st_ret ?_ | with_reducible refine st_drop ?_ | with_reducible refine st_ifS ?_ | with_reducible refine st_nx ?_ | with_reducible refine st_brk ?_ | with_reducible refine st_cnt ?_ | with_reducible refine st_c ?_ | with_reducible refine st_op ?_ | with_reducible refine st_un ?_ | with_reducible refine st_rI0 ?_ | with_reducible refine st_cons ?_ | with_reducible refine st_nil ?_ | with_reducible refine st_cl ?_ | with_reducible refine st_cb ?_ | with_reducible refine st_mt ?_ | with_reducible refine st_pr ?_ | with_reducible refine st_test ?_ | with_reducible refine st_ebl ?_ | with_reducible refine st_eint ?_ | with_reducible refine st_par ?_ | with_reducible refine st_par2 ?_ | with_reducible refine st_and ?_ | with_reducible refine st_or ?_ | with_reducible refine st_not ?_ | with_reducible refine st_andV ?_ | with_reducible refine st_orV ?_ | with_reducible refine st_notV ?_ | with_reducible refine st_ifE ?_ | with_reducible refine st_chain ?_ | with_reducible refine st_lst ?_ | with_reducible refine st_tup ?_ | with_reducible refine st_retN ?_ | with_reducible refine st_rU ?_ | with_reducible refine st_rAdd ?_ | with_reducible refine st_rSub ?_ | with_reducible refine st_isN ?_ | with_reducible refine st_notN ?_ | with_reducible refine st_sF ?_ | with_reducible refine st_int ?_ | with_reducible refine st_intB ?_ | with_reducible refine st_abs ?_ | with_reducible refine st_sl ?_ | with_reducible refine st_part ?_ | with_reducible refine st_nopart ?_ | with_reducible refine st_bm ?_ | with_reducible refine st_bm0 ?_ | with_reducible refine st_tyS ?_ | with_reducible refine st_gsub ?_ | with_reducible refine st_gcons ?_ | with_reducible refine st_gnil ?_ | with_reducible refine st_chain3 ?_ | with_reducible refine st_gsl ?_ | with_reducible refine st_clK ?_ | with_reducible refine st_mtK ?_ | with_reducible refine st_lcR1 ?_ | with_reducible refine st_lcR2 ?_ | with_reducible refine st_lcL ?_ | with_reducible refine st_lcT ?_ | with_reducible refine st_yes ?_ | with_reducible refine st_forR1 ?_ | with_reducible refine st_forR2 ?_ | with_reducible refine st_forL ?_ | with_reducible refine st_forT ?_ | with_reducible refine st_forE ?_ | with_reducible refine st_list ?_ | with_reducible refine st_itup ?_ | with_reducible refine st_tB ?_ | ((with_reducible apply st_var); exact rfl) | ((with_reducible apply st_aug); exact rfl) | ((with_reducible apply st_eq); exact rfl) | ((with_reducible apply st_ne); exact rfl) | ((with_reducible apply st_spK); (focus exact rfl); (focus exact rfl)) | ((with_reducible apply st_rI); (first | decide | (refine Or.inl ⟨?_, ?_⟩ <;> omega) | (refine Or.inr ⟨?_, ?_⟩ <;> omega) | (show (0 : Int) < _; omega) | exact ⟨by omega, log_of (by omega) (by omega)⟩ | exact ⟨by decide, by decide, by decide⟩)) | ((with_reducible apply st_powK); (focus exact ⟨by decide, by decide, by decide⟩); (focus decide)) | ((with_reducible apply st_eR1); (focus omega); (focus omega)) | ((with_reducible apply st_eR2); (focus omega)) | ((with_reducible apply st_if1); (first | with_reducible rfl | assumption | exact rfl | decide | (simp only [decide_eq_true_eq, decide_eq_false_iff_not, Bool.not_eq_true', Bool.not_eq_false', Bool.not_true, Bool.not_false, Bool.true_and, Bool.and_true, Bool.false_and, Bool.and_false, V.int.injEq, V.str.injEq, V.bl.injEq, V.ref.injEq, reduceCtorEq, not_true, not_false_eq_true, decide_true, decide_false, Int.not_lt, Int.not_le, ne_eq, List.length_cons, List.length_nil, List.length_map, List.length_append, List.length_set, List.length_take, List.length_drop] <;> omega))) | ((with_reducible apply st_if0); (first | with_reducible rfl | assumption | exact rfl | decide | (simp only [decide_eq_true_eq, decide_eq_false_iff_not, Bool.not_eq_true', Bool.not_eq_false', Bool.not_true, Bool.not_false, Bool.true_and, Bool.and_true, Bool.false_and, Bool.and_false, V.int.injEq, V.str.injEq, V.bl.injEq, V.ref.injEq, reduceCtorEq, not_true, not_false_eq_true, decide_true, decide_false, Int.not_lt, Int.not_le, ne_eq, List.length_cons, List.length_nil, List.length_map, List.length_append, List.length_set, List.length_take, List.length_drop] <;> omega))) | ((with_reducible apply st_lenL); (focus infer_instance)) | ((with_reducible apply st_lenT); (focus infer_instance)) | ((with_reducible apply st_tupT); (focus infer_instance)) | ((with_reducible apply st_tyL); (focus infer_instance)) | ((with_reducible apply st_elist); (focus infer_instance)) | ((with_reducible apply st_eitup); (focus infer_instance)) | ((with_reducible apply st_eE); (focus infer_instance)) | ((with_reducible apply st_epr); (focus infer_instance)) | ((with_reducible apply st_setO); (focus infer_instance)) | ((with_reducible apply st_ixO); (focus infer_instance)) | ((with_reducible apply st_ixLs); (focus assumption); (focus (first | exact rfl | exact atI_nat (by assumption)))) | ((with_reducible apply st_ixTs); (focus assumption); (focus (first | exact rfl | exact atI_nat (by assumption)))) | ((with_reducible apply st_fld); (focus infer_instance); (focus exact rfl)) | ((with_reducible apply st_const); (focus infer_instance); (focus exact rfl)) | ((with_reducible apply st_emt); (focus infer_instance); (focus exact rfl)) | ((with_reducible apply st_ixL); (focus infer_instance); (focus (first | exact rfl | exact atI_nat (by assumption)))) | ((with_reducible apply st_ixT); (focus infer_instance); (focus (first | exact rfl | exact atI_nat (by assumption)))) | ((with_reducible apply st_gtup); (focus infer_instance); (focus (first | exact rfl | exact atI_nat (by assumption)))) | ((with_reducible apply st_newL); (focus (refine len_ok ?_; simp only [List.length_cons, List.length_nil, List.length_append, List.length_map, List.length_set, List.length_take, List.length_drop]; omega)); intro l Hn nw) | ((with_reducible apply st_newT); (focus (refine len_ok ?_; simp only [List.length_cons, List.length_nil, List.length_append, List.length_map, List.length_set, List.length_take, List.length_drop]; omega)); intro l Hn nw) | ((with_reducible apply st_listL); (focus infer_instance); intro l Hn nw) | ((with_reducible apply st_listT); (focus infer_instance); intro l Hn nw) | ((with_reducible apply st_tupL); (focus infer_instance); intro l Hn nw) | ((with_reducible apply st_slL); (focus infer_instance); intro l Hn nw) | ((with_reducible apply st_cat); (focus infer_instance); (focus infer_instance); (focus (refine len_ok ?_; simp only [List.length_cons, List.length_nil, List.length_append, List.length_map, List.length_set, List.length_take, List.length_drop]; omega)); intro l Hn nw))))
/-- enumerate over a list that stays -/
theorem for_enumL {K : PySem.W.Frag} {a : Addr} {xs : List V} {g : TG} {tb : TS} {D : Ends} {σ : L2.St} {H : Hp} (Pv : Nat → L2.St → Hp → Prop) (h0 : Pv 0 σ H) (hl : ∀ i σ H, i ≤ xs.length → Pv i σ H → SqL K H a xs)
    (hs : ∀ i x σ H T, xs[i]? = some x → Pv i σ H → H T = none → g (.ref T) σ (upd H T (.tup [.int (i : Nat), x])) fun σ2 H2 => tb { D with nx := Pv (i + 1), ct := Pv (i + 1), bk := D.nx } σ2 H2) (hd : ∀ σ H, Pv xs.length σ H → D.nx σ H) :
    ∃ W : Nat → Nat → L2.St → Hp → Prop, (∃ m, W 0 m σ H) ∧ ∀ i m σ H, W i m σ H →
      ((Ite K a).stop i H ∧ D.nx σ H) ∨ ((Ite K a).go i H ∧ ∃ N : L2.St → Hp → Prop, (∀ σ' H', N σ' H' → ∃ m', m' < m ∧ W (i + 1) m' σ' H') ∧ ∀ x H', (Ite K a).yld i H x H' → g x σ H' fun σ2 H2 => tb { D with nx := N, ct := N, bk := D.nx } σ2 H2) := by
  refine ⟨fun i m σ H => m = xs.length - i ∧ i ≤ xs.length ∧ Pv i σ H, ⟨xs.length, by simp, Nat.zero_le _, h0⟩, ?_⟩
  rintro i m σ H ⟨rfl, hi, p⟩
  have q := hl i σ H hi p
  by_cases hlt : i < xs.length
  · refine .inr ⟨⟨xs, xs[i], q, by simp [hlt]⟩, Pv (i + 1), fun σ' H' p' => ⟨xs.length - (i + 1), by omega, rfl, hlt, p'⟩, fun x H' y => ?_⟩
    obtain ⟨T, x0, rfl, nT, rfl, y⟩ := y
    exact hs i x0 σ H T (y xs q) p nT
  · have e : i = xs.length := by omega
    subst e
    exact .inl ⟨⟨xs, q, Nat.le_refl _⟩, hd σ H p⟩
section
variable {P : Program} {w : World} {K : PySem.W.Frag} {mg : Str → Option Value} {base : Heap} {f : Addr} {fd : FuncData}
/-- a list or a tuple of items -/
def itemsOk (ns : List Int) : Prop := ∀ n ∈ ns, isItem n
abbrev LT (H : Hp) (a : Addr) (xs : List V) : Prop := H a = some (.lst xs) ∨ H a = some (.tup xs)
theorem LT.same {H H' : Hp} {a : Addr} {xs : List V} (s : L2.Same H H') (h : LT H a xs) : LT H' a xs := h.elim (fun h => .inl (s _ _ h)) fun h => .inr (s _ _ h)
theorem LT.len {H : Hp} {a : Addr} {xs : List V} {Q : VK} (h : LT H a xs) (q : Q (.int xs.length) H) : rLn K [.ref a] H Q := h.elim (fun h => st_lenL h q) fun h => st_lenT h q
theorem LT.list {H : Hp} {a : Addr} {xs : List V} {Q : VK} (h : LT H a xs) (q : ∀ l H', Nw H H' l (.lst xs) → Q (.ref l) H') : rListOf K [.ref a] H Q := h.elim (fun h => st_listL h q) fun h => st_listT h q
def spNeedItems (K : PySem.W.Frag) : Sp := fun vs H Q _ => ∃ (a : Addr) (ns : List Int) (m : V), vs = [.ref a, m] ∧ LT H a (ns.map V.int) ∧ itemsOk ns ∧ (m = .non ∧ 1 ≤ ns.length ∧ ns.length ≤ 2000 ∨ m = .int ns.length) ∧
  ∀ H', L2.Same H H' → Q .non H'
theorem st_needItems {H : Hp} {Q : VK} {E : XK} {a : Addr} {ns : List Int} {m : V} (h1 : LT H a (ns.map V.int)) (h2 : itemsOk ns) (h3 : m = .non ∧ 1 ≤ ns.length ∧ ns.length ≤ 2000 ∨ m = .int ns.length) (q : ∀ H', L2.Same H H' → Q .non H') : rSp (spNeedItems K) [] E [.ref a, m] H Q := ⟨a, ns, m, rfl, h1, h2, h3, q⟩
theorem isi_lt {H : Hp} {a tp : Addr} {xs : List V} {Q : VK} (h : LT H a xs) (ht : H tp = some (.tup [.ty "list", .ty "tuple"])) (q : Q (.bl true) H) : rIsiT K [.ref a, .ref tp] H Q := by
  rcases h with h | h
  · exact ⟨_, tp, _, _, _, true, rfl, ht, .cons (.ty _) (.cons (.ty _) .nil), .base (.lst h), kitAny_cons (b := true) (kit_ty (by decide +kernel)) (fun z => by cases z) fun _ => rfl, q⟩
  · exact ⟨_, tp, _, _, _, true, rfl, ht, .cons (.ty _) (.cons (.ty _) .nil), .base (.tup h), kitAny_cons (b := false) (kit_ty (by decide +kernel)) (fun _ => kitAny_cons (b := true) (kit_ty (by decide +kernel)) (fun z => by cases z) fun _ => rfl) (fun z => by cases z), q⟩
abbrev N_need_items : List Str := ["values", "many", "at", "value"]
theorem sc_need_items : FnScope N_need_items ["values", "many"] (defScope s_need_items) := ⟨rfl, rfl, rfl, by decide +kernel, rfl, by decide +kernel, by decide +kernel⟩
theorem ok_need_items (F : FnA K d_need_items fd) (T : Tx K mg) (G_is_item : PromO P w K mg base CX0 2 (gd "is_item" K) [] spItem) : FnOk P w K mg base CX0 3 (d_need_items.adr K) fd ["values", "many"] (spNeedItems K) := by
  refine fnO0 F sc_need_items (fun vs H Q E h => by (repeat (first | (obtain ⟨rfl, _⟩ := h; rfl) | (obtain ⟨_, h⟩ := h)))) (fun cdv A outer s H vs Q E hr h => ?_)
  refine ⟨_, (pss_cons (ps_if (pt_not (pt_val (pe_callB (call_isiTK (K := K) rfl) (by rfl) T.f_isinstance (by decide +kernel) (pa_cons (pv 0) (pa_cons (pe_tup (pa_cons (pe_bltn (v := .ty "list") (by rfl) T.f_list (by decide +kernel) rfl) (pa_cons (pe_bltn (v := .ty "tuple") (by rfl) T.f_tuple (by decide +kernel) rfl) pa_nil))) pa_nil)))))
      (pss_one ps_never) pss_nil)
      (pss_cut (ps_if (PW.pt (pw_or (PW.pt (pw_and (pt_cmpR or_notN (pv 1) pe_non (nomark _)) (pw_and1 (pt_cmpR op_ne (pe_callB (cr_len (K := K) rfl) (by rfl) T.f_len (by decide +kernel) (pa_cons (pv 0) pa_nil)) (pv 1) (nomark _))))) (pw_or1 (PW.pt (pw_and (pt_not (pt_chain op_le op_le pe_int (pe_callB (cr_len (K := K) rfl) (by rfl) T.f_len (by decide +kernel) (pa_cons (pv 0) pa_nil)) (pe_gi T.m_MOST_ITEMS (by rfl)))) (pw_and1 (pt_cmpR or_isN (pv 1) pe_non (nomark _))))))))
      (pss_one ps_never) pss_nil)
      (pss_one (ps_for PassesOwn.never rfl (PI.or (pi_enum (by rfl) T.f_enumerate (pa_cons (pv 0) pa_nil)) (pi_enumT (by rfl) T.f_enumerate (pa_cons (pv 0) pa_nil))) (pg_tup rfl (pgs_cons (pg_name (i := 2) sc_need_items.nd rfl (.inl rfl)) (pgs_cons (pg_name (i := 3) sc_need_items.nd rfl (.inl rfl)) pgs_nil)))
      (pss_one (ps_if (pt_not (pt_val (pe_g (PromO.call G_is_item (hr.mono (by decide)) pass0) (by rfl) T.g_is_item T.k_is_item (pa_cons (pv 3) pa_nil))))
      (pss_one ps_never) pss_nil)))))), ?_⟩
  obtain ⟨a, ns, m, rfl, ha, hit, hm, q⟩ := h
  symm_saturate
  refine st_newT (by (refine len_ok ?_; simp only [List.length_cons, List.length_nil, List.length_append, List.length_map, List.length_set, List.length_take, List.length_drop]; omega)) fun tp H1 n1 => ?_
  symm_saturate
  have ha1 := LT.same n1.same ha
  refine isi_lt ha1 n1.at_ ?_
  symm_saturate
  have hl : (ns.map V.int).length = ns.length := List.length_map ..
  refine ⟨fun σ' H' => σ' = [some (.ref a), some m, none, none] ∧ H' = H1, ?_, ?_⟩
  · rcases hm with ⟨rfl, l1, l2⟩ | rfl
    · symm_saturate
      refine LT.len ha1 ?_
      symm_saturate
      exact ⟨rfl, rfl⟩
    · symm_saturate
      refine LT.len ha1 ?_
      rw [hl]
      symm_saturate
      refine LT.len ha1 ?_
      rw [hl]
      symm_saturate
      refine ite2 (fun h1 => ?_) (fun h1 => ?_)
      · symm_saturate
        refine ite2 (fun h2 => ?_) (fun h2 => ?_)
        · symm_saturate
          exact ⟨rfl, rfl⟩
        · symm_saturate
          exact ⟨rfl, rfl⟩
      · symm_saturate
        exact ⟨rfl, rfl⟩
  · rintro σ' H' ⟨rfl, rfl⟩
    rcases ha1 with h | h
    · refine .inl ⟨_, rfl, a, _, rfl, SqL.of h, for_enumL (xs := ns.map V.int) (fun i σ H2 => ∃ y z, σ = [some (.ref a), some m, y, z] ∧ L2.Same H' H2) ⟨none, none, rfl, fun _ _ e => e⟩ (fun i σ H2 _ hh => ?_) (fun i x σ H2 T hx hh nT => ?_) (fun σ H2 hh => ?_)⟩
      · obtain ⟨y, z, _, s2⟩ := hh
        exact SqL.of (s2 _ _ h)
      · obtain ⟨y, z, rfl, s2⟩ := hh
        have n3 := nw_upd (o := .tup [.int (i : Nat), x]) nT
        generalize upd H2 T (.tup [.int (i : Nat), x]) = H3 at n3 ⊢
        obtain ⟨n, hn, rfl⟩ : ∃ n, n ∈ ns ∧ x = .int n := by
          obtain ⟨n, hn, e⟩ := List.mem_map.mp (List.mem_of_getElem? hx)
          exact ⟨n, hn, e.symm⟩
        symm_saturate
        refine st_itemY (hit n hn) ?_
        symm_saturate
        exact ⟨_, _, rfl, s2.trans n3.same⟩
      · obtain ⟨y, z, rfl, s2⟩ := hh
        exact q _ (n1.same.trans s2)
    · refine .inr ⟨_, rfl, a, _, rfl, SqT.of h, for_enumT (xs := ns.map V.int) (fun i σ H2 => ∃ y z, σ = [some (.ref a), some m, y, z] ∧ L2.Same H' H2) ⟨none, none, rfl, fun _ _ e => e⟩ (fun i σ H2 _ hh => ?_) (fun i x σ H2 T hx hh nT => ?_) (fun σ H2 hh => ?_)⟩
      · obtain ⟨y, z, _, s2⟩ := hh
        exact SqT.of (s2 _ _ h)
      · obtain ⟨y, z, rfl, s2⟩ := hh
        have n3 := nw_upd (o := .tup [.int (i : Nat), x]) nT
        generalize upd H2 T (.tup [.int (i : Nat), x]) = H3 at n3 ⊢
        obtain ⟨n, hn, rfl⟩ : ∃ n, n ∈ ns ∧ x = .int n := by
          obtain ⟨n, hn, e⟩ := List.mem_map.mp (List.mem_of_getElem? hx)
          exact ⟨n, hn, e.symm⟩
        symm_saturate
        refine st_itemY (hit n hn) ?_
        symm_saturate
        exact ⟨_, _, rfl, s2.trans n3.same⟩
      · obtain ⟨y, z, rfl, s2⟩ := hh
        exact q _ (n1.same.trans s2)
/-! ### rows -/
/-- a row's object, its list at t -/
abbrev Rob (C : Addr) (H : Hp) (a dx t : Addr) : Prop := H a = some (.ins C dx [("own_items", .ref t)])
def spInit (C : Addr) : Sp := fun vs H Q _ => ∃ (x dx a : Addr) (ns : List Int), vs = [.ref x, .ref a] ∧ H x = some (.ins C dx []) ∧ LT H a (ns.map V.int) ∧ itemsOk ns ∧ 1 ≤ ns.length ∧ ns.length ≤ 2000 ∧
  ∀ t H', H t = none → Keep H H' x → Rob C H' x dx t → H' t = some (.lst (ns.map V.int)) → Q .non H'
abbrev N_Row___init__ : List Str := ["self", "items"]
theorem sc_Row___init__ : FnScope N_Row___init__ ["self", "items"] (defScope s_Row___init__) := ⟨rfl, rfl, rfl, by decide +kernel, rfl, by decide +kernel, by decide +kernel⟩
theorem ok_Row___init__ (F : FnA K d_Row___init__ fd) (T : Tx K mg) (G_need_items : PromO P w K mg base CX0 3 (gd "need_items" K) [] (spNeedItems K)) : FnOk P w K mg base CX0 4 (d_Row___init__.adr K) fd ["self", "items"] (spInit (gd "Row" K)) := by
  refine fnO0 F sc_Row___init__ (fun vs H Q E h => by (repeat (first | (obtain ⟨rfl, _⟩ := h; rfl) | (obtain ⟨_, h⟩ := h)))) (fun cdv A outer s H vs Q E hr h => ?_)
  refine ⟨_, (pss_cons (ps_expr (pe_g (PromO.call G_need_items (hr.mono (by decide)) pass0) (by rfl) T.g_need_items T.k_need_items (pa_cons (pv 1) (pa_cons pe_non pa_nil))))
      (pss_one (ps_f (pv 0) (pe_callTy (cr_listOf (K := K) rfl) (by rfl) T.f_list (by decide +kernel) (pa_cons (pv 1) pa_nil)) T.cl_Row T.n_Row_own_items))), ?_⟩
  obtain ⟨x, dx, a, ns, rfl, hx, ha, hit, l1, l2, q⟩ := h
  symm_saturate
  refine st_needItems ha hit (.inl ⟨rfl, l1, l2⟩) fun H1 s1 => ?_
  symm_saturate
  refine LT.list (LT.same s1 ha) fun t H2 n2 => ?_
  symm_saturate
  refine st_setF (by infer_instance) (by show 0 < 1000; decide) fun H3 n3 => ?_
  refine q t H3 (s1.free n2.no) (fun b o e ne => n3.up ne (n2.up (s1 _ _ e))) n3.at_ ?_
  exact n3.up (n2.ne (s1 _ _ hx)) n2.at_
theorem st_mkRow {C : Addr} {H : Hp} {Q : VK} {E : XK} {a : Addr} {ns : List Int} (ha : LT H a (ns.map V.int)) (hit : itemsOk ns) (l1 : 1 ≤ ns.length) (l2 : ns.length ≤ 2000) (q : ∀ x dx t H', H x = none → H t = none → x ≠ t → L2.Same H H' → Rob C H' x dx t → H' t = some (.lst (ns.map V.int)) → Q (.ref x) H') : rMk C (spInit C) [] E [.ref a] H Q := by
  unfold rMk
  intro x dx nx ndx ne
  have s1 : L2.Same H (upd (upd H dx (.own x)) x (.ins C dx [])) := fun a u e => by
    rw [upd_ne (ne_of_none e nx), upd_ne (ne_of_none e ndx)]
    exact e
  refine ⟨x, dx, a, ns, rfl, upd_same, LT.same s1 ha, hit, l1, l2, fun t H' nt k e1 e2 => ⟨rfl, q x dx t H' nx (s1.free nt) (fun z => ?_) (fun b o e => k _ _ (s1 _ _ e) (ne_of_none e nx)) e1 e2⟩⟩
  subst z
  cases (show some _ = some _ from e1.symm.trans e2)
def spContents (C : Addr) : Sp := fun vs H Q _ => ∃ (a dx t : Addr) (ns : List Int), vs = [.ref a] ∧ Rob C H a dx t ∧ H t = some (.lst (ns.map V.int)) ∧ ∀ l H', Nw H H' l (.tup (ns.map V.int)) → Q (.ref l) H'
abbrev N_Row_contents : List Str := ["self"]
theorem sc_Row_contents : FnScope N_Row_contents ["self"] (defScope s_Row_contents) := ⟨rfl, rfl, rfl, by decide +kernel, rfl, by decide +kernel, by decide +kernel⟩
theorem ok_Row_contents (F : FnA K d_Row_contents fd) (T : Tx K mg)  : FnOk P w K mg base CX0 1 (d_Row_contents.adr K) fd ["self"] (spContents (gd "Row" K)) := by
  refine fnO0 F sc_Row_contents (fun vs H Q E h => by (repeat (first | (obtain ⟨rfl, _⟩ := h; rfl) | (obtain ⟨_, h⟩ := h)))) (fun cdv A outer s H vs Q E hr h => ?_)
  refine ⟨_, (pss_one (ps_ret (pe_callTy (cr_tupOf (K := K) rfl) (by rfl) T.f_tuple (by decide +kernel) (pa_cons (pe_f (pv 0) T.cl_Row T.n_Row_own_items) pa_nil)))), ?_⟩
  obtain ⟨a, dx, t, ns, rfl, h1, h2, q⟩ := h
  symm_saturate
  exact st_tupL h2 q
def spNeedPlace (C : Addr) : Sp := fun vs H Q _ => ∃ (a dx t : Addr) (ns : List Int) (i : Int), vs = [.ref a, .int i] ∧ Rob C H a dx t ∧ H t = some (.lst (ns.map V.int)) ∧ 0 ≤ i ∧ i < ns.length ∧ Q .non H
abbrev N_Row_need_place : List Str := ["self", "value"]
theorem sc_Row_need_place : FnScope N_Row_need_place ["self", "value"] (defScope s_Row_need_place) := ⟨rfl, rfl, rfl, by decide +kernel, rfl, by decide +kernel, by decide +kernel⟩
theorem ok_Row_need_place (F : FnA K d_Row_need_place fd) (T : Tx K mg) (G_is_within : PromO P w K mg base CX0 2 (gd "is_within" K) [] spWithin) : FnOk P w K mg base CX0 3 (d_Row_need_place.adr K) fd ["self", "value"] (spNeedPlace (gd "Row" K)) := by
  refine fnO0 F sc_Row_need_place (fun vs H Q E h => by (repeat (first | (obtain ⟨rfl, _⟩ := h; rfl) | (obtain ⟨_, h⟩ := h)))) (fun cdv A outer s H vs Q E hr h => ?_)
  refine ⟨_, (pss_one (ps_if (pt_not (pt_val (pe_g (PromO.call G_is_within (hr.mono (by decide)) pass0) (by rfl) T.g_is_within T.k_is_within (pa_cons (pv 1) (pa_cons pe_int (pa_cons (pe_op op_sub (pe_callB (cr_len (K := K) rfl) (by rfl) T.f_len (by decide +kernel) (pa_cons (pe_f (pv 0) T.cl_Row T.n_Row_own_items) pa_nil)) pe_int) pa_nil))))))
      (pss_one ps_never) pss_nil)), ?_⟩
  obtain ⟨a, dx, t, ns, i, rfl, h1, h2, i0, i1, q⟩ := h
  have hl : (ns.map V.int).length = ns.length := List.length_map ..
  symm_saturate
  refine st_withinY ⟨by omega, by omega⟩ ?_
  symm_saturate
  exact q
def spNeedStretch (C : Addr) : Sp := fun vs H Q _ => ∃ (a dx t k : Addr) (ns : List Int) (i j : Int), vs = [.ref a, .ref k] ∧ Rob C H a dx t ∧ H t = some (.lst (ns.map V.int)) ∧ H k = some (.tup [.int i, .int j]) ∧ 0 ≤ i ∧ i ≤ j ∧ j ≤ ns.length ∧ Q .non H
abbrev N_Row_need_stretch : List Str := ["self", "value"]
theorem sc_Row_need_stretch : FnScope N_Row_need_stretch ["self", "value"] (defScope s_Row_need_stretch) := ⟨rfl, rfl, rfl, by decide +kernel, rfl, by decide +kernel, by decide +kernel⟩
theorem ok_Row_need_stretch (F : FnA K d_Row_need_stretch fd) (T : Tx K mg) (G_is_integer : PromO P w K mg base CX0 1 (gd "is_integer" K) [] spInteger) : FnOk P w K mg base CX0 2 (d_Row_need_stretch.adr K) fd ["self", "value"] (spNeedStretch (gd "Row" K)) := by
  refine fnO0 F sc_Row_need_stretch (fun vs H Q E h => by (repeat (first | (obtain ⟨rfl, _⟩ := h; rfl) | (obtain ⟨_, h⟩ := h)))) (fun cdv A outer s H vs Q E hr h => ?_)
  refine ⟨_, (pss_cut (ps_if (PW.pt (pw_or (pt_cmpR op_ne (pe_callB (cr_len (K := K) rfl) (by rfl) T.f_len (by decide +kernel) (pa_cons (pv 1) pa_nil)) pe_int (nomark _)) (pw_or (pt_not (pt_val (pe_g (PromO.call G_is_integer (hr.mono (by decide)) pass0) (by rfl) T.g_is_integer T.k_is_integer (pa_cons (pe_ix (ix_tupK (K := K) rfl) (pv 1) pe_int (fun _ _ => rfl)) pa_nil)))) (pw_or1 (pt_not (pt_val (pe_g (PromO.call G_is_integer (hr.mono (by decide)) pass0) (by rfl) T.g_is_integer T.k_is_integer (pa_cons (pe_ix (ix_tupK (K := K) rfl) (pv 1) pe_int (fun _ _ => rfl)) pa_nil))))))))
      (pss_one ps_never) pss_nil)
      (pss_one (ps_if (pt_not (pt_chain3 op_le op_le op_le pe_int (pe_ix (ix_tupK (K := K) rfl) (pv 1) pe_int (fun _ _ => rfl)) (pe_ix (ix_tupK (K := K) rfl) (pv 1) pe_int (fun _ _ => rfl)) (pe_callB (cr_len (K := K) rfl) (by rfl) T.f_len (by decide +kernel) (pa_cons (pe_f (pv 0) T.cl_Row T.n_Row_own_items) pa_nil))))
      (pss_one ps_never) pss_nil))), ?_⟩
  obtain ⟨a, dx, t, k, ns, i, j, rfl, h1, h2, h3, i0, i1, i2, q⟩ := h
  have hl : (ns.map V.int).length = ns.length := List.length_map ..
  refine ⟨fun σ' H' => σ' = [some (.ref a), some (.ref k)] ∧ H' = H, ?_, ?_⟩
  · symm_saturate
    refine st_integer (.int _) ?_
    symm_saturate
    refine st_integer (.int _) ?_
    symm_saturate
    exact ⟨rfl, rfl⟩
  · rintro σ' H' ⟨rfl, rfl⟩
    symm_saturate
    exact q
def spExchange (C : Addr) : Sp := fun vs H Q _ => ∃ (a dx t : Addr) (ns : List Int) (i : Nat) (x y : Int), vs = [.ref a, .int i] ∧ Rob C H a dx t ∧ H t = some (.lst (ns.map V.int)) ∧ ns[i]? = some x ∧ ns[i + 1]? = some y ∧ ∀ H', Mu H H' t (.lst (((ns.set i y).set (i + 1) x).map V.int)) → Q .non H'
theorem map_at {ns : List Int} {i : Nat} {x : Int} (h : ns[i]? = some x) : (ns.map V.int)[i]? = some (.int x) := by
  rw [List.getElem?_map, h] <;> rfl
theorem map_set (ns : List Int) (i : Nat) (x : Int) : (ns.map V.int).set i (.int x) = (ns.set i x).map V.int := by
  rw [List.map_set]
theorem at_lt {α : Type} {ns : List α} {i : Nat} {x : α} (h : ns[i]? = some x) : i < ns.length := by
  rw [List.getElem?_eq_some_iff] at h
  exact h.1
theorem ixN_nat {n i : Nat} (h : i < n) : ixN n (i : Int) = some i := by
  unfold ixN
  rw [if_pos (by omega), if_pos (by omega)]
  rfl
abbrev N_Row_exchange : List Str := ["self", "p"]
theorem sc_Row_exchange : FnScope N_Row_exchange ["self", "p"] (defScope s_Row_exchange) := ⟨rfl, rfl, rfl, by decide +kernel, rfl, by decide +kernel, by decide +kernel⟩
theorem ok_Row_exchange (F : FnA K d_Row_exchange fd) (T : Tx K mg) (G_is_within : PromO P w K mg base CX0 2 (gd "is_within" K) [] spWithin) : FnOk P w K mg base CX0 3 (d_Row_exchange.adr K) fd ["self", "p"] (spExchange (gd "Row" K)) := by
  refine fnO0 F sc_Row_exchange (fun vs H Q E h => by (repeat (first | (obtain ⟨rfl, _⟩ := h; rfl) | (obtain ⟨_, h⟩ := h)))) (fun cdv A outer s H vs Q E hr h => ?_)
  refine ⟨_, (pss_cons (ps_if (pt_not (pt_val (pe_g (PromO.call G_is_within (hr.mono (by decide)) pass0) (by rfl) T.g_is_within T.k_is_within (pa_cons (pv 1) (pa_cons pe_int (pa_cons (pe_op op_sub (pe_callB (cr_len (K := K) rfl) (by rfl) T.f_len (by decide +kernel) (pa_cons (pe_f (pv 0) T.cl_Row T.n_Row_own_items) pa_nil)) pe_int) pa_nil))))))
      (pss_one ps_never) pss_nil)
      (pss_one (ps_asg (pe_tup (pa_cons (pe_ix (ix_listK (K := K) rfl) (pe_f (pv 0) T.cl_Row T.n_Row_own_items) (pe_op op_add (pv 1) pe_int) (fun _ _ => rfl)) (pa_cons (pe_ix (ix_listK (K := K) rfl) (pe_f (pv 0) T.cl_Row T.n_Row_own_items) (pv 1) (fun _ _ => rfl)) pa_nil))) (pg_tup rfl (pgs_cons (pg_sub (pe_f (pv 0) T.cl_Row T.n_Row_own_items) (pv 1) set_list) (pgs_cons (pg_sub (pe_f (pv 0) T.cl_Row T.n_Row_own_items) (pe_op op_add (pv 1) pe_int) set_list) pgs_nil)))))), ?_⟩
  obtain ⟨a, dx, t, ns, i, x, y, rfl, h1, h2, h3, h4, q⟩ := h
  have hl : (ns.map V.int).length = ns.length := List.length_map ..
  have l4 := at_lt h4
  symm_saturate
  refine st_withinY ⟨by omega, by omega⟩ ?_
  symm_saturate
  refine st_ixL h2 (v := .int y) (by rw [show ((i : Int) + 1) = ((i + 1 : Nat) : Int) by omega]; exact atI_nat (map_at h4)) ?_
  symm_saturate
  refine st_ixL h2 (v := .int x) (atI_nat (map_at h3)) ?_
  symm_saturate
  refine st_newT (by (refine len_ok ?_; simp only [List.length_cons, List.length_nil, List.length_append, List.length_map, List.length_set, List.length_take, List.length_drop]; omega)) fun tp H1 n1 => ?_
  symm_saturate
  refine st_setL (by infer_instance) (ixN_nat (by omega)) fun H2 n2 => ?_
  symm_saturate
  refine st_setL (by infer_instance) (by rw [show ((i : Int) + 1) = ((i + 1 : Nat) : Int) by omega]; exact ixN_nat (by rw [List.length_set]; omega)) fun H3 n3 => ?_
  symm_saturate
  rw [map_set, map_set] at n3
  refine q _ ⟨fun b o e ne => ?_, n3.at_⟩
  exact n3.up ne (n2.up ne (n1.up e))
theorem isi_int {H : Hp} {i : Int} {Q : VK} (q : Q (.bl false) H) : rIsi K [.int i, .ty "tuple"] H Q := st_isi (.ty _) (.base (.int i)) (kit_ty (by decide +kernel)) q
theorem isi_tup {H : Hp} {a : Addr} {xs : List V} {Q : VK} (h : H a = some (.tup xs)) (q : Q (.bl true) H) : rIsi K [.ref a, .ty "tuple"] H Q := st_isi (.ty _) (.base (.tup h)) (kit_ty (by decide +kernel)) q
theorem st_needPlace {C : Addr} {H : Hp} {Q : VK} {E : XK} {a dx t : Addr} {ns : List Int} {i : Int} (h1 : Rob C H a dx t) (h2 : H t = some (.lst (ns.map V.int))) (h3 : 0 ≤ i) (h4 : i < ns.length) (q : Q .non H) : rSp (spNeedPlace C) [] E [.ref a, .int i] H Q := ⟨a, dx, t, ns, i, rfl, h1, h2, h3, h4, q⟩
theorem st_needStretch {C : Addr} {H : Hp} {Q : VK} {E : XK} {a dx t k : Addr} {ns : List Int} {i j : Int} (h1 : Rob C H a dx t) (h2 : H t = some (.lst (ns.map V.int))) (h3 : H k = some (.tup [.int i, .int j])) (i0 : 0 ≤ i) (i1 : i ≤ j) (i2 : j ≤ ns.length) (q : Q .non H) : rSp (spNeedStretch C) [] E [.ref a, .ref k] H Q := ⟨a, dx, t, k, ns, i, j, rfl, h1, h2, h3, i0, i1, i2, q⟩
/-- a stretch of a list -/
def stretch (ns : List Int) (i j : Nat) : List Int := (ns.drop i).take (j - i)
theorem cut_map (ns : List Int) {i j : Nat} (h1 : i ≤ j) (h2 : j ≤ ns.length) : cutV (ns.map V.int) (some i) (some j) = (stretch ns i j).map V.int := by
  unfold cutV stretch
  rw [HT.sIx_nat, HT.sIx_nat, List.length_map, Nat.min_eq_left (show i ≤ ns.length by omega), Nat.min_eq_left h2, List.map_take, List.map_drop]
theorem cut_map0 (ns : List Int) {j : Nat} (h2 : j ≤ ns.length) : cutV (ns.map V.int) none (some j) = (ns.take j).map V.int := by
  unfold cutV
  rw [HT.sIx_none, HT.sIx_nat, List.length_map, Nat.min_eq_left h2, List.map_take, List.drop_zero, Nat.sub_zero]
theorem cut_map1 (ns : List Int) {i : Nat} (h2 : i ≤ ns.length) : cutV (ns.map V.int) (some i) none = (ns.drop i).map V.int := by
  unfold cutV
  rw [HT.sIx_none, HT.sIx_nat, List.length_map, Nat.min_eq_left h2, List.map_drop]
  exact List.take_of_length_le (by rw [List.length_drop, List.length_map]; omega)
/-- row[i], row[i, j] -/
def spGet (C : Addr) : Sp := fun vs H Q _ => ∃ (a dx t : Addr) (x : V) (ns : List Int), vs = [.ref a, x] ∧ Rob C H a dx t ∧ H t = some (.lst (ns.map V.int)) ∧
  ((∃ (i : Nat) (n : Int), x = .int i ∧ ns[i]? = some n ∧ Q (.int n) H) ∨ ∃ (k : Addr) (i j : Nat), x = .ref k ∧ H k = some (.tup [.int i, .int j]) ∧ i ≤ j ∧ j ≤ ns.length ∧ ∀ l H', Nw H H' l (.lst ((stretch ns i j).map V.int)) → Q (.ref l) H')
abbrev N_Row___getitem__ : List Str := ["self", "index"]
theorem sc_Row___getitem__ : FnScope N_Row___getitem__ ["self", "index"] (defScope s_Row___getitem__) := ⟨rfl, rfl, rfl, by decide +kernel, rfl, by decide +kernel, by decide +kernel⟩
theorem ok_Row___getitem__ (F : FnA K d_Row___getitem__ fd) (T : Tx K mg) (G_Row_need_stretch : PromO P w K mg base CX0 2 (md "Row" "need_stretch" K) [] (spNeedStretch (gd "Row" K))) (G_Row_need_place : PromO P w K mg base CX0 3 (md "Row" "need_place" K) [] (spNeedPlace (gd "Row" K))) : FnOk P w K mg base CX0 4 (d_Row___getitem__.adr K) fd ["self", "index"] (spGet (gd "Row" K)) := by
  refine fnO0 F sc_Row___getitem__ (fun vs H Q E h => by (repeat (first | (obtain ⟨rfl, _⟩ := h; rfl) | (obtain ⟨_, h⟩ := h)))) (fun cdv A outer s H vs Q E hr h => ?_)
  refine ⟨_, (pss_cons (ps_if (pt_val (pe_callB (call_isiK1 (K := K) rfl) (by rfl) T.f_isinstance (by decide +kernel) (pa_cons (pv 1) (pa_cons (pe_bltn (v := .ty "tuple") (by rfl) T.f_tuple (by decide +kernel) rfl) pa_nil))))
      (pss_cons (ps_expr (pe_m (pv 0) T.cl_Row T.mt_Row_need_stretch (PromO.call G_Row_need_stretch (hr.mono (by decide)) pass0) (pa_cons (pv 1) pa_nil)))
      (pss_one (ps_ret (pe_slice (sl_listK (K := K) rfl) (pe_f (pv 0) T.cl_Row T.n_Row_own_items) (po_some (pe_ix (ix_tupK (K := K) rfl) (pv 1) pe_int (fun _ _ => rfl))) (po_some (pe_ix (ix_tupK (K := K) rfl) (pv 1) pe_int (fun _ _ => rfl))))))) pss_nil)
      (pss_cons (ps_expr (pe_m (pv 0) T.cl_Row T.mt_Row_need_place (PromO.call G_Row_need_place (hr.mono (by decide)) pass0) (pa_cons (pv 1) pa_nil)))
      (pss_one (ps_ret (pe_ix (ix_listK (K := K) rfl) (pe_f (pv 0) T.cl_Row T.n_Row_own_items) (pv 1) (fun _ _ => rfl)))))), ?_⟩
  obtain ⟨a, dx, t, x, ns, rfl, h1, h2, hx⟩ := h
  have hl : (ns.map V.int).length = ns.length := List.length_map ..
  rcases hx with ⟨i, n, rfl, e, q⟩ | ⟨k, i, j, rfl, hk, i1, i2, q⟩
  · have il := at_lt e
    symm_saturate
    refine isi_int ?_
    symm_saturate
    refine st_needPlace h1 h2 (by omega) (by omega) ?_
    symm_saturate
    exact st_ixL h2 (atI_nat (map_at e)) q
  · symm_saturate
    refine isi_tup hk ?_
    symm_saturate
    refine st_needStretch h1 h2 hk (by omega) (by omega) (by omega) ?_
    symm_saturate
    refine st_slL h2 fun l H1 n1 => ?_
    rw [cut_map ns i1 i2] at n1
    exact q l H1 n1
/-- row[i] = n, row[i, j] = ms -/
def spSet (C : Addr) : Sp := fun vs H Q _ => ∃ (a dx t : Addr) (x y : V) (ns : List Int), vs = [.ref a, x, y] ∧ Rob C H a dx t ∧ H t = some (.lst (ns.map V.int)) ∧ ns.length ≤ 2000 ∧
  ((∃ (i : Nat) (n : Int), x = .int i ∧ y = .int n ∧ i < ns.length ∧ isItem n ∧ ∀ H', Mu H H' t (.lst ((ns.set i n).map V.int)) → Q .non H') ∨
    ∃ (k m : Addr) (i j : Nat) (ms : List Int), x = .ref k ∧ y = .ref m ∧ H k = some (.tup [.int i, .int j]) ∧ i ≤ j ∧ j ≤ ns.length ∧ LT H m (ms.map V.int) ∧ itemsOk ms ∧ ms.length = j - i ∧ ∀ H', Mu H H' t (.lst ((ns.take i ++ ms ++ ns.drop j).map V.int)) → Q .non H')
abbrev N_Row___setitem__ : List Str := ["self", "index", "value"]
theorem sc_Row___setitem__ : FnScope N_Row___setitem__ ["self", "index", "value"] (defScope s_Row___setitem__) := ⟨rfl, rfl, rfl, by decide +kernel, rfl, by decide +kernel, by decide +kernel⟩
theorem ok_Row___setitem__ (F : FnA K d_Row___setitem__ fd) (T : Tx K mg) (G_Row_need_stretch : PromO P w K mg base CX0 2 (md "Row" "need_stretch" K) [] (spNeedStretch (gd "Row" K))) (G_need_items : PromO P w K mg base CX0 3 (gd "need_items" K) [] (spNeedItems K)) (G_Row_need_place : PromO P w K mg base CX0 3 (md "Row" "need_place" K) [] (spNeedPlace (gd "Row" K))) (G_is_item : PromO P w K mg base CX0 2 (gd "is_item" K) [] spItem) : FnOk P w K mg base CX0 4 (d_Row___setitem__.adr K) fd ["self", "index", "value"] (spSet (gd "Row" K)) := by
  refine fnO0 F sc_Row___setitem__ (fun vs H Q E h => by (repeat (first | (obtain ⟨rfl, _⟩ := h; rfl) | (obtain ⟨_, h⟩ := h)))) (fun cdv A outer s H vs Q E hr h => ?_)
  refine ⟨_, (pss_one (ps_if (pt_val (pe_callB (call_isiK1 (K := K) rfl) (by rfl) T.f_isinstance (by decide +kernel) (pa_cons (pv 1) (pa_cons (pe_bltn (v := .ty "tuple") (by rfl) T.f_tuple (by decide +kernel) rfl) pa_nil))))
      (pss_cons (ps_expr (pe_m (pv 0) T.cl_Row T.mt_Row_need_stretch (PromO.call G_Row_need_stretch (hr.mono (by decide)) pass0) (pa_cons (pv 1) pa_nil)))
      (pss_cons (ps_expr (pe_g (PromO.call G_need_items (hr.mono (by decide)) pass0) (by rfl) T.g_need_items T.k_need_items (pa_cons (pv 2) (pa_cons (pe_op op_sub (pe_ix (ix_tupK (K := K) rfl) (pv 1) pe_int (fun _ _ => rfl)) (pe_ix (ix_tupK (K := K) rfl) (pv 1) pe_int (fun _ _ => rfl))) pa_nil))))
      (pss_one (ps_asg (pe_callTy (cr_listOf (K := K) rfl) (by rfl) T.f_list (by decide +kernel) (pa_cons (pv 2) pa_nil)) (pg_sl (pe_f (pv 0) T.cl_Row T.n_Row_own_items) (pe_ix (ix_tupK (K := K) rfl) (pv 1) pe_int (fun _ _ => rfl)) (pe_ix (ix_tupK (K := K) rfl) (pv 1) pe_int (fun _ _ => rfl))))))) (pss_cons (ps_expr (pe_m (pv 0) T.cl_Row T.mt_Row_need_place (PromO.call G_Row_need_place (hr.mono (by decide)) pass0) (pa_cons (pv 1) pa_nil)))
      (pss_cons (ps_if (pt_not (pt_val (pe_g (PromO.call G_is_item (hr.mono (by decide)) pass0) (by rfl) T.g_is_item T.k_is_item (pa_cons (pv 2) pa_nil))))
      (pss_one ps_never) pss_nil)
      (pss_one (ps_asg (pv 2) (pg_sub (pe_f (pv 0) T.cl_Row T.n_Row_own_items) (pv 1) set_list))))))), ?_⟩
  obtain ⟨a, dx, t, x, y, ns, rfl, h1, h2, lm, hx⟩ := h
  have hl : (ns.map V.int).length = ns.length := List.length_map ..
  rcases hx with ⟨i, n, rfl, rfl, il, hn, q⟩ | ⟨k, m, i, j, ms, rfl, rfl, hk, i1, i2, hm, hit, ml, q⟩
  · symm_saturate
    refine isi_int ?_
    symm_saturate
    refine st_needPlace h1 h2 (by omega) (by omega) ?_
    symm_saturate
    refine st_itemY hn ?_
    symm_saturate
    refine st_setL h2 (ixN_nat (by omega)) fun H1 n1 => ?_
    rw [map_set] at n1
    symm_saturate
    exact q _ n1
  · symm_saturate
    refine isi_tup hk ?_
    symm_saturate
    refine st_needStretch h1 h2 hk (by omega) (by omega) (by omega) ?_
    symm_saturate
    have em : V.int ((j : Int) - (i : Int)) = V.int ms.length := by rw [ml]; congr 1; omega
    refine st_needItems hm hit (.inr em) fun H1 s1 => ?_
    symm_saturate
    refine LT.list (LT.same s1 hm) fun l H2 n2 => ?_
    symm_saturate
    refine st_slS (by infer_instance) (by infer_instance) (by nofun) (by omega) (by omega) (by omega) (by (refine len_ok ?_; simp only [List.length_cons, List.length_nil, List.length_append, List.length_map, List.length_set, List.length_take, List.length_drop]; omega)) fun H3 n3 => ?_
    symm_saturate
    rw [Int.toNat_natCast, Int.toNat_natCast, ← List.map_take, ← List.map_drop, ← List.map_append, ← List.map_append] at n3
    exact q _ ⟨fun b o e ne => n3.up ne (n2.up (s1 _ _ e)), n3.at_⟩
end
end Lw

set_option Elab.async false
set_option linter.all false
set_option maxRecDepth 100000
set_option maxHeartbeats 4000000
set_option pp.maxSteps 900
namespace Lw
open PySem PySem.Spec PyProof.Rows L2 Gh
local macro_rules | `(tactic| nofun) => `(tactic| (first | assumption | exact Ne.symm (by assumption) | (apply nw_pen'; (· assumption); (· assumption); (· ac_rfl)) | (apply Ne.symm; apply nw_pen'; (· assumption); (· assumption); (· ac_rfl)) | (apply nw_cell'; (· assumption); (· assumption); (· ac_rfl)) | (apply Ne.symm; apply nw_cell'; (· assumption); (· assumption); (· ac_rfl)) | (apply none_pen'; (· assumption); (· assumption); (· ac_rfl)) | (apply Ne.symm; apply none_pen'; (· assumption); (· assumption); (· ac_rfl)) | (apply none_cell'; (· assumption); (· assumption); (· ac_rfl)) | (apply Ne.symm; apply none_cell'; (· assumption); (· assumption); (· ac_rfl)) | (apply tup_pen'; (· assumption); (· assumption); (· ac_rfl)) | (apply Ne.symm; apply tup_pen'; (· assumption); (· assumption); (· ac_rfl)) | (apply tup_cell'; (· assumption); (· assumption); (· ac_rfl)) | (apply Ne.symm; apply tup_cell'; (· assumption); (· assumption); (· ac_rfl)) | (apply ins_pen'; (· assumption); (· assumption); (· ac_rfl)) | (apply Ne.symm; apply ins_pen'; (· assumption); (· assumption); (· ac_rfl)) | (apply ins_cell'; (· assumption); (· assumption); (· ac_rfl)) | (apply Ne.symm; apply ins_cell'; (· assumption); (· assumption); (· ac_rfl)) | (apply ins_lst; (· assumption); (· infer_instance)) | (apply Ne.symm; apply ins_lst; (· assumption); (· infer_instance)) | (apply ins_tup; (· assumption); (· infer_instance)) | (apply Ne.symm; apply ins_tup; (· assumption); (· infer_instance)) | (apply tup_lst; (· assumption); (· infer_instance)) | (apply Ne.symm; apply tup_lst; (· assumption); (· infer_instance)) | (apply nw_ne; (· assumption); (· infer_instance)) | (apply Ne.symm; apply nw_ne; (· assumption); (· infer_instance)) | (apply none_ne; (· assumption); (· infer_instance)) | (apply Ne.symm; apply none_ne; (· assumption); (· infer_instance))))
local macro_rules | `(tactic| ac_rfl) => `(tactic| ((repeat (first | assumption | (apply Pen.nw; (focus assumption)) | (apply Pen.same; (focus assumption)) | (apply Pen.mu; (focus assumption); (focus nofun); (focus nofun)) | (apply Pen.keep; (focus assumption); (focus nofun); (focus nofun)))); done))
local macro_rules | `(tactic| infer_instance) => `(tactic| ((repeat (first | assumption | (apply Nw.at_; assumption) | (apply Mu.at_; assumption) | (apply Nw.up; (focus assumption)) | (apply same_up; (focus assumption)) | (apply Mu.up; (focus assumption); (focus nofun)) | (apply keep_up; (focus assumption); (focus nofun)) | (apply keep2_up; (focus assumption); (focus nofun); (focus nofun)))); done))
local macro_rules | `(tactic| symm_saturate) => `(tactic| (repeat (first | with_reducible refine st_seq ?_ | with_reducible refine st_asg ?_ | with_reducible refine st_name ?_ | with_reducible refine st_ret ?_ | with_reducible refine st_drop ?_ | with_reducible refine st_ifS ?_ | with_reducible refine st_nx ?_ | with_reducible refine st_brk ?_ | with_reducible refine st_cnt ?_ | with_reducible refine st_c ?_ | with_reducible refine st_op ?_ | with_reducible refine st_un ?_ | with_reducible refine st_rI0 ?_ | with_reducible refine st_cons ?_ | with_reducible refine st_nil ?_ | with_reducible refine st_cl ?_ | with_reducible refine st_cb ?_ | with_reducible refine st_mt ?_ | with_reducible refine st_pr ?_ | with_reducible refine st_test ?_ | with_reducible refine st_ebl ?_ | with_reducible refine st_eint ?_ | with_reducible refine st_par ?_ | with_reducible refine st_par2 ?_ | with_reducible refine st_and ?_ | with_reducible refine st_or ?_ | with_reducible refine st_not ?_ | with_reducible refine st_andV ?_ | with_reducible refine st_orV ?_ | with_reducible refine st_notV ?_ | with_reducible refine st_ifE ?_ | with_reducible refine st_chain ?_ | with_reducible refine st_lst ?_ | with_reducible refine st_tup ?_ | with_reducible refine st_retN ?_ | with_reducible refine st_rU ?_ | with_reducible refine st_rAdd ?_ | with_reducible refine st_rSub ?_ | with_reducible refine st_isN ?_ | with_reducible refine st_notN ?_ | with_reducible refine st_sF ?_ | with_reducible refine st_int ?_ | with_reducible refine st_intB ?_ | with_reducible refine st_abs ?_ | with_reducible refine st_sl ?_ | with_reducible refine st_part ?_ | with_reducible refine st_nopart ?_ | with_reducible refine st_bm ?_ | with_reducible refine st_bm0 ?_ | with_reducible refine st_tyS ?_ | with_reducible refine st_gsub ?_ | with_reducible refine st_gcons ?_ | with_reducible refine st_gnil ?_ | with_reducible refine st_chain3 ?_ | with_reducible refine st_gsl ?_ | with_reducible refine st_clK ?_ | with_reducible refine st_mtK ?_ | with_reducible refine st_lcR1 ?_ | with_reducible refine st_lcR2 ?_ | with_reducible refine st_lcL ?_ | with_reducible refine st_lcT ?_ | with_reducible refine st_yes ?_ | with_reducible refine st_forR1 ?_ | with_reducible refine st_forR2 ?_ | with_reducible refine st_forL ?_ | with_reducible refine st_forT ?_ | with_reducible refine st_forE ?_ | with_reducible refine st_list ?_ | with_reducible refine st_itup ?_ | with_reducible refine st_tB ?_ | ((with_reducible apply st_var); exact rfl) | ((with_reducible apply st_aug); exact rfl) | ((with_reducible apply st_eq); exact rfl) | ((with_reducible apply st_ne); exact rfl) | ((with_reducible apply st_spK); (focus exact rfl); (focus exact rfl)) | ((with_reducible apply st_rI); (first | decide | (refine Or.inl ⟨?_, ?_⟩ <;> omega) | (refine Or.inr ⟨?_, ?_⟩ <;> omega) | (show (0 : Int) < _; omega) | exact ⟨by omega, log_of (by omega) (by omega)⟩ | exact ⟨by decide, by decide, by decide⟩)) | ((with_reducible apply st_powK); (focus exact ⟨by decide, by decide, by decide⟩); (focus decide)) | ((with_reducible apply st_eR1); (focus omega); (focus omega)) | ((with_reducible apply st_eR2); (focus omega)) | ((with_reducible apply st_if1); (first | with_reducible rfl | assumption | exact rfl | decide | (simp only [decide_eq_true_eq, decide_eq_false_iff_not, Bool.not_eq_true', Bool.not_eq_false', Bool.not_true, Bool.not_false, Bool.true_and, Bool.and_true, Bool.false_and, Bool.and_false, V.int.injEq, V.str.injEq, V.bl.injEq, V.ref.injEq, reduceCtorEq, not_true, not_false_eq_true, decide_true, decide_false, Int.not_lt, Int.not_le, ne_eq, List.length_cons, List.length_nil, List.length_map, List.length_append, List.length_set, List.length_take, List.length_drop] <;> omega))) | ((with_reducible apply st_if0); (first | with_reducible rfl | assumption | exact rfl | decide | (simp only [decide_eq_true_eq, decide_eq_false_iff_not, Bool.not_eq_true', Bool.not_eq_false', Bool.not_true, Bool.not_false, Bool.true_and, Bool.and_true, Bool.false_and, Bool.and_false, V.int.injEq, V.str.injEq, V.bl.injEq, V.ref.injEq, reduceCtorEq, not_true, not_false_eq_true, decide_true, decide_false, Int.not_lt, Int.not_le, ne_eq, List.length_cons, List.length_nil, List.length_map, List.length_append, List.length_set, List.length_take, List.length_drop] <;> omega))) | ((with_reducible apply st_lenL); (focus infer_instance)) | ((with_reducible apply st_lenT); (focus infer_instance)) | ((with_reducible apply st_tupT); (focus infer_instance)) | ((with_reducible apply st_tyL); (focus infer_instance)) | ((with_reducible apply st_elist); (focus infer_instance)) | ((with_reducible apply st_eitup); (focus infer_instance)) | ((with_reducible apply st_eE); (focus infer_instance)) | ((with_reducible apply st_epr); (focus infer_instance)) | ((with_reducible apply st_setO); (focus infer_instance)) | ((with_reducible apply st_ixO); (focus infer_instance)) | ((with_reducible apply st_ixLs); (focus assumption); (focus (first | exact rfl | exact atI_nat (by assumption)))) | ((with_reducible apply st_ixTs); (focus assumption); (focus (first | exact rfl | exact atI_nat (by assumption)))) | ((with_reducible apply st_fld); (focus infer_instance); (focus exact rfl)) | ((with_reducible apply st_const); (focus infer_instance); (focus exact rfl)) | ((with_reducible apply st_emt); (focus infer_instance); (focus exact rfl)) | ((with_reducible apply st_ixL); (focus infer_instance); (focus (first | exact rfl | exact atI_nat (by assumption)))) | ((with_reducible apply st_ixT); (focus infer_instance); (focus (first | exact rfl | exact atI_nat (by assumption)))) | ((with_reducible apply st_gtup); (focus infer_instance); (focus (first | exact rfl | exact atI_nat (by assumption)))))))
local macro_rules | `(tactic| subst_eqs) => `(tactic| (repeat (first | with_reducible refine st_seq ?_ | with_reducible refine st_asg ?_ | with_reducible refine st_name ?_ | with_reducible refine st_ret ?_ | with_reducible refine st_drop ?_ | with_reducible refine st_ifS ?_ | with_reducible refine st_nx ?_ | with_reducible refine st_brk ?_ | with_reducible refine st_cnt ?_ | with_reducible refine st_c ?_ | with_reducible refine st_op ?_ | with_reducible refine st_un ?_ | with_reducible refine st_rI0 ?_ | with_reducible refine st_cons ?_ | with_reducible refine st_nil ?_ | with_reducible refine st_cl ?_ | with_reducible refine st_cb ?_ | with_reducible refine st_mt ?_ | with_reducible refine st_pr ?_ | with_reducible refine st_test ?_ | with_reducible refine st_ebl ?_ | with_reducible refine st_eint ?_ | with_reducible refine st_par ?_ | with_reducible refine st_par2 ?_ | with_reducible refine st_and ?_ | with_reducible refine st_or ?_ | with_reducible refine st_not ?_ | with_reducible refine st_andV ?_ | with_reducible refine st_orV ?_ | with_reducible refine st_notV ?_ | with_reducible refine st_ifE ?_ | with_reducible refine st_chain ?_ | with_reducible refine st_lst ?_ | with_reducible refine st_tup ?_ | with_reducible refine st_retN ?_ | with_reducible refine st_rU ?_ | with_reducible refine st_rAdd ?_ | with_reducible refine st_rSub ?_ | with_reducible refine st_isN ?_ | with_reducible refine st_notN ?_ | with_reducible refine st_sF ?_ | with_reducible refine st_int ?_ | with_reducible refine st_intB ?_ | with_reducible refine st_abs ?_ | with_reducible refine st_sl ?_ | with_reducible refine st_part ?_ | with_reducible refine st_nopart ?_ | with_reducible refine st_bm ?_ | with_reducible refine st_bm0 ?_ | with_reducible refine st_tyS ?_ | with_reducible refine st_gsub ?_ | with_reducible refine st_gcons ?_ | with_reducible refine st_gnil ?_ | with_reducible refine st_chain3 ?_ | with_reducible refine st_gsl ?_ | with_reducible refine st_clK ?_ | with_reducible refine st_mtK ?_ | with_reducible refine st_lcR1 ?_ | with_reducible refine st_lcR2 ?_ | with_reducible refine st_lcL ?_ | with_reducible refine st_lcT ?_ | with_reducible refine st_yes ?_ | with_reducible refine st_forR1 ?_ | with_reducible refine st_forR2 ?_ | with_reducible refine st_forL ?_ | with_reducible refine st_forT ?_ | with_reducible refine st_forE ?_ | with_reducible refine st_list ?_ | with_reducible refine st_itup ?_ | with_reducible refine st_tB ?_ | ((with_reducible apply st_var); exact rfl) | ((with_reducible apply st_aug); exact rfl) | ((with_reducible apply st_eq); exact rfl) | ((with_reducible apply st_ne); exact rfl) | ((with_reducible apply st_spK); (focus exact rfl); (focus exact rfl)) | ((with_reducible apply st_rI); (first | decide | (refine Or.inl ⟨?_, ?_⟩ <;> omega) | (refine Or.inr ⟨?_, ?_⟩ <;> omega) | (show (0 : Int) < _; omega) | exact ⟨by omega, log_of (by omega) (by omega)⟩ | exact ⟨by decide, by decide, by decide⟩)) | ((with_reducible apply st_powK); (focus exact ⟨by decide, by decide, by decide⟩); (focus decide)) | ((with_reducible apply st_eR1); (focus omega); (focus omega)) | ((with_reducible apply st_eR2); (focus omega)) | ((with_reducible apply st_if1); (first | with_reducible rfl | assumption | exact rfl | decide | (simp only [decide_eq_true_eq, decide_eq_false_iff_not, Bool.not_eq_true', Bool.not_eq_false', Bool.not_true, Bool.not_false, Bool.true_and, Bool.and_true, Bool.false_and, Bool.and_false, V.int.injEq, V.str.injEq, V.bl.injEq, V.ref.injEq, reduceCtorEq, not_true, not_false_eq_true, decide_true, decide_false, Int.not_lt, Int.not_le, ne_eq, List.length_cons, List.length_nil, List.length_map, List.length_append, List.length_set, List.length_take, List.length_drop] <;> omega))) | ((with_reducible apply st_if0); (first | with_reducible rfl | assumption | exact rfl | decide | (simp only [decide_eq_true_eq, decide_eq_false_iff_not, Bool.not_eq_true', Bool.not_eq_false', Bool.not_true, Bool.not_false, Bool.true_and, Bool.and_true, Bool.false_and, Bool.and_false, V.int.injEq, V.str.injEq, V.bl.injEq, V.ref.injEq, reduceCtorEq, not_true, not_false_eq_true, decide_true, decide_false, Int.not_lt, Int.not_le, ne_eq, List.length_cons, List.length_nil, List.length_map, List.length_append, List.length_set, List.length_take, List.length_drop] <;> omega))) | ((with_reducible apply st_lenL); (focus infer_instance)) | ((with_reducible apply st_lenT); (focus infer_instance)) | ((with_reducible apply st_tupT); (focus infer_instance)) | ((with_reducible apply st_tyL); (focus infer_instance)) | ((with_reducible apply st_elist); (focus infer_instance)) | ((with_reducible apply st_eitup); (focus infer_instance)) | ((with_reducible apply st_eE); (focus infer_instance)) | ((with_reducible apply st_epr); (focus infer_instance)) | ((with_reducible apply st_setO); (focus infer_instance)) | ((with_reducible apply st_ixO); (focus infer_instance)) | ((with_reducible apply st_ixLs); (focus assumption); (focus (first | exact rfl | exact atI_nat (by assumption)))) | ((with_reducible apply st_ixTs); (focus assumption); (focus (first | exact rfl | exact atI_nat (by assumption)))) | ((with_reducible apply st_fld); (focus infer_instance); (focus exact rfl)) | ((with_reducible apply st_const); (focus infer_instance); (focus exact rfl)) | ((with_reducible apply st_emt); (focus infer_instance); (focus exact rfl)) | ((with_reducible apply st_ixL); (focus infer_instance); (focus (first | exact rfl | exact atI_nat (by assumption)))) | ((with_reducible apply st_ixT); (focus infer_instance); (focus (first | exact rfl | exact atI_nat (by assumption)))) | ((with_reducible apply st_gtup); (focus infer_instance); (focus (first | exact rfl | exact atI_nat (by assumption)))) | ((with_reducible apply st_newL); (focus (refine len_ok ?_; simp only [List.length_cons, List.length_nil, List.length_append, List.length_map, List.length_set, List.length_take, List.length_drop]; omega)); intro l Hn nw) | ((with_reducible apply st_newT); (focus (refine len_ok ?_; simp only [List.length_cons, List.length_nil, List.length_append, List.length_map, List.length_set, List.length_take, List.length_drop]; omega)); intro l Hn nw) | ((with_reducible apply st_listL); (focus infer_instance); intro l Hn nw) | ((with_reducible apply st_listT); (focus infer_instance); intro l Hn nw) | ((with_reducible apply st_tupL); (focus infer_instance); intro l Hn nw) | ((with_reducible apply st_slL); (focus infer_instance); intro l Hn nw) | ((with_reducible apply st_cat); (focus infer_instance); (focus infer_instance); (focus (refine len_ok ?_; simp only [List.length_cons, List.length_nil, List.length_append, List.length_map, List.length_set, List.length_take, List.length_drop]; omega)); intro l Hn nw))))
section
variable {P : Program} {w : World} {K : PySem.W.Frag} {mg : Str → Option Value} {base : Heap} {f : Addr} {fd : FuncData}
def spIt : Sp := fun vs H Q _ => ∃ (p c : Addr) (b : Nat), vs = [.ref p] ∧ Pen H p c (b + 4) ∧ ∀ (n : Int) (H' : Hp), isItem n → Pen H' p c b → Keep H H' p → Q (.int n) H'
theorem st_it {H : Hp} {Q : VK} {E : XK} {p c : Addr} {b : Nat} (pn : Pen H p c (b + 4)) (q : ∀ (n : Int) (H' : Hp), isItem n → Pen H' p c b → Keep H H' p → Q (.int n) H') : rSp spIt [] E [.ref p] H Q := ⟨p, c, b, rfl, pn, q⟩
abbrev N__law_item : List Str := ["_law_pen_here", "_law_some"]
theorem sc__law_item : FnScope N__law_item ["_law_pen_here"] (defScope s__law_item) := ⟨rfl, rfl, rfl, by decide +kernel, rfl, by decide +kernel, by decide +kernel⟩
theorem ok__law_item (F : FnA K d__law_item fd) (T : Tx K mg) (G__law_draw : PromO P w K mg base CX0 1 (gd "_law_draw" K) [] spDr) (G__law_pick : PromO P w K mg base CX0 2 (gd "_law_pick" K) [] spPk) : FnOk P w K mg base CX0 3 (d__law_item.adr K) fd ["_law_pen_here"] spIt := by
  refine fnO0 F sc__law_item (fun vs H Q E h => by (repeat (first | (obtain ⟨rfl, _⟩ := h; rfl) | (obtain ⟨_, h⟩ := h)))) (fun cdv A outer s H vs Q E hr h => ?_)
  refine ⟨_, (pss_cons (ps_set (i := 1) sc__law_item.nd rfl (.inl rfl) (pe_lst (pa_cons pe_int (pa_cons pe_int (pa_cons (pe_un un_neg pe_int) (pa_cons pe_int (pa_cons pe_int (pa_cons (pe_g (PromO.call G__law_draw (hr.mono (by decide)) pass0) (by rfl) T.g__law_draw T.k__law_draw (pa_cons (pv 0) (pa_cons pe_int pa_nil))) (pa_cons (pe_op op_sub (pe_op (op_powK 1000000000000000000000000000000) pe_int pe_int) pe_int) (pa_cons (pe_op op_sub pe_int (pe_op (op_powK 1000000000000000000000000000000) pe_int pe_int)) pa_nil))))))))))
      (pss_one (ps_ret (pe_g (PromO.call G__law_pick (hr.mono (by decide)) pass0) (by rfl) T.g__law_pick T.k__law_pick (pa_cons (pv 0) (pa_cons (pe_op op_cat (pv 1) (pe_lst (pa_cons (pe_op op_sub pe_int (pe_g (PromO.call G__law_draw (hr.mono (by decide)) pass0) (by rfl) T.g__law_draw T.k__law_draw (pa_cons (pv 0) (pa_cons pe_int pa_nil)))) (pa_cons (pe_g (PromO.call G__law_draw (hr.mono (by decide)) pass0) (by rfl) T.g__law_draw T.k__law_draw (pa_cons (pv 0) (pa_cons (pe_op (op_powK 1000000000000000000000000000000) pe_int pe_int) pa_nil))) pa_nil)))) pa_nil)))))), ?_⟩
  obtain ⟨p, c, b, rfl, pn, q⟩ := h
  symm_saturate
  (refine st_draw (by ac_rfl) ?_ ?_ ?_; (focus first | decide | omega); (focus first | decide | exact log_of (by omega) (by omega))); intro d1 H1 a1 b1 pn1 k1
  subst_eqs
  (refine st_draw (by ac_rfl) ?_ ?_ ?_; (focus first | decide | omega); (focus first | decide | exact log_of (by omega) (by omega))); intro d2 H2 a2 b2 pn2 k2
  symm_saturate
  (refine st_draw (by ac_rfl) ?_ ?_ ?_; (focus first | decide | omega); (focus first | decide | exact log_of (by omega) (by omega))); intro d3 H3 a3 b3 pn3 k3
  subst_eqs
  refine st_pick (by infer_instance) (by ac_rfl) (by (simp only [List.length_cons, List.length_nil, List.length_append, List.length_map, List.length_set, List.length_take, List.length_drop] <;> omega)) (by (simp only [List.length_cons, List.length_nil, List.length_append, List.length_map, List.length_set, List.length_take, List.length_drop] <;> omega)) (by nofun) ?_; intro j4 v4 H4 e4 pn4 k4
  obtain ⟨n, hn, rfl⟩ := mem_ints (ns := [0, 1, -1, 7, 7, d1, 1000000000000000000000000000000 - 1, 1 - 1000000000000000000000000000000, 0 - d2, d3]) e4
  refine q n H4 ?_ pn4 (fun a o e ne => by infer_instance)
  simp only [List.mem_cons, List.mem_nil_iff, or_false] at hn
  unfold isItem
  omega
/-- two neighbours exchanged -/
def swap (ns : List Int) (i : Nat) (x y : Int) : List Int := (ns.set i y).set (i + 1) x
theorem set_cut {α : Type} {ns : List α} {i : Nat} (y : α) (h : i < ns.length) : ns.set i y = ns.take i ++ [y] ++ ns.drop (i + 1) := by
  rw [List.set_eq_take_append_cons_drop, if_pos h, List.append_assoc]
  rfl
theorem swap_cut {ns : List Int} {i : Nat} {x y : Int} (h : i + 1 < ns.length) : swap ns i x y = ns.take i ++ [y, x] ++ ns.drop (i + 2) := by
  unfold swap
  rw [set_cut y (by omega), List.append_assoc]
  rw [List.set_append_right _ _ (by rw [List.length_take]; omega), List.length_take, Nat.min_eq_left (by omega), show i + 1 - i = 1 by omega]
  show ns.take i ++ (y :: (ns.drop (i + 1)).set 0 x) = _
  rw [List.append_assoc]
  congr 1
  show _ = y :: x :: ns.drop (i + 2)
  congr 1
  have e : ns.drop (i + 1) = ns[i + 1] :: ns.drop (i + 2) := List.drop_eq_getElem_cons h
  rw [e]
  rfl
def spExch : Sp := fun vs H Q _ => ∃ (l : Addr) (ns : List Int) (i : Nat) (x y : Int), vs = [.ref l, .int i] ∧ H l = some (.lst (ns.map V.int)) ∧ ns.length ≤ 1000 ∧ ns[i]? = some x ∧ ns[i + 1]? = some y ∧
  ∀ r H', H r = none → L2.Same H H' → H' r = some (.lst ((swap ns i x y).map V.int)) → Q (.ref r) H'
theorem nat1 (i : Nat) : (i : Int) + 1 = ((i + 1 : Nat) : Int) := by omega
theorem nat2 (i : Nat) : (i : Int) + 2 = ((i + 2 : Nat) : Int) := by omega
abbrev N__law_exchanged : List Str := ["_law_items", "_law_at"]
theorem sc__law_exchanged : FnScope N__law_exchanged ["_law_items", "_law_at"] (defScope s__law_exchanged) := ⟨rfl, rfl, rfl, by decide +kernel, rfl, by decide +kernel, by decide +kernel⟩
theorem ok__law_exchanged (F : FnA K d__law_exchanged fd) (T : Tx K mg)  : FnOk P w K mg base CX0 1 (d__law_exchanged.adr K) fd ["_law_items", "_law_at"] spExch := by
  refine fnO0 F sc__law_exchanged (fun vs H Q E h => by (repeat (first | (obtain ⟨rfl, _⟩ := h; rfl) | (obtain ⟨_, h⟩ := h)))) (fun cdv A outer s H vs Q E hr h => ?_)
  refine ⟨_, (pss_one (ps_ret (pe_op op_cat (pe_op op_cat (pe_slice (sl_listK (K := K) rfl) (pv 0) po_none (po_some (pv 1))) (pe_lst (pa_cons (pe_ix (ix_listK (K := K) rfl) (pv 0) (pe_op op_add (pv 1) pe_int) (fun _ _ => rfl)) (pa_cons (pe_ix (ix_listK (K := K) rfl) (pv 0) (pv 1) (fun _ _ => rfl)) pa_nil)))) (pe_slice (sl_listK (K := K) rfl) (pv 0) (po_some (pe_op op_add (pv 1) pe_int)) po_none)))), ?_⟩
  obtain ⟨l, ns, i, x, y, rfl, hl, l9, h1, h2, q⟩ := h
  have ll : (ns.map V.int).length = ns.length := List.length_map ..
  have l2 := at_lt h2
  symm_saturate
  refine st_slL hl fun l1 H1 n1 => ?_
  rw [cut_map0 ns (by omega)] at n1
  symm_saturate
  refine st_ixL (by infer_instance) (v := .int y) (by rw [nat1]; exact atI_nat (map_at h2)) ?_
  symm_saturate
  refine st_ixL (by infer_instance) (v := .int x) (atI_nat (map_at h1)) ?_
  symm_saturate
  refine st_newL (by (refine len_ok ?_; simp only [List.length_cons, List.length_nil, List.length_append, List.length_map, List.length_set, List.length_take, List.length_drop]; omega)) fun r2 H2 n2 => ?_
  refine st_cat (by infer_instance) (by infer_instance) (by (refine len_ok ?_; simp only [List.length_cons, List.length_nil, List.length_append, List.length_map, List.length_set, List.length_take, List.length_drop]; omega)) fun r3 H3 n3 => ?_
  symm_saturate
  refine st_slL (by infer_instance) fun l4 H4 n4 => ?_
  rw [nat2, cut_map1 ns (by omega)] at n4
  refine st_cat (by infer_instance) (by infer_instance) (by (refine len_ok ?_; simp only [List.length_cons, List.length_nil, List.length_append, List.length_map, List.length_set, List.length_take, List.length_drop]; omega)) fun r5 H5 n5 => ?_
  refine q r5 H5 ?_ (fun a o e => by infer_instance) ?_
  · exact n1.same.free (n2.same.free (n3.same.free (n4.same.free n5.no)))
  · rw [n5.at_, swap_cut l2, List.map_append, List.map_append]
    rfl
theorem st_exch {H : Hp} {Q : VK} {E : XK} {l : Addr} {ns : List Int} {i : Nat} {x y : Int} (hl : H l = some (.lst (ns.map V.int))) (l9 : ns.length ≤ 1000) (h1 : ns[i]? = some x) (h2 : ns[i + 1]? = some y) (q : ∀ r H', H r = none → L2.Same H H' → H' r = some (.lst ((swap ns i x y).map V.int)) → Q (.ref r) H') : rSp spExch [] E [.ref l, .int i] H Q := ⟨l, ns, i, x, y, rfl, hl, l9, h1, h2, q⟩
def spDeed (C : Addr) : Sp := fun vs H Q _ => ∃ (p c : Addr) (b : Nat) (a dx t l : Addr) (ns : List Int), vs = [.ref p, .ref a, .ref l] ∧ Pen H p c (b + 100) ∧ Rob C H a dx t ∧ H t = some (.lst (ns.map V.int)) ∧ H l = some (.lst (ns.map V.int)) ∧
  t ≠ p ∧ t ≠ c ∧ l ≠ p ∧ l ≠ t ∧ 1 ≤ ns.length ∧ ns.length ≤ 9 ∧ itemsOk ns ∧
  ∀ r ms H', Pen H' p c b → Keep2 H H' p t → H' t = some (.lst (ms.map V.int)) → H' r = some (.lst (ms.map V.int)) → ms.length = ns.length → itemsOk ms → r ≠ t → r ≠ p → Q (.ref r) H'
theorem ok_set {ns : List Int} (h : itemsOk ns) {i : Nat} {x : Int} (hx : isItem x) : itemsOk (ns.set i x) := fun n hn => by
  rcases List.mem_or_eq_of_mem_set hn with h' | rfl
  · exact h n h'
  · exact hx
theorem ok_app {ns ms : List Int} (h : itemsOk ns) (k : itemsOk ms) : itemsOk (ns ++ ms) := fun n hn => (List.mem_append.mp hn).elim (h n) (k n)
theorem ok_take {ns : List Int} (h : itemsOk ns) (i : Nat) : itemsOk (ns.take i) := fun n hn => h n (List.mem_of_mem_take hn)
theorem ok_drop {ns : List Int} (h : itemsOk ns) (i : Nat) : itemsOk (ns.drop i) := fun n hn => h n (List.mem_of_mem_drop hn)
abbrev N__law_deed : List Str := ["_law_pen_here", "_law_row", "_law_items", "_law_at", "_law_way", "_law_size", "_law_begin", "_law_end", "_law_some", "_law_passed", "_law_item_here", "_law_k"]
theorem sc__law_deed : FnScope N__law_deed ["_law_pen_here", "_law_row", "_law_items"] (defScope s__law_deed) := ⟨rfl, rfl, rfl, by decide +kernel, rfl, by decide +kernel, by decide +kernel⟩
theorem ok__law_deed (F : FnA K d__law_deed fd) (T : Tx K mg) (G__law_draw : PromO P w K mg base CX0 1 (gd "_law_draw" K) [] spDr) (G__law_item : PromO P w K mg base CX0 3 (gd "_law_item" K) [] spIt) (G_Row___setitem__ : PromO P w K mg base CX0 4 (md "Row" "__setitem__" K) [] (spSet (gd "Row" K))) (G__law_pick : PromO P w K mg base CX0 2 (gd "_law_pick" K) [] spPk) (GK_Row_exchange_1_p : PromK P w K mg base CX0 3 (md "Row" "exchange" K) 1 ["p"] (fun vs zs => vs ++ picks [.inl 0] [] zs) (spExchange (gd "Row" K))) (G__law_exchanged : PromO P w K mg base CX0 1 (gd "_law_exchanged" K) [] spExch) : FnOk P w K mg base CX0 5 (d__law_deed.adr K) fd ["_law_pen_here", "_law_row", "_law_items"] (spDeed (gd "Row" K)) := by
  refine fnO0 F sc__law_deed (fun vs H Q E h => by (repeat (first | (obtain ⟨rfl, _⟩ := h; rfl) | (obtain ⟨_, h⟩ := h)))) (fun cdv A outer s H vs Q E hr h => ?_)
  refine ⟨_, (pss_cons (ps_par (i := 4) (j := 5) (by rfl) sc__law_deed.nd rfl rfl (by decide) rfl rfl (pa_cons (pe_g (PromO.call G__law_draw (hr.mono (by decide)) pass0) (by rfl) T.g__law_draw T.k__law_draw (pa_cons (pv 0) (pa_cons pe_int pa_nil))) (pa_cons (pe_callB (cr_len (K := K) rfl) (by rfl) T.f_len (by decide +kernel) (pa_cons (pv 2) pa_nil)) pa_nil)) (by rfl))
      (pss_cons (ps_if (pt_cmpR op_lt (pv 4) pe_int (nomark _))
      (pss_cons (ps_par (i := 3) (j := 10) (by rfl) sc__law_deed.nd rfl rfl (by decide) rfl rfl (pa_cons (pe_g (PromO.call G__law_draw (hr.mono (by decide)) pass0) (by rfl) T.g__law_draw T.k__law_draw (pa_cons (pv 0) (pa_cons (pv 5) pa_nil))) (pa_cons (pe_g (PromO.call G__law_item (hr.mono (by decide)) pass0) (by rfl) T.g__law_item T.k__law_item (pa_cons (pv 0) pa_nil)) pa_nil)) (by rfl))
      (pss_cons (ps_asg (pv 10) (pg_sub (pv 1) (pv 3) (set_own T.ns_Row T.mt_Row___setitem__.at_ T.mt_Row___setitem__.fn (PromO.call G_Row___setitem__ (hr.mono (by decide)) pass0))))
      (pss_one (ps_ret (pe_op op_cat (pe_op op_cat (pe_slice (sl_listK (K := K) rfl) (pv 2) po_none (po_some (pv 3))) (pe_lst (pa_cons (pv 10) pa_nil))) (pe_slice (sl_listK (K := K) rfl) (pv 2) (po_some (pe_op op_add (pv 3) pe_int)) po_none)))))) pss_nil)
      (pss_cons (ps_if (pt_cmpR op_lt (pv 4) pe_int (nomark _))
      (pss_cons (ps_set (i := 6) sc__law_deed.nd rfl (.inl rfl) (pe_g (PromO.call G__law_draw (hr.mono (by decide)) pass0) (by rfl) T.g__law_draw T.k__law_draw (pa_cons (pv 0) (pa_cons (pe_op op_add (pv 5) pe_int) pa_nil))))
      (pss_cons (ps_set (i := 7) sc__law_deed.nd rfl (.inl rfl) (pe_op op_add (pv 6) (pe_g (PromO.call G__law_draw (hr.mono (by decide)) pass0) (by rfl) T.g__law_draw T.k__law_draw (pa_cons (pv 0) (pa_cons (pe_op op_sub (pe_op op_add (pv 5) pe_int) (pv 6)) pa_nil)))))
      (pss_cons (ps_setLc (i := 8) (own := [("_law_k", 11)]) (g := gName 11) (by rfl) sc__law_deed.nd rfl rfl (sw_true rfl rfl rfl (by decide +kernel)) (pi_range1 (by rfl) T.f_range (pa_cons (pe_op op_sub (pv 7) (pv 6)) pa_nil)) (blkOk_by (own := [("_law_k", 11)]) (N := N__law_deed) (sc := defScope s__law_deed) (by decide +kernel))
        (fun _ _ _ _ _ => pg_name (i := 11) sc__law_deed.nd rfl (Or.inl rfl)) (fun _ _ _ _ _ => pts_nil) (fun _ _ _ _ _ => (pe_g (PromO.call G__law_item (hr.mono (by decide)) pass0) (by rfl) T.g__law_item T.k__law_item (pa_cons (pv 0) pa_nil))))
      (pss_cons (ps_set (i := 9) sc__law_deed.nd rfl (.inl rfl) (pe_g (PromO.call G__law_pick (hr.mono (by decide)) pass0) (by rfl) T.g__law_pick T.k__law_pick (pa_cons (pv 0) (pa_cons (pe_lst (pa_cons (pe_callTy (cr_listOf (K := K) rfl) (by rfl) T.f_list (by decide +kernel) (pa_cons (pv 8) pa_nil)) (pa_cons (pe_callTy (cr_tupOf (K := K) rfl) (by rfl) T.f_tuple (by decide +kernel) (pa_cons (pv 8) pa_nil)) pa_nil))) pa_nil))))
      (pss_cons (ps_asg (pv 9) (pg_sub (pv 1) (pe_tup (pa_cons (pv 6) (pa_cons (pv 7) pa_nil))) (set_own T.ns_Row T.mt_Row___setitem__.at_ T.mt_Row___setitem__.fn (PromO.call G_Row___setitem__ (hr.mono (by decide)) pass0))))
      (pss_cons (ps_if (pt_val (pe_callB (call_isiK1 (K := K) rfl) (by rfl) T.f_isinstance (by decide +kernel) (pa_cons (pv 9) (pa_cons (pe_bltn (v := .ty "list") (by rfl) T.f_list (by decide +kernel) rfl) pa_nil))))
      (pss_cons (ps_expr (pe_bm PySem.F.plainAttrs_list PySem.F.slot_list_append PySem.F.type_list_append mt_append (pv 9) (pa_cons pe_int pa_nil)))
      (pss_one (ps_asg pe_int (pg_sub (pv 9) pe_int set_list)))) pss_nil)
      (pss_one (ps_ret (pe_op op_cat (pe_op op_cat (pe_slice (sl_listK (K := K) rfl) (pv 2) po_none (po_some (pv 6))) (pv 8)) (pe_slice (sl_listK (K := K) rfl) (pv 2) (po_some (pv 7)) po_none)))))))))) pss_nil)
      (pss_cons (ps_if (pt_cmpR op_lt (pv 5) pe_int (nomark _))
      (pss_one (ps_ret (pv 2))) pss_nil)
      (pss_cons (ps_set (i := 3) sc__law_deed.nd rfl (.inl rfl) (pe_g (PromO.call G__law_draw (hr.mono (by decide)) pass0) (by rfl) T.g__law_draw T.k__law_draw (pa_cons (pv 0) (pa_cons (pe_op op_sub (pv 5) pe_int) pa_nil))))
      (pss_cons (ps_if (pt_cmpR or_notN (pe_mk0 (pv 1) T.cl_Row T.mt_Row_exchange (PromK.call GK_Row_exchange_1_p (hr.mono (by decide)) pass0) (pk_cons (pv 3) pk_nil)) pe_non (nomark _))
      (pss_one (ps_ret pe_non)) pss_nil)
      (pss_one (ps_ret (pe_g (PromO.call G__law_exchanged (hr.mono (by decide)) pass0) (by rfl) T.g__law_exchanged T.k__law_exchanged (pa_cons (pv 2) (pa_cons (pv 3) pa_nil))))))))))), ?_⟩
  obtain ⟨p, c, b, a, dx, t, l, ns, rfl, pn, ha, ht, hl, tp, tc, lp, lt, l1, l9, hit, q⟩ := h
  have ll : (ns.map V.int).length = ns.length := List.length_map ..
  symm_saturate
  (refine st_draw (by ac_rfl) ?_ ?_ ?_; (focus first | decide | omega); (focus first | decide | exact log_of (by omega) (by omega))); intro d1 H1 a1 b1 pn1 k1
  symm_saturate
  refine ite2d (fun w1 => ?_) (fun w1 => ?_)
  · -- an item put at a place
    symm_saturate
    (refine st_draw (by ac_rfl) ?_ ?_ ?_; (focus first | decide | omega); (focus first | decide | exact log_of (by omega) (by omega))); intro d2 H2 a2 b2 pn2 k2
    obtain ⟨i, rfl⟩ : ∃ i : Nat, d2 = i := ⟨d2.toNat, by omega⟩
    have il : i < ns.length := by omega
    symm_saturate
    refine st_it (by ac_rfl) fun x H3 hx pn3 k3 => ?_
    symm_saturate
    refine ⟨a, dx, t, _, _, ns, rfl, by infer_instance, by infer_instance, by omega, .inl ⟨i, x, rfl, rfl, il, hx, fun H4 n4 => ?_⟩⟩
    symm_saturate
    refine st_slL (by infer_instance) fun l5 H5 n5 => ?_
    rw [cut_map0 ns (by omega)] at n5
    symm_saturate
    refine st_newL (by (refine len_ok ?_; simp only [List.length_cons, List.length_nil, List.length_append, List.length_map, List.length_set, List.length_take, List.length_drop]; omega)) fun l6 H6 n6 => ?_
    refine st_cat (by infer_instance) (by infer_instance) (by (refine len_ok ?_; simp only [List.length_cons, List.length_nil, List.length_append, List.length_map, List.length_set, List.length_take, List.length_drop]; omega)) fun l7 H7 n7 => ?_
    symm_saturate
    refine st_slL (by infer_instance) fun l8 H8 n8 => ?_
    rw [nat1, cut_map1 ns (by omega)] at n8
    refine st_cat (by infer_instance) (by infer_instance) (by (refine len_ok ?_; simp only [List.length_cons, List.length_nil, List.length_append, List.length_map, List.length_set, List.length_take, List.length_drop]; omega)) fun r H9 n9 => ?_
    refine q r (ns.set i x) H9 (Pen.le (by ac_rfl) (show b ≤ _ by omega)) (fun a o e e1 e2 => by infer_instance) (by infer_instance) ?_ (List.length_set ..) (ok_set hit hx) (by nofun) (by nofun)
    rw [n9.at_, set_cut x il, List.map_append, List.map_append]
    rfl
  · symm_saturate
    refine ite2d (fun w2 => ?_) (fun w2 => ?_)
    · -- items put in the place of a stretch
      symm_saturate
      (refine st_draw (by ac_rfl) ?_ ?_ ?_; (focus first | decide | omega); (focus first | decide | exact log_of (by omega) (by omega))); intro d2 H2 a2 b2 pn2 k2
      obtain ⟨i, rfl⟩ : ∃ i : Nat, d2 = i := ⟨d2.toNat, by omega⟩
      symm_saturate
      (refine st_draw (by ac_rfl) ?_ ?_ ?_; (focus first | decide | omega); (focus first | decide | exact log_of (by omega) (by omega))); intro d3 H3 a3 b3 pn3 k3
      obtain ⟨k, rfl⟩ : ∃ k : Nat, d3 = k := ⟨d3.toNat, by omega⟩
      symm_saturate
      have ik : i + k ≤ ns.length := by omega
      refine lcR (fun D j H4 acc => ∃ ms : List Int, acc = ms.map V.int ∧ ms.length = j ∧ itemsOk ms ∧ Pen H4 p c (b + 50 + 4 * (9 - j)) ∧ Keep H3 H4 p) (fun _ => rfl) (fun D H4 n4 => ⟨[], rfl, rfl, nofun, Pen.le (by ac_rfl) (by omega), fun a o e _ => n4.up e⟩) ?_ ?_
      · rintro D j H4 acc nD hj la hD ⟨ms, rfl, rfl, hms, pn4, k4⟩
        have pn4' : Pen H4 p c ((b + 50 + 4 * (9 - (ms.length + 1))) + 4) := pn4.le (by omega)
        have nDp : D ≠ p := by nofun
        have nDc : D ≠ c := by nofun
        symm_saturate
        refine st_it pn4' fun x H5 hx pn5 k5 => ?_
        refine st_push (by infer_instance) la (by omega) fun H6 n6 => ?_
        refine ⟨ms ++ [x], by rw [List.map_append]; rfl, by rw [List.length_append]; rfl, ok_app hms (fun n hn => by rw [List.mem_singleton.mp hn]; exact hx), by ac_rfl, fun a o e ne => ?_⟩
        have : a ≠ D := Ne.symm (none_ne nD e)
        infer_instance
      · rintro D H4 acc nD la hD ⟨ms, rfl, lm, hms, pn4, k4⟩
        replace pn4 : Pen H4 p c (b + 40) := pn4.le (by omega)
        have nDp : D ≠ p := by nofun
        have nDc : D ≠ c := by nofun
        have nDt : D ≠ t := none_ne (H := H3) nD (by infer_instance)
        symm_saturate
        refine st_listL (by infer_instance) fun l5 H5 n5 => ?_
        symm_saturate
        refine st_tupL (by infer_instance) fun l6 H6 n6 => ?_
        symm_saturate
        refine st_newL (by (refine len_ok ?_; simp only [List.length_cons, List.length_nil, List.length_append, List.length_map, List.length_set, List.length_take, List.length_drop]; omega)) fun l7 H7 n7 => ?_
        refine st_pick (by infer_instance) (by ac_rfl) (by (simp only [List.length_cons, List.length_nil, List.length_append, List.length_map, List.length_set, List.length_take, List.length_drop] <;> omega)) (by (simp only [List.length_cons, List.length_nil, List.length_append, List.length_map, List.length_set, List.length_take, List.length_drop] <;> omega)) (by nofun) ?_; intro j8 v8 H8 e8 pn8 k8
        have t5 : l5 ≠ t := by nofun
        have t5c : l5 ≠ c := by nofun
        have t5p : l5 ≠ p := by nofun
        have D5 : D ≠ l5 := by nofun
        rcases (show v8 = .ref l5 ∨ v8 = .ref l6 by
          match j8, e8 with
          | 0, e8 => cases e8; exact .inl rfl
          | 1, e8 => cases e8; exact .inr rfl) with rfl | rfl
        · -- a list
          symm_saturate
          refine st_newT (by (refine len_ok ?_; simp only [List.length_cons, List.length_nil, List.length_append, List.length_map, List.length_set, List.length_take, List.length_drop]; omega)) fun l9 H9 n9 => ?_
          rw [← Int.natCast_add] at n9
          symm_saturate
          refine ⟨a, dx, t, _, _, ns, rfl, by infer_instance, by infer_instance, by omega, .inr ⟨l9, l5, i, i + k, ms, rfl, rfl, by infer_instance, by omega, ik, .inl (by infer_instance), hms, by omega, fun H10 n10 => ?_⟩⟩
          symm_saturate
          refine st_isi (.ty _) (.base (.lst (by infer_instance))) (kit_ty (r := true) (by decide +kernel)) ?_
          symm_saturate
          refine st_app (by infer_instance) (len_ok (by (simp only [List.length_cons, List.length_nil, List.length_append, List.length_map, List.length_set, List.length_take, List.length_drop] <;> omega))) fun H11 n11 => ?_
          symm_saturate
          refine st_setL (by infer_instance) (m := 0) (ixN_nat (i := 0) (by (simp only [List.length_cons, List.length_nil, List.length_append, List.length_map, List.length_set, List.length_take, List.length_drop] <;> omega))) fun H12 n12 => ?_
          symm_saturate
          refine st_slL (by infer_instance) fun l13 H13 n13 => ?_
          rw [cut_map0 ns (by omega)] at n13
          symm_saturate
          refine st_cat (by infer_instance) (by infer_instance) (by (refine len_ok ?_; simp only [List.length_cons, List.length_nil, List.length_append, List.length_map, List.length_set, List.length_take, List.length_drop]; omega)) fun l14 H14 n14 => ?_
          symm_saturate
          refine st_slL (by infer_instance) fun l15 H15 n15 => ?_
          rw [← Int.natCast_add, cut_map1 ns ik] at n15
          refine st_cat (by infer_instance) (by infer_instance) (by (refine len_ok ?_; simp only [List.length_cons, List.length_nil, List.length_append, List.length_map, List.length_set, List.length_take, List.length_drop]; omega)) fun r H16 n16 => ?_
          refine q r (ns.take i ++ ms ++ ns.drop (i + k)) H16 (Pen.le (by ac_rfl) (show b ≤ _ by omega)) (fun a o e e1 e2 => ?_) (by infer_instance) ?_ (by (simp only [List.length_cons, List.length_nil, List.length_append, List.length_map, List.length_set, List.length_take, List.length_drop] <;> omega)) (ok_app (ok_app (ok_take hit _) hms) (ok_drop hit _)) (by nofun) (by nofun)
          · have e3 : H3 a = some o := by infer_instance
            have : a ≠ D := Ne.symm (none_ne nD e3)
            have h4 : H4 a = some o := by infer_instance
            have : a ≠ l5 := Ne.symm (n5.ne h4)
            infer_instance
          · rw [n16.at_, List.map_append, List.map_append]
        · -- a tuple
          symm_saturate
          refine st_newT (by (refine len_ok ?_; simp only [List.length_cons, List.length_nil, List.length_append, List.length_map, List.length_set, List.length_take, List.length_drop]; omega)) fun l9 H9 n9 => ?_
          rw [← Int.natCast_add] at n9
          symm_saturate
          refine ⟨a, dx, t, _, _, ns, rfl, by infer_instance, by infer_instance, by omega, .inr ⟨l9, l6, i, i + k, ms, rfl, rfl, by infer_instance, by omega, ik, .inr (by infer_instance), hms, by omega, fun H10 n10 => ?_⟩⟩
          symm_saturate
          refine st_isi (.ty _) (.base (.tup (by infer_instance))) (kit_ty (r := false) (by decide +kernel)) ?_
          symm_saturate
          refine st_slL (by infer_instance) fun l13 H13 n13 => ?_
          rw [cut_map0 ns (by omega)] at n13
          symm_saturate
          refine st_cat (by infer_instance) (by infer_instance) (by (refine len_ok ?_; simp only [List.length_cons, List.length_nil, List.length_append, List.length_map, List.length_set, List.length_take, List.length_drop]; omega)) fun l14 H14 n14 => ?_
          symm_saturate
          refine st_slL (by infer_instance) fun l15 H15 n15 => ?_
          rw [← Int.natCast_add, cut_map1 ns ik] at n15
          refine st_cat (by infer_instance) (by infer_instance) (by (refine len_ok ?_; simp only [List.length_cons, List.length_nil, List.length_append, List.length_map, List.length_set, List.length_take, List.length_drop]; omega)) fun r H16 n16 => ?_
          refine q r (ns.take i ++ ms ++ ns.drop (i + k)) H16 (Pen.le (by ac_rfl) (show b ≤ _ by omega)) (fun a o e e1 e2 => ?_) (by infer_instance) ?_ (by (simp only [List.length_cons, List.length_nil, List.length_append, List.length_map, List.length_set, List.length_take, List.length_drop] <;> omega)) (ok_app (ok_app (ok_take hit _) hms) (ok_drop hit _)) (by nofun) (by nofun)
          · have e3 : H3 a = some o := by infer_instance
            have : a ≠ D := Ne.symm (none_ne nD e3)
            have h4 : H4 a = some o := by infer_instance
            have : a ≠ l5 := Ne.symm (n5.ne h4)
            infer_instance
          · rw [n16.at_, List.map_append, List.map_append]
    · symm_saturate
      refine ite2d (fun w3 => ?_) (fun w3 => ?_)
      · symm_saturate
        exact q l ns H1 (pn1.le (by omega)) (fun a o e e1 e2 => by infer_instance) (by infer_instance) (by infer_instance) rfl hit lt lp
      · symm_saturate
        (refine st_draw (by ac_rfl) ?_ ?_ ?_; (focus first | decide | omega); (focus first | decide | exact log_of (by omega) (by omega))); intro d2 H2 a2 b2 pn2 k2
        obtain ⟨i, rfl⟩ : ∃ i : Nat, d2 = i := ⟨d2.toNat, by omega⟩
        have il : i + 1 < ns.length := by
          omega
        have e1 : ns[i]? = some ns[i] := List.getElem?_eq_getElem (by omega)
        have e2 : ns[i + 1]? = some ns[i + 1] := List.getElem?_eq_getElem il
        symm_saturate
        refine ⟨a, dx, t, ns, i, _, _, rfl, by infer_instance, by infer_instance, e1, e2, fun H3 n3 => ?_⟩
        symm_saturate
        refine st_exch (by infer_instance) (by omega) e1 e2 fun r H4 nr s4 hr => ?_
        refine q r _ H4 (Pen.le (by ac_rfl) (show b ≤ _ by omega)) (fun a o e e1 e2 => by infer_instance) (by exact s4 _ _ n3.at_) hr (by unfold swap; (simp only [List.length_cons, List.length_nil, List.length_append, List.length_map, List.length_set, List.length_take, List.length_drop] <;> omega)) ?_ (none_ne nr n3.at_) (none_pen nr (by ac_rfl))
        exact ok_set (ok_set hit (hit _ (List.getElem_mem _))) (hit _ (List.getElem_mem _))
end
end Lw

set_option Elab.async false
set_option linter.all false
set_option maxRecDepth 100000
set_option maxHeartbeats 4000000
set_option pp.maxSteps 900
namespace Lw
open PySem PySem.Spec PyProof.Rows L2 Gh
local macro_rules | `(tactic| nofun) => `(tactic| (first | assumption | exact Ne.symm (by assumption) | (apply nw_pen'; (· assumption); (· assumption); (· ac_rfl)) | (apply Ne.symm; apply nw_pen'; (· assumption); (· assumption); (· ac_rfl)) | (apply nw_cell'; (· assumption); (· assumption); (· ac_rfl)) | (apply Ne.symm; apply nw_cell'; (· assumption); (· assumption); (· ac_rfl)) | (apply none_pen'; (· assumption); (· assumption); (· ac_rfl)) | (apply Ne.symm; apply none_pen'; (· assumption); (· assumption); (· ac_rfl)) | (apply none_cell'; (· assumption); (· assumption); (· ac_rfl)) | (apply Ne.symm; apply none_cell'; (· assumption); (· assumption); (· ac_rfl)) | (apply tup_pen'; (· assumption); (· assumption); (· ac_rfl)) | (apply Ne.symm; apply tup_pen'; (· assumption); (· assumption); (· ac_rfl)) | (apply tup_cell'; (· assumption); (· assumption); (· ac_rfl)) | (apply Ne.symm; apply tup_cell'; (· assumption); (· assumption); (· ac_rfl)) | (apply ins_pen'; (· assumption); (· assumption); (· ac_rfl)) | (apply Ne.symm; apply ins_pen'; (· assumption); (· assumption); (· ac_rfl)) | (apply ins_cell'; (· assumption); (· assumption); (· ac_rfl)) | (apply Ne.symm; apply ins_cell'; (· assumption); (· assumption); (· ac_rfl)) | (apply ins_lst; (· assumption); (· infer_instance)) | (apply Ne.symm; apply ins_lst; (· assumption); (· infer_instance)) | (apply ins_tup; (· assumption); (· infer_instance)) | (apply Ne.symm; apply ins_tup; (· assumption); (· infer_instance)) | (apply tup_lst; (· assumption); (· infer_instance)) | (apply Ne.symm; apply tup_lst; (· assumption); (· infer_instance)) | (apply nw_ne; (· assumption); (· infer_instance)) | (apply Ne.symm; apply nw_ne; (· assumption); (· infer_instance)) | (apply none_ne; (· assumption); (· infer_instance)) | (apply Ne.symm; apply none_ne; (· assumption); (· infer_instance))))
local macro_rules | `(tactic| ac_rfl) => `(tactic| ((repeat (first | assumption | (apply Pen.nw; (focus assumption)) | (apply Pen.same; (focus assumption)) | (apply Pen.mu; (focus assumption); (focus nofun); (focus nofun)) | (apply Pen.keep; (focus assumption); (focus nofun); (focus nofun)))); done))
local macro_rules | `(tactic| infer_instance) => `(tactic| ((repeat (first | assumption | (apply Nw.at_; assumption) | (apply Mu.at_; assumption) | (apply Nw.up; (focus assumption)) | (apply same_up; (focus assumption)) | (apply Mu.up; (focus assumption); (focus nofun)) | (apply keep_up; (focus assumption); (focus nofun)) | (apply keep2_up; (focus assumption); (focus nofun); (focus nofun)))); done))
local macro_rules | `(tactic| symm_saturate) => `(tactic| (repeat (first | with_reducible refine st_seq ?_ | with_reducible refine st_asg ?_ | with_reducible refine st_name ?_ | with_reducible refine st_ret ?_ | with_reducible refine st_drop ?_ | with_reducible refine st_ifS ?_ | with_reducible refine st_nx ?_ | with_reducible refine st_brk ?_ | with_reducible refine st_cnt ?_ | with_reducible refine st_c ?_ | with_reducible refine st_op ?_ | with_reducible refine st_un ?_ | with_reducible refine st_rI0 ?_ | with_reducible refine st_cons ?_ | with_reducible refine st_nil ?_ | with_reducible refine st_cl ?_ | with_reducible refine st_cb ?_ | with_reducible refine st_mt ?_ | with_reducible refine st_pr ?_ | with_reducible refine st_test ?_ | with_reducible refine st_ebl ?_ | with_reducible refine st_eint ?_ | with_reducible refine st_par ?_ | with_reducible refine st_par2 ?_ | with_reducible refine st_and ?_ | with_reducible refine st_or ?_ | with_reducible refine st_not ?_ | with_reducible refine st_andV ?_ | with_reducible refine st_orV ?_ | with_reducible refine st_notV ?_ | with_reducible refine st_ifE ?_ | with_reducible refine st_chain ?_ | with_reducible refine st_lst ?_ | with_reducible refine st_tup ?_ | with_reducible refine st_retN ?_ | with_reducible refine st_rU ?_ | with_reducible refine st_rAdd ?_ | with_reducible refine st_rSub ?_ | with_reducible refine st_isN ?_ | with_reducible refine st_notN ?_ | with_reducible refine st_sF ?_ | with_reducible refine st_int ?_ | with_reducible refine st_intB ?_ | with_reducible refine st_abs ?_ | with_reducible refine st_sl ?_ | with_reducible refine st_part ?_ | with_reducible refine st_nopart ?_ | with_reducible refine st_bm ?_ | with_reducible refine st_bm0 ?_ | with_reducible refine st_tyS ?_ | with_reducible refine st_gsub ?_ | with_reducible refine st_gcons ?_ | with_reducible refine st_gnil ?_ | with_reducible refine st_chain3 ?_ | with_reducible refine st_gsl ?_ | with_reducible refine st_clK ?_ | with_reducible refine st_mtK ?_ | with_reducible refine st_lcR1 ?_ | with_reducible refine st_lcR2 ?_ | with_reducible refine st_lcL ?_ | with_reducible refine st_lcT ?_ | with_reducible refine st_yes ?_ | with_reducible refine st_forR1 ?_ | with_reducible refine st_forR2 ?_ | with_reducible refine st_forL ?_ | with_reducible refine st_forT ?_ | with_reducible refine st_forE ?_ | with_reducible refine st_list ?_ | with_reducible refine st_itup ?_ | with_reducible refine st_tB ?_ | ((with_reducible apply st_var); exact rfl) | ((with_reducible apply st_aug); exact rfl) | ((with_reducible apply st_eq); exact rfl) | ((with_reducible apply st_ne); exact rfl) | ((with_reducible apply st_spK); (focus exact rfl); (focus exact rfl)) | ((with_reducible apply st_rI); (first | decide | (refine Or.inl ⟨?_, ?_⟩ <;> omega) | (refine Or.inr ⟨?_, ?_⟩ <;> omega) | (show (0 : Int) < _; omega) | exact ⟨by omega, log_of (by omega) (by omega)⟩ | exact ⟨by decide, by decide, by decide⟩)) | ((with_reducible apply st_powK); (focus exact ⟨by decide, by decide, by decide⟩); (focus decide)) | ((with_reducible apply st_eR1); (focus omega); (focus omega)) | ((with_reducible apply st_eR2); (focus omega)) | ((with_reducible apply st_if1); (first | with_reducible rfl | assumption | exact rfl | decide | (simp only [decide_eq_true_eq, decide_eq_false_iff_not, Bool.not_eq_true', Bool.not_eq_false', Bool.not_true, Bool.not_false, Bool.true_and, Bool.and_true, Bool.false_and, Bool.and_false, V.int.injEq, V.str.injEq, V.bl.injEq, V.ref.injEq, reduceCtorEq, not_true, not_false_eq_true, decide_true, decide_false, Int.not_lt, Int.not_le, ne_eq, List.length_cons, List.length_nil, List.length_map, List.length_append, List.length_set, List.length_take, List.length_drop] <;> omega))) | ((with_reducible apply st_if0); (first | with_reducible rfl | assumption | exact rfl | decide | (simp only [decide_eq_true_eq, decide_eq_false_iff_not, Bool.not_eq_true', Bool.not_eq_false', Bool.not_true, Bool.not_false, Bool.true_and, Bool.and_true, Bool.false_and, Bool.and_false, V.int.injEq, V.str.injEq, V.bl.injEq, V.ref.injEq, reduceCtorEq, not_true, not_false_eq_true, decide_true, decide_false, Int.not_lt, Int.not_le, ne_eq, List.length_cons, List.length_nil, List.length_map, List.length_append, List.length_set, List.length_take, List.length_drop] <;> omega))) | ((with_reducible apply st_lenL); (focus infer_instance)) | ((with_reducible apply st_lenT); (focus infer_instance)) | ((with_reducible apply st_tupT); (focus infer_instance)) | ((with_reducible apply st_tyL); (focus infer_instance)) | ((with_reducible apply st_elist); (focus infer_instance)) | ((with_reducible apply st_eitup); (focus infer_instance)) | ((with_reducible apply st_eE); (focus infer_instance)) | ((with_reducible apply st_epr); (focus infer_instance)) | ((with_reducible apply st_setO); (focus infer_instance)) | ((with_reducible apply st_ixO); (focus infer_instance)) | ((with_reducible apply st_ixLs); (focus assumption); (focus (first | exact rfl | exact atI_nat (by assumption)))) | ((with_reducible apply st_ixTs); (focus assumption); (focus (first | exact rfl | exact atI_nat (by assumption)))) | ((with_reducible apply st_fld); (focus infer_instance); (focus exact rfl)) | ((with_reducible apply st_const); (focus infer_instance); (focus exact rfl)) | ((with_reducible apply st_emt); (focus infer_instance); (focus exact rfl)) | ((with_reducible apply st_ixL); (focus infer_instance); (focus (first | exact rfl | exact atI_nat (by assumption)))) | ((with_reducible apply st_ixT); (focus infer_instance); (focus (first | exact rfl | exact atI_nat (by assumption)))) | ((with_reducible apply st_gtup); (focus infer_instance); (focus (first | exact rfl | exact atI_nat (by assumption)))))))
local macro_rules | `(tactic| subst_eqs) => `(tactic| (repeat (first | with_reducible refine st_seq ?_ | with_reducible refine st_asg ?_ | with_reducible refine st_name ?_ | with_reducible refine st_ret ?_ | with_reducible refine st_drop ?_ | with_reducible refine st_ifS ?_ | with_reducible refine st_nx ?_ | with_reducible refine st_brk ?_ | with_reducible refine st_cnt ?_ | with_reducible refine st_c ?_ | with_reducible refine st_op ?_ | with_reducible refine st_un ?_ | with_reducible refine st_rI0 ?_ | with_reducible refine st_cons ?_ | with_reducible refine st_nil ?_ | with_reducible refine st_cl ?_ | with_reducible refine st_cb ?_ | with_reducible refine st_mt ?_ | with_reducible refine st_pr ?_ | with_reducible refine st_test ?_ | with_reducible refine st_ebl ?_ | with_reducible refine st_eint ?_ | with_reducible refine st_par ?_ | with_reducible refine st_par2 ?_ | with_reducible refine st_and ?_ | with_reducible refine st_or ?_ | with_reducible refine st_not ?_ | with_reducible refine st_andV ?_ | with_reducible refine st_orV ?_ | with_reducible refine st_notV ?_ | with_reducible refine st_ifE ?_ | with_reducible refine st_chain ?_ | with_reducible refine st_lst ?_ | with_reducible refine st_tup ?_ | with_reducible refine st_retN ?_ | with_reducible refine st_rU ?_ | with_reducible refine st_rAdd ?_ | with_reducible refine st_rSub ?_ | with_reducible refine st_isN ?_ | with_reducible refine st_notN ?_ | with_reducible refine st_sF ?_ | with_reducible refine st_int ?_ | with_reducible refine st_intB ?_ | with_reducible refine st_abs ?_ | with_reducible refine st_sl ?_ | with_reducible refine st_part ?_ | with_reducible refine st_nopart ?_ | with_reducible refine st_bm ?_ | with_reducible refine st_bm0 ?_ | with_reducible refine st_tyS ?_ | with_reducible refine st_gsub ?_ | with_reducible refine st_gcons ?_ | with_reducible refine st_gnil ?_ | with_reducible refine st_chain3 ?_ | with_reducible refine st_gsl ?_ | with_reducible refine st_clK ?_ | with_reducible refine st_mtK ?_ | with_reducible refine st_lcR1 ?_ | with_reducible refine st_lcR2 ?_ | with_reducible refine st_lcL ?_ | with_reducible refine st_lcT ?_ | with_reducible refine st_yes ?_ | with_reducible refine st_forR1 ?_ | with_reducible refine st_forR2 ?_ | with_reducible refine st_forL ?_ | with_reducible refine st_forT ?_ | with_reducible refine st_forE ?_ | with_reducible refine st_list ?_ | with_reducible refine st_itup ?_ | with_reducible refine st_tB ?_ | ((with_reducible apply st_var); exact rfl) | ((with_reducible apply st_aug); exact rfl) | ((with_reducible apply st_eq); exact rfl) | ((with_reducible apply st_ne); exact rfl) | ((with_reducible apply st_spK); (focus exact rfl); (focus exact rfl)) | ((with_reducible apply st_rI); (first | decide | (refine Or.inl ⟨?_, ?_⟩ <;> omega) | (refine Or.inr ⟨?_, ?_⟩ <;> omega) | (show (0 : Int) < _; omega) | exact ⟨by omega, log_of (by omega) (by omega)⟩ | exact ⟨by decide, by decide, by decide⟩)) | ((with_reducible apply st_powK); (focus exact ⟨by decide, by decide, by decide⟩); (focus decide)) | ((with_reducible apply st_eR1); (focus omega); (focus omega)) | ((with_reducible apply st_eR2); (focus omega)) | ((with_reducible apply st_if1); (first | with_reducible rfl | assumption | exact rfl | decide | (simp only [decide_eq_true_eq, decide_eq_false_iff_not, Bool.not_eq_true', Bool.not_eq_false', Bool.not_true, Bool.not_false, Bool.true_and, Bool.and_true, Bool.false_and, Bool.and_false, V.int.injEq, V.str.injEq, V.bl.injEq, V.ref.injEq, reduceCtorEq, not_true, not_false_eq_true, decide_true, decide_false, Int.not_lt, Int.not_le, ne_eq, List.length_cons, List.length_nil, List.length_map, List.length_append, List.length_set, List.length_take, List.length_drop] <;> omega))) | ((with_reducible apply st_if0); (first | with_reducible rfl | assumption | exact rfl | decide | (simp only [decide_eq_true_eq, decide_eq_false_iff_not, Bool.not_eq_true', Bool.not_eq_false', Bool.not_true, Bool.not_false, Bool.true_and, Bool.and_true, Bool.false_and, Bool.and_false, V.int.injEq, V.str.injEq, V.bl.injEq, V.ref.injEq, reduceCtorEq, not_true, not_false_eq_true, decide_true, decide_false, Int.not_lt, Int.not_le, ne_eq, List.length_cons, List.length_nil, List.length_map, List.length_append, List.length_set, List.length_take, List.length_drop] <;> omega))) | ((with_reducible apply st_lenL); (focus infer_instance)) | ((with_reducible apply st_lenT); (focus infer_instance)) | ((with_reducible apply st_tupT); (focus infer_instance)) | ((with_reducible apply st_tyL); (focus infer_instance)) | ((with_reducible apply st_elist); (focus infer_instance)) | ((with_reducible apply st_eitup); (focus infer_instance)) | ((with_reducible apply st_eE); (focus infer_instance)) | ((with_reducible apply st_epr); (focus infer_instance)) | ((with_reducible apply st_setO); (focus infer_instance)) | ((with_reducible apply st_ixO); (focus infer_instance)) | ((with_reducible apply st_ixLs); (focus assumption); (focus (first | exact rfl | exact atI_nat (by assumption)))) | ((with_reducible apply st_ixTs); (focus assumption); (focus (first | exact rfl | exact atI_nat (by assumption)))) | ((with_reducible apply st_fld); (focus infer_instance); (focus exact rfl)) | ((with_reducible apply st_const); (focus infer_instance); (focus exact rfl)) | ((with_reducible apply st_emt); (focus infer_instance); (focus exact rfl)) | ((with_reducible apply st_ixL); (focus infer_instance); (focus (first | exact rfl | exact atI_nat (by assumption)))) | ((with_reducible apply st_ixT); (focus infer_instance); (focus (first | exact rfl | exact atI_nat (by assumption)))) | ((with_reducible apply st_gtup); (focus infer_instance); (focus (first | exact rfl | exact atI_nat (by assumption)))) | ((with_reducible apply st_newL); (focus (refine len_ok ?_; simp only [List.length_cons, List.length_nil, List.length_append, List.length_map, List.length_set, List.length_take, List.length_drop]; omega)); intro l Hn nw) | ((with_reducible apply st_newT); (focus (refine len_ok ?_; simp only [List.length_cons, List.length_nil, List.length_append, List.length_map, List.length_set, List.length_take, List.length_drop]; omega)); intro l Hn nw) | ((with_reducible apply st_listL); (focus infer_instance); intro l Hn nw) | ((with_reducible apply st_listT); (focus infer_instance); intro l Hn nw) | ((with_reducible apply st_tupL); (focus infer_instance); intro l Hn nw) | ((with_reducible apply st_slL); (focus infer_instance); intro l Hn nw) | ((with_reducible apply st_cat); (focus infer_instance); (focus infer_instance); (focus (refine len_ok ?_; simp only [List.length_cons, List.length_nil, List.length_append, List.length_map, List.length_set, List.length_take, List.length_drop]; omega)); intro l Hn nw))))
section
variable {P : Program} {w : World} {K : PySem.W.Frag} {mg : Str → Option Value} {base : Heap} {f : Addr} {fd : FuncData}
def spRight (C : Addr) : Sp := fun vs H Q _ => ∃ (p c : Addr) (b : Nat) (a dx t l : Addr) (ns : List Int), vs = [.ref p, .ref a, .ref l] ∧ Pen H p c (b + 6) ∧ Rob C H a dx t ∧ H t = some (.lst (ns.map V.int)) ∧ H l = some (.lst (ns.map V.int)) ∧
  t ≠ p ∧ l ≠ p ∧ ns.length ≤ 9 ∧ itemsOk ns ∧ ∀ H', Pen H' p c b → Keep H H' p → Q (.bl true) H'
theorem ok_big {ns : List Int} (h : itemsOk ns) : ∀ n ∈ ns, -(10 ^ 100) < n ∧ n < 10 ^ 100 := fun n hn => by
  have := h n hn
  unfold isItem at this
  omega
theorem ok_str {ns : List Int} (h : itemsOk ns) (i j : Nat) : itemsOk (stretch ns i j) := ok_take (ok_drop h i) _
abbrev N__law_read_right : List Str := ["_law_pen_here", "_law_row", "_law_items", "_law_again", "_law_begin", "_law_end", "_law_found", "_law_at"]
theorem sc__law_read_right : FnScope N__law_read_right ["_law_pen_here", "_law_row", "_law_items"] (defScope s__law_read_right) := ⟨rfl, rfl, rfl, by decide +kernel, rfl, by decide +kernel, by decide +kernel⟩
theorem ok__law_read_right (F : FnA K d__law_read_right fd) (T : Tx K mg) (G_Row___getitem__ : PromO P w K mg base CX0 4 (md "Row" "__getitem__" K) [] (spGet (gd "Row" K))) (G__law_draw : PromO P w K mg base CX0 1 (gd "_law_draw" K) [] spDr) (G_Row_contents : PromO P w K mg base CX0 1 (propG "Row" "contents" K) [] (spContents (gd "Row" K))) : FnG P w K mg base CX0 6 (d__law_read_right.adr K) fd ["_law_pen_here", "_law_row", "_law_items"] (spRight (gd "Row" K)) := by
  refine fnG0 F sc__law_read_right (fun vs H Q E h => by (repeat (first | (obtain ⟨rfl, _⟩ := h; rfl) | (obtain ⟨_, h⟩ := h)))) (fun cdv A outer s H vs Q E hr hg h => ?_)
  have hu100 := Nat.lt_of_le_of_lt (Nat.add_le_add_left (show 102 ≤ 16 * 5 + 200 by decide) _) (show _ + (16 * 5 + 200) < cLine from hr.un)
  refine ⟨_, (pss_cons (ps_if (pt_cmpR (op_neDK (K := K) rfl hr.units) (pe_lc (own := [("_law_at", 7)]) (g := gName 7) (by rfl) sc__law_read_right.nd (pi_range1 (by rfl) T.f_range (pa_cons (pe_callB (cr_len (K := K) rfl) (by rfl) T.f_len (by decide +kernel) (pa_cons (pv 2) pa_nil)) pa_nil)) (blkOk_by (own := [("_law_at", 7)]) (N := N__law_read_right) (sc := defScope s__law_read_right) (by decide +kernel))
        (fun _ _ _ _ _ => pg_name (i := 7) sc__law_read_right.nd rfl (Or.inl rfl)) (fun _ _ _ _ _ => pts_nil) (fun _ _ _ _ _ => (pe_ixO (pv 1) (pv 7) T.ix_Row G_Row___getitem__ (hr.mono (by decide)) pass0))) (pv 2) (nomark _))
      (pss_one (ps_ret pe_bl)) pss_nil)
      (pss_cons (ps_for PassesOwn.never rfl (pi_range1 (by rfl) T.f_range (pa_cons pe_int pa_nil)) (pg_name (i := 3) sc__law_read_right.nd rfl (.inl rfl))
      (pss_cons (ps_set (i := 4) sc__law_read_right.nd rfl (.inl rfl) (pe_g (PromO.call G__law_draw (hr.mono (by decide)) pass0) (by rfl) T.g__law_draw T.k__law_draw (pa_cons (pv 0) (pa_cons (pe_op op_add (pe_callB (cr_len (K := K) rfl) (by rfl) T.f_len (by decide +kernel) (pa_cons (pv 2) pa_nil)) pe_int) pa_nil))))
      (pss_cons (ps_set (i := 5) sc__law_read_right.nd rfl (.inl rfl) (pe_op op_add (pv 4) (pe_g (PromO.call G__law_draw (hr.mono (by decide)) pass0) (by rfl) T.g__law_draw T.k__law_draw (pa_cons (pv 0) (pa_cons (pe_op op_sub (pe_op op_add (pe_callB (cr_len (K := K) rfl) (by rfl) T.f_len (by decide +kernel) (pa_cons (pv 2) pa_nil)) pe_int) (pv 4)) pa_nil)))))
      (pss_cons (ps_set (i := 6) sc__law_read_right.nd rfl (.inl rfl) (pe_ixO (pv 1) (pe_tup (pa_cons (pv 4) (pa_cons (pv 5) pa_nil))) T.ix_Row G_Row___getitem__ (hr.mono (by decide)) pass0))
      (pss_cons (ps_if (PW.pt (pw_or (pt_not (pt_val (pe_callB (call_isiK1 (K := K) rfl) (by rfl) T.f_isinstance (by decide +kernel) (pa_cons (pv 6) (pa_cons (pe_bltn (v := .ty "list") (by rfl) T.f_list (by decide +kernel) rfl) pa_nil))))) (pw_or1 (pt_cmpR op_ne (pe_callB (call_show (K := K) rfl hu100 hg) (by rfl) T.f_repr (by decide +kernel) (pa_cons (pv 6) pa_nil)) (pe_callB (call_show (K := K) rfl hu100 hg) (by rfl) T.f_repr (by decide +kernel) (pa_cons (pe_slice (sl_listK (K := K) rfl) (pv 2) (po_some (pv 4)) (po_some (pv 5))) pa_nil)) (nomark _)))))
      (pss_one (ps_ret pe_bl)) pss_nil)
      (pss_one (ps_expr (pe_bm PySem.F.plainAttrs_list PySem.F.slot_list_append PySem.F.type_list_append mt_append (pv 6) (pa_cons pe_int pa_nil)))))))))
      (pss_one (ps_ret (pe_cmpR op_eq (pe_callB (call_show (K := K) rfl hu100 hg) (by rfl) T.f_repr (by decide +kernel) (pa_cons (pe_po (pv 1) T.cl_Row T.pr_Row_contents G_Row_contents (hr.mono (by decide)) pass0) pa_nil)) (pe_callB (call_show (K := K) rfl hu100 hg) (by rfl) T.f_repr (by decide +kernel) (pa_cons (pe_callTy (cr_tupOf (K := K) rfl) (by rfl) T.f_tuple (by decide +kernel) (pa_cons (pv 2) pa_nil)) pa_nil)) (nomark _)))))), ?_⟩
  obtain ⟨p, c, b, a, dx, t, l, ns, rfl, pn, ha, ht, hl, tp, lp, l9, hit, q⟩ := h
  have ll : (ns.map V.int).length = ns.length := List.length_map ..
  symm_saturate
  refine lcR (fun D j H4 acc => acc = (ns.take j).map V.int ∧ L2.Same H H4) (fun _ => rfl) (fun D H4 n4 => ⟨rfl, n4.same⟩) ?_ ?_
  · rintro D j H4 acc nD hj la hD ⟨rfl, s4⟩
    have jl : j < ns.length := by omega
    have ej : ns[j]? = some ns[j] := List.getElem?_eq_getElem jl
    symm_saturate
    rw [Int.zero_add]
    refine ⟨a, dx, t, _, ns, rfl, by infer_instance, by infer_instance, .inl ⟨j, _, rfl, ej, ?_⟩⟩
    refine st_push hD la (by omega) fun H6 n6 => ⟨?_, fun b o e => n6.up (none_ne nD e).symm (s4 _ _ e)⟩
    rw [List.take_add_one, ej, List.map_append]
    rfl
  · rintro D H4 acc nD la hD ⟨rfl, s4⟩
    rw [show ((((ns.map V.int).length : Nat) : Int)).toNat = ns.length by omega, List.take_length] at hD
    symm_saturate
    refine st_neD (.lst (SqL.of hD) (dp_ints K _ ns)) (.lst (SqL.of (by infer_instance)) (dp_ints K _ ns)) (PySem.W.ke_shaped_ints ns) (PySem.W.ke_shaped_ints ns) ?_
    rw [(Fn.list (FnAll.ints (ok_big hit))).eqv]
    symm_saturate
    refine forR (fun j σ H5 => ∃ y3 y4 y5 y6 y7, σ = [some (.ref p), some (.ref a), some (.ref l), y3, y4, y5, y6, y7] ∧ Pen H5 p c (b + 2 * (3 - j)) ∧ Keep H H5 p) ⟨_, _, _, _, _, rfl, by ac_rfl, fun a o e _ => s4 _ _ e⟩ ?_ ?_
    · rintro j σ H5 hj ⟨y3, y4, y5, y6, y7, rfl, pn5, k5⟩
      replace pn5 : Pen H5 p c (b + 2 * (3 - (j + 1)) + 2) := pn5.le (by omega)
      clear s4 hD
      symm_saturate
      (refine st_draw (by ac_rfl) ?_ ?_ ?_; (focus first | decide | omega); (focus first | decide | exact log_of (by omega) (by omega))); intro d6 H6 a6 b6 pn6 k6
      obtain ⟨i, rfl⟩ : ∃ i : Nat, d6 = i := ⟨d6.toNat, by omega⟩
      symm_saturate
      (refine st_draw (by ac_rfl) ?_ ?_ ?_; (focus first | decide | omega); (focus first | decide | exact log_of (by omega) (by omega))); intro d7 H7 a7 b7 pn7 k7
      obtain ⟨k, rfl⟩ : ∃ k : Nat, d7 = k := ⟨d7.toNat, by omega⟩
      have ik : i + k ≤ ns.length := by omega
      symm_saturate
      refine st_newT (by (refine len_ok ?_; simp only [List.length_cons, List.length_nil, List.length_append, List.length_map, List.length_set, List.length_take, List.length_drop]; omega)) fun l8 H8 n8 => ?_
      rw [← Int.natCast_add] at n8
      symm_saturate
      refine ⟨a, dx, t, _, ns, rfl, by infer_instance, by infer_instance, .inr ⟨l8, i, i + k, rfl, by infer_instance, by omega, ik, fun l9 H9 n9 => ?_⟩⟩
      symm_saturate
      refine st_isi (.ty _) (.base (.lst (by infer_instance))) (kit_ty (r := true) (by decide +kernel)) ?_
      symm_saturate
      have sl : (stretch ns i (i + k)).length ≤ 80000 := by unfold stretch; (simp only [List.length_cons, List.length_nil, List.length_append, List.length_map, List.length_set, List.length_take, List.length_drop] <;> omega)
      refine st_show (shw_lst (by infer_instance) sl (ok_big (ok_str hit _ _))) ?_
      symm_saturate
      refine st_slL (by infer_instance) fun l10 H10 n10 => ?_
      rw [← Int.natCast_add, cut_map ns (by omega) ik] at n10
      symm_saturate
      refine st_show (shw_lst (by infer_instance) sl (ok_big (ok_str hit _ _))) ?_
      symm_saturate
      refine st_app (by infer_instance) (len_ok (by (simp only [List.length_cons, List.length_nil, List.length_append, List.length_map, List.length_set, List.length_take, List.length_drop] <;> omega))) fun H11 n11 => ?_
      refine ⟨_, _, _, _, _, rfl, ?_, fun a o e ne => ?_⟩
      · have : l9 ≠ p := by nofun
        have : l9 ≠ c := by nofun
        ac_rfl
      · have h8 : H8 a = some o := by infer_instance
        have := (n9.ne h8).symm
        infer_instance
    · rintro σ H5 ⟨y3, y4, y5, y6, y7, rfl, pn5, k5⟩
      symm_saturate
      refine ⟨a, dx, t, ns, rfl, by infer_instance, by infer_instance, fun l6 H6 n6 => ?_⟩
      symm_saturate
      refine st_show (shw_tup (by infer_instance) (by omega) (ok_big hit)) ?_
      symm_saturate
      refine st_tupL (by infer_instance) fun l7 H7 n7 => ?_
      symm_saturate
      refine st_show (shw_tup (by infer_instance) (by omega) (ok_big hit)) ?_
      symm_saturate
      rw [decide_eq_true rfl]
      exact q _ (by ac_rfl) (fun a o e ne => by infer_instance)
theorem st_right {C : Addr} {H : Hp} {Q : VK} {E : XK} {p c : Addr} {b : Nat} {a dx t l : Addr} {ns : List Int} (pn : Pen H p c (b + 6)) (h1 : Rob C H a dx t) (h2 : H t = some (.lst (ns.map V.int))) (h3 : H l = some (.lst (ns.map V.int))) (tp : t ≠ p) (lp : l ≠ p) (l9 : ns.length ≤ 9) (hit : itemsOk ns) (q : ∀ H', Pen H' p c b → Keep H H' p → Q (.bl true) H') : rSp (spRight C) [] E [.ref p, .ref a, .ref l] H Q :=
  ⟨p, c, b, a, dx, t, l, ns, rfl, pn, h1, h2, h3, tp, lp, l9, hit, q⟩
def spLaw (K : PySem.W.Frag) : Sp := fun vs H Q _ => ∃ (a : Addr) (ns : List Int), vs = [.ref a] ∧ SqL K H a (ns.map V.int) ∧ ns.length ≤ 63 ∧ ∀ H', Q (.bl true) H'
abbrev N_law : List Str := ["_law_script", "_law_pen_here", "_law_turn", "_law_items", "_law_row", "_law_other", "_law_step", "_law_due", "_law_k"]
theorem sc_law : FnScope N_law ["_law_script"] (defScope s_law) := ⟨rfl, rfl, rfl, by decide +kernel, rfl, by decide +kernel, by decide +kernel⟩
theorem ok_law (F : FnA K d_law fd) (T : Tx K mg) (G__law_pen : PromO P w K mg base CX0 1 (gd "_law_pen" K) [] (spPn K)) (G__law_draw : PromO P w K mg base CX0 1 (gd "_law_draw" K) [] spDr) (G__law_item : PromO P w K mg base CX0 3 (gd "_law_item" K) [] spIt) (G_Row___init__ : PromO P w K mg base CX0 4 (md "Row" "__init__" K) [] (spInit (gd "Row" K))) (G__law_deed : PromO P w K mg base CX0 5 (gd "_law_deed" K) [] (spDeed (gd "Row" K))) (G__law_read_right : Prom P w K mg base CX0 6 (gd "_law_read_right" K) [] (spRight (gd "Row" K))) : FnG P w K mg base CX0 7 (d_law.adr K) fd ["_law_script"] (spLaw K) := by
  refine fnG0 F sc_law (fun vs H Q E h => by (repeat (first | (obtain ⟨rfl, _⟩ := h; rfl) | (obtain ⟨_, h⟩ := h)))) (fun cdv A outer s H vs Q E hr hg h => ?_)
  have hu100 := Nat.lt_of_le_of_lt (Nat.add_le_add_left (show 102 ≤ 16 * 6 + 200 by decide) _) (show _ + (16 * 6 + 200) < cLine from hr.un)
  refine ⟨_, (pss_cons (ps_set (i := 1) sc_law.nd rfl (.inr rfl) (pe_g (PromO.call G__law_pen (hr.mono (by decide)) pass0) (by rfl) T.g__law_pen T.k__law_pen (pa_cons (pv 0) pa_nil)))
      (pss_cons (ps_for PassesOwn.never rfl (pi_range1 (by rfl) T.f_range (pa_cons pe_int pa_nil)) (pg_name (i := 2) sc_law.nd rfl (.inl rfl))
      (pss_cons (ps_setLc (i := 3) (own := [("_law_k", 8)]) (g := gName 8) (by rfl) sc_law.nd rfl rfl (sw_true rfl rfl rfl (by decide +kernel)) (pi_range1 (by rfl) T.f_range (pa_cons (pe_op op_add pe_int (pe_g (PromO.call G__law_draw (hr.mono (by decide)) pass0) (by rfl) T.g__law_draw T.k__law_draw (pa_cons (pv 1) (pa_cons pe_int pa_nil)))) pa_nil)) (blkOk_by (own := [("_law_k", 8)]) (N := N_law) (sc := defScope s_law) (by decide +kernel))
        (fun _ _ _ _ _ => pg_name (i := 8) sc_law.nd rfl (Or.inl rfl)) (fun _ _ _ _ _ => pts_nil) (fun _ _ _ _ _ => (pe_g (PromO.call G__law_item (hr.mono (by decide)) pass0) (by rfl) T.g__law_item T.k__law_item (pa_cons (pv 1) pa_nil))))
      (pss_cons (ps_set (i := 4) sc_law.nd rfl (.inl rfl) (pe_g (PromO.make T.mk_Row G_Row___init__ (hr.mono (by decide)) pass0) (by rfl) T.g_Row T.k_Row (pa_cons (pv 3) pa_nil)))
      (pss_cons (ps_set (i := 5) sc_law.nd rfl (.inl rfl) (pv 4))
      (pss_one (ps_for PassesOwn.never rfl (pi_range1 (by rfl) T.f_range (pa_cons (pe_g (PromO.call G__law_draw (hr.mono (by decide)) pass0) (by rfl) T.g__law_draw T.k__law_draw (pa_cons (pv 1) (pa_cons pe_int pa_nil))) pa_nil)) (pg_name (i := 6) sc_law.nd rfl (.inl rfl))
      (pss_cons (ps_set (i := 7) sc_law.nd rfl (.inl rfl) (pe_g (PromO.call G__law_deed (hr.mono (by decide)) pass0) (by rfl) T.g__law_deed T.k__law_deed (pa_cons (pv 1) (pa_cons (pe_ifExp (pt_cmpR op_eq (pe_g (PromO.call G__law_draw (hr.mono (by decide)) pass0) (by rfl) T.g__law_draw T.k__law_draw (pa_cons (pv 1) (pa_cons pe_int pa_nil))) pe_int (nomark _)) (pv 4) (pv 5)) (pa_cons (pe_callTy (cr_listOf (K := K) rfl) (by rfl) T.f_list (by decide +kernel) (pa_cons (pv 3) pa_nil)) pa_nil)))))
      (pss_cons (ps_if (pt_cmpR or_isN (pv 7) pe_non (nomark _))
      (pss_one (ps_ret pe_bl)) pss_nil)
      (pss_cons (ps_set (i := 3) sc_law.nd rfl (.inl rfl) (pv 7))
      (pss_one (ps_if (PW.pt (pw_or (pt_not (pt_val (pe_g (Prom.call G__law_read_right (hr.mono (by decide)) hg pass0) (by rfl) T.g__law_read_right T.k__law_read_right (pa_cons (pv 1) (pa_cons (pv 4) (pa_cons (pv 3) pa_nil)))))) (pw_or1 (pt_not (pt_val (pe_g (Prom.call G__law_read_right (hr.mono (by decide)) hg pass0) (by rfl) T.g__law_read_right T.k__law_read_right (pa_cons (pv 1) (pa_cons (pv 5) (pa_cons (pv 3) pa_nil)))))))))
      (pss_one (ps_ret pe_bl)) pss_nil)))))))))))
      (pss_one (ps_ret pe_bl)))), ?_⟩
  obtain ⟨a0, ns0, rfl, hS, hl, q⟩ := h
  symm_saturate
  refine ⟨a0, ns0, rfl, hS, hl, fun p c H0 np pn0 s0 => ?_⟩
  symm_saturate
  refine forR (fun j σ H1 => ∃ y2 y3 y4 y5 y6 y7 y8, σ = [some (.ref a0), some (.ref p), y2, y3, y4, y5, y6, y7, y8] ∧ Pen H1 p c (10000 * (4 - j))) ⟨_, _, _, _, _, _, _, rfl, pn0.le (by omega)⟩ ?_ ?_
  · rintro j σ H1 hj ⟨y2, y3, y4, y5, y6, y7, y8, rfl, pn1⟩
    obtain ⟨B, hB⟩ : ∃ B, B = 10000 * (4 - (j + 1)) := ⟨_, rfl⟩
    replace pn1 : Pen H1 p c (B + 10000) := pn1.le (by omega)
    symm_saturate
    (refine st_draw (by ac_rfl) ?_ ?_ ?_; (focus first | decide | omega); (focus first | decide | exact log_of (by omega) (by omega))); intro d2 H2 a2 b2 pn2 k2
    obtain ⟨k, rfl⟩ : ∃ k : Nat, d2 = k := ⟨d2.toNat, by omega⟩
    symm_saturate
    refine lcR (fun D j H4 acc => ∃ ms : List Int, acc = ms.map V.int ∧ ms.length = j ∧ itemsOk ms ∧ Pen H4 p c (B + 9000 + 4 * (9 - j)) ∧ Keep H2 H4 p) (fun _ => rfl) (fun D H4 n4 => ⟨[], rfl, rfl, fun _ z => (by cases z), Pen.le (by ac_rfl) (by omega), fun a o e _ => n4.up e⟩) ?_ ?_
    · rintro D j H4 acc nD hj la hD ⟨ms, rfl, rfl, hms, pn4, k4⟩
      have pn4' : Pen H4 p c ((B + 9000 + 4 * (9 - (ms.length + 1))) + 4) := pn4.le (by omega)
      have nDp : D ≠ p := by nofun
      have nDc : D ≠ c := by nofun
      symm_saturate
      refine st_it pn4' fun x H5 hx pn5 k5 => ?_
      refine st_push (by infer_instance) la (by omega) fun H6 n6 => ?_
      refine ⟨ms ++ [x], by rw [List.map_append]; rfl, by rw [List.length_append]; rfl, ok_app hms (fun n hn => by rw [List.mem_singleton.mp hn]; exact hx), by ac_rfl, fun a o e ne => ?_⟩
      have : a ≠ D := Ne.symm (none_ne nD e)
      infer_instance
    · rintro D H4 acc nD la hD ⟨ms, rfl, lm, hms, pn4, k4⟩
      replace pn4 : Pen H4 p c (B + 9000) := pn4.le (by omega)
      have nDp : D ≠ p := by nofun
      have ml1 : 1 ≤ ms.length := by omega
      have ml9 : ms.length ≤ 9 := by omega
      symm_saturate
      refine st_mkRow (.inl hD) hms ml1 (by omega) fun x dx t H5 nx nt xt s5 e5 e6 => ?_
      have tp : t ≠ p := none_pen nt pn4
      have tc : t ≠ c := none_cell nt pn4
      have nDt : D ≠ t := (none_ne nt hD).symm
      symm_saturate
      (refine st_draw (by ac_rfl) ?_ ?_ ?_; (focus first | decide | omega); (focus first | decide | exact log_of (by omega) (by omega))); intro d6 H6 a6 b6 pn6 k6
      have pn6' : Pen H6 p c (B + 8000) := pn6.le (by omega)
      symm_saturate
      have x6 : Rob (gd "Row" K) H6 x dx t := by infer_instance
      have t6 : H6 t = some (.lst (ms.map V.int)) := by infer_instance
      have D6 : H6 D = some (.lst (ms.map V.int)) := by infer_instance
      clear hD s5 e5 e6 pn4 pn6 k4 k6 pn1
      refine forR (fun i σ H7 => ∃ y6 y7 l ms, σ = [some (.ref a0), some (.ref p), some (.int (0 + (j : Nat))), some (.ref l), some (.ref x), some (.ref x), y6, y7, y8] ∧ Pen H7 p c (B + 200 * (17 - i)) ∧ Rob (gd "Row" K) H7 x dx t ∧ H7 t = some (.lst (ms.map V.int)) ∧ H7 l = some (.lst (ms.map V.int)) ∧ l ≠ p ∧ l ≠ t ∧ 1 ≤ ms.length ∧ ms.length ≤ 9 ∧ itemsOk ms)
        ⟨_, _, D, ms, rfl, pn6'.le (by omega), x6, t6, D6, nDp, nDt, ml1, ml9, hms⟩ ?_ ?_
      · clear ml1 ml9 hms x6 t6 D6 pn6' lm la nDp nDt nD
        rintro i σ H7 hi ⟨y6, y7, l, ms, rfl, pn7, x7, t7, l7, lp, lt, ml1, ml9, hms⟩
        replace pn7 : Pen H7 p c (B + 200 * (17 - (i + 1)) + 199 + 1) := pn7.le (by omega)
        symm_saturate
        (refine st_draw (by ac_rfl) ?_ ?_ ?_; (focus first | decide | omega); (focus first | decide | exact log_of (by omega) (by omega))); intro d8 H8 a8 b8 pn8 k8
        symm_saturate
        refine ite2d (fun w8 => ?_) (fun w8 => ?_)
        all_goals
          symm_saturate
          refine st_listL (by infer_instance) fun l9 H9 n9 => ?_
          symm_saturate
          have pn9 : Pen H9 p c ((B + 200 * (17 - (i + 1)) + 99) + 100) := by ac_rfl
          refine ⟨p, c, B + 200 * (17 - (i + 1)) + 99, x, dx, t, l9, ms, rfl, pn9, by infer_instance, by infer_instance, by infer_instance, tp, tc, by nofun, by nofun, ml1, ml9, hms, fun r ks H10 pn10 k10 t10 r10 lk hks rt rp => ?_⟩
          have x10 : Rob (gd "Row" K) H10 x dx t := by infer_instance
          symm_saturate
          refine st_right (b := B + 200 * (17 - (i + 1)) + 93) (by ac_rfl) x10 t10 r10 tp rp (by omega) hks fun H11 pn11 k11 => ?_
          symm_saturate
          refine st_right (b := B + 200 * (17 - (i + 1)) + 87) (by ac_rfl) (by infer_instance) (by infer_instance) (by infer_instance) tp rp (by omega) hks fun H12 pn12 k12 => ?_
          symm_saturate
          exact ⟨_, _, r, ks, rfl, pn12.le (by omega), by infer_instance, by infer_instance, by infer_instance, rp, rt, by omega, by omega, hks⟩
      · rintro σ H7 ⟨y6, y7, l, ms, rfl, pn7, _⟩
        exact ⟨_, _, _, _, _, _, _, rfl, pn7.le (by omega)⟩
  · rintro σ H1 ⟨y2, y3, y4, y5, y6, y7, y8, rfl, pn1⟩
    symm_saturate
    exact q _
end
end Lw

set_option Elab.async false
set_option linter.all false
set_option maxRecDepth 100000
set_option maxHeartbeats 8000000
namespace Lw
open PySem PySem.Spec PyProof.Rows L2 Gh
theorem pm_PromO {P : Program} {w : World} {K : PySem.W.Frag} {mg : Str → Option Value} {base : Heap} {CX : CXT} {k : Nat} {f : Addr} {fd : FuncData} {ps : List Str} {sp : Sp} (G : FnOk P w K mg base CX k f fd ps sp) (b : Binds K fd ps []) : PromO P w K mg base CX k f [] sp := ⟨fd, ps, [], G, b, .nil⟩
theorem pm_Prom {P : Program} {w : World} {K : PySem.W.Frag} {mg : Str → Option Value} {base : Heap} {CX : CXT} {k : Nat} {f : Addr} {fd : FuncData} {ps : List Str} {sp : Sp} (G : FnG P w K mg base CX k f fd ps sp) (b : Binds K fd ps []) : Prom P w K mg base CX k f [] sp := ⟨fd, ps, [], G, b, .nil⟩
theorem facts {P : Program} {w : World} {K : PySem.W.Frag} {h : Heap} {mg : Str → Option Value} {f : Addr} (X : K.In h) (G : h.Ns mainGlobals mg) (hfa : mg ("law" : Str) = some (.ref f)) (c : Says exs fns K) (gl : (He.Fa.glo "law").ok K = true) :
    ∃ fd : FuncData, (∀ (s : Shared) (v : Value), BindsTo s fd ⟨[v], []⟩ [("_law_script", v)]) ∧ ∀ base : Heap, K.In base → base.Ns mainGlobals mg → FnG P w K mg base CX0 7 f fd ["_law_script"] (spLaw K) := by
  have T : Tx K mg := tx_of X G c
  have e := hfa.symm.trans (He.glo_ok X G gl)
  cases e
  obtain ⟨f0, F0⟩ := c.def_ 0 (d := d_is_integer) rfl
  obtain ⟨f1, F1⟩ := c.def_ 1 (d := d_is_within) rfl
  obtain ⟨f2, F2⟩ := c.def_ 2 (d := d_is_item) rfl
  obtain ⟨f3, F3⟩ := c.def_ 3 (d := d_need_items) rfl
  obtain ⟨f4, F4⟩ := c.def_ 4 (d := d_Row___init__) rfl
  obtain ⟨f5, F5⟩ := c.def_ 5 (d := d_Row_contents) rfl
  obtain ⟨f6, F6⟩ := c.def_ 6 (d := d_Row_need_place) rfl
  obtain ⟨f7, F7⟩ := c.def_ 7 (d := d_Row_need_stretch) rfl
  obtain ⟨f8, F8⟩ := c.def_ 8 (d := d_Row_exchange) rfl
  obtain ⟨f9, F9⟩ := c.def_ 9 (d := d_Row___getitem__) rfl
  obtain ⟨f10, F10⟩ := c.def_ 10 (d := d_Row___setitem__) rfl
  obtain ⟨f11, F11⟩ := c.def_ 11 (d := d__law_pen) rfl
  obtain ⟨f12, F12⟩ := c.def_ 12 (d := d__law_draw) rfl
  obtain ⟨f13, F13⟩ := c.def_ 13 (d := d__law_pick) rfl
  obtain ⟨f14, F14⟩ := c.def_ 14 (d := d__law_item) rfl
  obtain ⟨f15, F15⟩ := c.def_ 15 (d := d__law_exchanged) rfl
  obtain ⟨f16, F16⟩ := c.def_ 16 (d := d__law_deed) rfl
  obtain ⟨f17, F17⟩ := c.def_ 17 (d := d__law_read_right) rfl
  obtain ⟨f18, F18⟩ := c.def_ 18 (d := d_law) rfl
  have b18 := FunD.bindsA (ps := ["_law_script"]) F18 fun _ _ _ _ _ _ us hl => match us, hl with | [_], _ => rfl
  refine ⟨f18, fun s v => b18 s [v] rfl, fun base _ _ => ?_⟩
  have p0 : PromO P w K mg base CX0 1 (gd "is_integer" K) [] spInteger := pm_PromO (ok_is_integer F0 T ) (F0.bindsN fun _ _ _ _ _ _ us hl => match us, hl with | [_], _ => rfl)
  have p1 : PromO P w K mg base CX0 2 (gd "is_within" K) [] spWithin := pm_PromO (ok_is_within F1 T p0) (F1.bindsN fun _ _ _ _ _ _ us hl => match us, hl with | [_, _, _], _ => rfl)
  have p2 : PromO P w K mg base CX0 2 (gd "is_item" K) [] spItem := pm_PromO (ok_is_item F2 T p0) (F2.bindsN fun _ _ _ _ _ _ us hl => match us, hl with | [_], _ => rfl)
  have p3 : PromO P w K mg base CX0 3 (gd "need_items" K) [] (spNeedItems K) := pm_PromO (ok_need_items F3 T p2) (F3.bindsN fun _ _ _ _ _ _ us hl => match us, hl with | [_, _], _ => rfl)
  have p4 : PromO P w K mg base CX0 4 (md "Row" "__init__" K) [] (spInit (gd "Row" K)) := pm_PromO (ok_Row___init__ F4 T p3) (F4.bindsN fun _ _ _ _ _ _ us hl => match us, hl with | [_, _], _ => rfl)
  have p5 : PromO P w K mg base CX0 1 (propG "Row" "contents" K) [] (spContents (gd "Row" K)) := pm_PromO (ok_Row_contents F5 T ) (F5.bindsN fun _ _ _ _ _ _ us hl => match us, hl with | [_], _ => rfl)
  have p6 : PromO P w K mg base CX0 3 (md "Row" "need_place" K) [] (spNeedPlace (gd "Row" K)) := pm_PromO (ok_Row_need_place F6 T p1) (F6.bindsN fun _ _ _ _ _ _ us hl => match us, hl with | [_, _], _ => rfl)
  have p7 : PromO P w K mg base CX0 2 (md "Row" "need_stretch" K) [] (spNeedStretch (gd "Row" K)) := pm_PromO (ok_Row_need_stretch F7 T p0) (F7.bindsN fun _ _ _ _ _ _ us hl => match us, hl with | [_, _], _ => rfl)
  have p8 : PromO P w K mg base CX0 3 (md "Row" "exchange" K) [] (spExchange (gd "Row" K)) := pm_PromO (ok_Row_exchange F8 T p1) (F8.bindsN fun _ _ _ _ _ _ us hl => match us, hl with | [_, _], _ => rfl)
  have pk8_1_p : PromK P w K mg base CX0 3 (md "Row" "exchange" K) 1 ["p"] (fun vs zs => vs ++ picks [.inl 0] [] zs) (spExchange (gd "Row" K)) := ⟨_, _, _, ok_Row_exchange F8 T p1, FunD.kbN F8 1 ["p"] [.inl 0] fun _ _ _ _ _ _ us ws h1 h2 => match us, h1, ws, h2 with | [_], _, [_], _ => rfl⟩
  have p9 : PromO P w K mg base CX0 4 (md "Row" "__getitem__" K) [] (spGet (gd "Row" K)) := pm_PromO (ok_Row___getitem__ F9 T p7 p6) (F9.bindsN fun _ _ _ _ _ _ us hl => match us, hl with | [_, _], _ => rfl)
  have p10 : PromO P w K mg base CX0 4 (md "Row" "__setitem__" K) [] (spSet (gd "Row" K)) := pm_PromO (ok_Row___setitem__ F10 T p7 p3 p6 p2) (F10.bindsN fun _ _ _ _ _ _ us hl => match us, hl with | [_, _, _], _ => rfl)
  have p11 : PromO P w K mg base CX0 1 (gd "_law_pen" K) [] (spPn K) := pm_PromO (ok__law_pen F11 T ) (F11.bindsN fun _ _ _ _ _ _ us hl => match us, hl with | [_], _ => rfl)
  have p12 : PromO P w K mg base CX0 1 (gd "_law_draw" K) [] spDr := pm_PromO (ok__law_draw F12 T ) (F12.bindsN fun _ _ _ _ _ _ us hl => match us, hl with | [_, _], _ => rfl)
  have p13 : PromO P w K mg base CX0 2 (gd "_law_pick" K) [] spPk := pm_PromO (ok__law_pick F13 T p12) (F13.bindsN fun _ _ _ _ _ _ us hl => match us, hl with | [_, _], _ => rfl)
  have p14 : PromO P w K mg base CX0 3 (gd "_law_item" K) [] spIt := pm_PromO (ok__law_item F14 T p12 p13) (F14.bindsN fun _ _ _ _ _ _ us hl => match us, hl with | [_], _ => rfl)
  have p15 : PromO P w K mg base CX0 1 (gd "_law_exchanged" K) [] spExch := pm_PromO (ok__law_exchanged F15 T ) (F15.bindsN fun _ _ _ _ _ _ us hl => match us, hl with | [_, _], _ => rfl)
  have p16 : PromO P w K mg base CX0 5 (gd "_law_deed" K) [] (spDeed (gd "Row" K)) := pm_PromO (ok__law_deed F16 T p12 p14 p10 p13 pk8_1_p p15) (F16.bindsN fun _ _ _ _ _ _ us hl => match us, hl with | [_, _, _], _ => rfl)
  have p17 : Prom P w K mg base CX0 6 (gd "_law_read_right" K) [] (spRight (gd "Row" K)) := pm_Prom (ok__law_read_right F17 T p9 p12 p5) (F17.bindsN fun _ _ _ _ _ _ us hl => match us, hl with | [_, _, _], _ => rfl)
  exact ok_law F18 T p11 p12 p14 p4 p16 p17
end Lw
open PySem PySem.W PySem.Calls PyProof.Rows
set_option maxRecDepth 100000 in
set_option maxHeartbeats 0 in
theorem PySem.Challenge.cw_everyhunt_k09_rows_set_holds : PySem.Challenge.rw_everyhunt_k09_rows_set.Holds := by
  w_on; o_law
  refine HandSHeadRun.head_any (r := OpenLaw.row PySem.Challenge.rw_everyhunt_k09_rows_set) (q := view (OpenLaw.row PySem.Challenge.rw_everyhunt_k09_rows_set).prog [25]) (H := Lw.hk) (ob := Lw.ob) (M := 8000) (loose := Lw.loose) (d := HandSHeadRun.topDef (OpenLaw.row PySem.Challenge.rw_everyhunt_k09_rows_set).prog 25) (kwd := []) Lw.ob_eq
    (by kernel_rfl) (fun s => by kernel_rfl) Lw.run (by kernel_rfl) (by kernel_rfl) (by kernel_rfl) (by rfl) (by first | assumption | decide +kernel) (by decide +kernel) ⟨rfl, rfl, rfl, rfl, rfl, by decide +kernel⟩ ?hw ?hc
  case hw => w_witness2
  case hc =>
    refine Gh.walk_ofG (l := PySem.Challenge.rw_everyhunt_k09_rows_set) (n := 63) (k := 7) (x := "_law_script") (CX := fun _ => L2.CX0) rfl (by decide) (by kernel_rfl) ⟨rfl, by decide, by decide⟩ ?F (fun _ _ _ _ _ z => z)
    intro w mg fa h Y G hmg0
    obtain ⟨K, KX, c⟩ := Y
    have hmg : mg ("law" : PySem.Str) = some (.ref fa) := by
      have e : (HandSHeadRun.topDef (OpenLaw.row PySem.Challenge.rw_everyhunt_k09_rows_set).prog 25).name = ("law" : PySem.Str) := by kernel_rfl
      rw [← e]
      exact hmg0
    obtain ⟨fd, hb, hF⟩ := Lw.facts (P := (PySem.Challenge.rw_everyhunt_k09_rows_set).prog) (w := w) KX G hmg c (c.fact 48 rfl)
    exact ⟨K, fd, Lw.spLaw K, KX, hb, fun H a ns hl _ hS => ⟨a, ns, rfl, hS, hl, fun _ => rfl⟩, hF⟩
#print axioms PySem.Challenge.cw_everyhunt_k09_rows_set_holds

