import PyProof.Rows.All
import Wide.All
import OpenK.AllK
import Wide.FinOn
import KE.KStateDown
import KE.KOpsOwn
import HandS.ForMost
import HandS.More
import HandS.Exc
import HandS.WordsExc
import HandS.Defaults
import HandS.Property
import HandS.IsInst
import HandS.Wide
import HandS.Head0
import HandS.Head1
import HandS.Head2
import HandS.HeadEnd
import HandS.HeadHook1
import HandS.HeadHook2
import PyProof.ReprRoads
import HandS.ExcInit
import HandS.ExcField
import HandS.ExcIs
import KE.KExcIs
import HandS.EndTab
import HandS.HeadHook4
import HandS.Star
import HandS.ClsMeth
import HandS.Lambda
import HandS.RaiseMore
import PySem.Challenge.RW_everyhunt_k03_spans_at_lengths
set_option Elab.async false
set_option linter.all false
set_option maxRecDepth 100000
/-! Gh: a head's Hook by addresses: each def by where the written part has it, and one Bool more. -/
namespace Gh
open PySem PySem.Spec PyProof.Rows L2
/-- a def: where it stands (by the written part), its names, parameters, body, scope, defaults -/
structure Df where
  adr : PySem.W.Frag → Addr
  name : Str
  qual : Str
  st : Stmt
  dfl : List He.Dv := []
def Df.val (d : Df) : He.FnW := some (d.name, d.qual, defArgs d.st, .stmts (defBody d.st), defScope d.st, mainGlobals, [], builtinsNs)
def Df.dvs (K : PySem.W.Frag) (d : Df) : List V := d.dfl.map (He.Dv.v K)
def fnAt (K : PySem.W.Frag) (a : Addr) : He.FnW := match K.lookup a with
  | some ⟨_, _, .func fd, _⟩ => some (fd.name, fd.qualname, fd.params, fd.body, fd.scope, fd.globals, fd.closure, fd.builtins)
  | _ => none
def Df.ok (K : PySem.W.Frag) (d : Df) : Bool := PySem.W.keepIn K (.ref (d.adr K)) && (match K.lookup (d.adr K) with
  | some ⟨_, _, .func fd, _⟩ => PySem.W.codeIn K fd.code d.qual && (He.dflB K fd.defaults (d.dvs K) && He.kwdB K fd.kwdefaults [])
  | _ => false)
/-- what a def's fact is worth -/
abbrev FnA (K : PySem.W.Frag) (d : Df) (fd : FuncData) : Prop := FunD K d.name d.qual (defArgs d.st) (defBody d.st) (defScope d.st) (d.dvs K) [] (d.adr K) fd
theorem Df.funD {K : PySem.W.Frag} {d : Df} (e : fnAt K (d.adr K) = d.val) (c : d.ok K = true) : ∃ fd, FnA K d fd := by
  obtain ⟨kp, c2⟩ := He.ba c
  unfold fnAt at e
  cases q : K.lookup (d.adr K) with
  | none =>
    rw [q] at c2
    cases c2
  | some o =>
    obtain ⟨oc, od, dt, osl⟩ := o
    rw [q] at c2 e
    cases dt with
    | func fd =>
      obtain ⟨n1, n2, n3, n4, n5, n6, n7, n8, n9, n10, n11, n12, n13, n14, n15⟩ := fd
      have e2 : (some (n1, n2, n3, n4, n5, n6, n7, n15) : He.FnW) = some (d.name, d.qual, defArgs d.st, .stmts (defBody d.st), defScope d.st, mainGlobals, [], builtinsNs) := e
      simp only [Option.some.injEq, Prod.mk.injEq] at e2
      obtain ⟨h1, h2, h3, h4, h5, h6, h7, h8⟩ := e2
      subst h1 h2 h3 h4 h5 h6 h7 h8
      have c3 : (PySem.W.codeIn K n13 d.qual && (He.dflB K n8 (d.dvs K) && He.kwdB K n9 [])) = true := c2
      obtain ⟨k1, k2⟩ := He.ba c3
      obtain ⟨k3, k4⟩ := He.ba k2
      exact ⟨_, ⟨oc, od, n8, n9, n10, n11, n12, n13, n14, osl, rfl, q, k1, He.dflB_ok k3, He.kwdB_ok k4⟩, kp⟩
    | _ => cases c2
abbrev Al : Type := Bool × List He.FnW
def obs (ex : List (PySem.W.Frag → Bool)) (fn : List Df) (K : PySem.W.Frag) : Al := ((ex.all fun f => f K) && fn.all fun d => d.ok K, fn.map fun d => fnAt K (d.adr K))
def val (fn : List Df) : Al := (true, fn.map Df.val)
def Says (ex : List (PySem.W.Frag → Bool)) (fn : List Df) (K : PySem.W.Frag) : Prop := obs ex fn K = val fn
def obsG (n : Nat) (ex : List (PySem.W.Frag → Bool)) (fn : List Df) (g : Addr → Option Obj) : Al := obs ex fn (He.frG g (He.asD g n))
def hook (n : Nat) (ex : List (PySem.W.Frag → Bool)) (fn : List Df) : PySem.W.Hook where
  α := Al
  obs := fun s => obsG n ex fn s.heap.get?
  val := fun _ => val fn
  says := fun _ h => ∃ K : PySem.W.Frag, K.In h ∧ Says ex fn K
  of := fun _ _ e => ⟨_, He.frG_in, e⟩
  keeps := fun _ _ _ ⟨K, hK, c⟩ k => ⟨K, PySem.W.Frag.In.keeps hK k, c⟩
theorem obsG_eq {n : Nat} {ex : List (PySem.W.Frag → Bool)} {fn : List Df} {g : Addr → Option Obj} {s : Shared} (h : ∀ a, g a = s.heap.get? a) : obsG n ex fn g = (hook n ex fn).obs s := by
  have e : g = s.heap.get? := funext h
  rw [e] <;> rfl
theorem Says.fact {ex : List (PySem.W.Frag → Bool)} {fn : List Df} {K : PySem.W.Frag} (c : Says ex fn K) (i : Nat) {f : PySem.W.Frag → Bool} (h : ex[i]? = some f := by rfl) : f K = true := by
  have c1 := (He.ba (show ((ex.all fun f => f K) && fn.all fun d => d.ok K) = true from congrArg (fun z : Al => z.1) c)).1
  exact List.all_eq_true.mp c1 f (List.mem_of_getElem? h)
theorem Says.def_ {ex : List (PySem.W.Frag → Bool)} {fn : List Df} {K : PySem.W.Frag} (c : Says ex fn K) (i : Nat) {d : Df} (h : fn[i]? = some d := by rfl) : ∃ fd, FnA K d fd := by
  have c2 := (He.ba (show ((ex.all fun f => f K) && fn.all fun d => d.ok K) = true from congrArg (fun z : Al => z.1) c)).2
  have e : fn.map (fun d => fnAt K (d.adr K)) = fn.map Df.val := congrArg (fun z : Al => z.2) c
  have e2 : (fn.map fun d => fnAt K (d.adr K))[i]? = (fn.map Df.val)[i]? := by rw [e]
  rw [List.getElem?_map, List.getElem?_map, h] at e2
  exact Df.funD (Option.some.inj e2) (List.all_eq_true.mp c2 d (List.mem_of_getElem? h))
/-! addresses -/
/-- a property's getter -/
def propG (x m : Str) (K : PySem.W.Frag) : Addr := match PySem.W.recIn K (He.ma K (He.ga K x) m) "property" with
  | some (.ref g :: _) => g
  | _ => 0
def propB (x m : Str) (K : PySem.W.Frag) : Bool := He.eqO (PySem.W.findIn K (.ref (He.ga K x)) m) (some (some (.ref (He.ma K (He.ga K x) m)))) &&
  (He.eqO (PySem.W.specialIn K (.ref (He.ma K (He.ga K x) m)) "__get__") (some (some (.builtin "property.__get__"))) &&
  (decide (PySem.W.takesIn K (.ref (He.ma K (He.ga K x) m)) = some true) && (match PySem.W.recIn K (He.ma K (He.ga K x) m) "property" with
    | some (.ref _ :: _) => true
    | _ => false)))
theorem propB_ok {x m : Str} {K : PySem.W.Frag} (h : propB x m K = true) : PropOf K (He.ga K x) m (He.ma K (He.ga K x) m) (propG x m K) := by
  obtain ⟨h1, h2⟩ := He.ba h
  obtain ⟨h3, h4⟩ := He.ba h2
  obtain ⟨h5, h6⟩ := He.ba h4
  refine ⟨He.eqO_ok h1, He.eqO_ok h3, of_decide_eq_true h5, ?_⟩
  unfold propG
  cases q : PySem.W.recIn K (He.ma K (He.ga K x) m) "property" with
  | none =>
    rw [q] at h6
    cases h6
  | some l =>
    rw [q] at h6
    cases l with
    | nil => cases h6
    | cons v r =>
      cases v with
      | ref g => exact ⟨r, rfl⟩
      | _ => cases h6
/-- a top's def, a class's method, a property's getter -/
def gd (x : Str) : PySem.W.Frag → Addr := fun K => He.ga K x
def md (x m : Str) : PySem.W.Frag → Addr := fun K => He.ma K (He.ga K x) m
def fa (f : He.Fa) : PySem.W.Frag → Bool := fun K => f.ok K
/-- isinstance of an own class's instance and of built-in values against it -/
structure InsT (K : PySem.W.Frag) (C : Addr) : Prop where
  ha : PySem.W.findIn K (.ref C) "__class__" = some (some (.builtin "object.__class__"))
  hn : PySem.W.specialIn K (.builtin "object.__class__") "__get__" = some (some (.builtin "getset_descriptor.__get__"))
  htk : PySem.W.takesIn K (.builtin "object.__class__") = some true
  hm : PySem.W.mroIn K C (.type "object") = some true
  yes : PySem.W.kitOne K (.ref C) (.ref C) = some true
  no : ∀ n ∈ (["NoneType", "bool", "int", "str", "list", "tuple", "dict"] : List String), PySem.W.kitOne K (.type n) (.ref C) = some false
  out : ∀ n ∈ (["NoneType", "bool", "int", "str", "list", "tuple", "dict"] : List String), PySem.W.kitOne K (.ref C) (.type n) = some false
def insB (x : Str) (K : PySem.W.Frag) : Bool := He.eqO (PySem.W.findIn K (.ref (gd x K)) "__class__") (some (some (.builtin "object.__class__"))) &&
  (He.eqO (PySem.W.specialIn K (.builtin "object.__class__") "__get__") (some (some (.builtin "getset_descriptor.__get__"))) &&
  (decide (PySem.W.takesIn K (.builtin "object.__class__") = some true) && (decide (PySem.W.mroIn K (gd x K) (.type "object") = some true) &&
  (decide (PySem.W.kitOne K (.ref (gd x K)) (.ref (gd x K)) = some true) && (((["NoneType", "bool", "int", "str", "list", "tuple", "dict"] : List String).all fun n => decide (PySem.W.kitOne K (.type n) (.ref (gd x K)) = some false)) &&
  ((["NoneType", "bool", "int", "str", "list", "tuple", "dict"] : List String).all fun n => decide (PySem.W.kitOne K (.ref (gd x K)) (.type n) = some false)))))))
theorem insB_ok {x : Str} {K : PySem.W.Frag} (h : insB x K = true) : InsT K (gd x K) := by
  obtain ⟨h1, h⟩ := He.ba h
  obtain ⟨h2, h⟩ := He.ba h
  obtain ⟨h3, h⟩ := He.ba h
  obtain ⟨h4, h⟩ := He.ba h
  obtain ⟨h5, h⟩ := He.ba h
  obtain ⟨h6, h7⟩ := He.ba h
  exact ⟨He.eqO_ok h1, He.eqO_ok h2, of_decide_eq_true h3, of_decide_eq_true h4, of_decide_eq_true h5, fun n hn => of_decide_eq_true (List.all_eq_true.mp h6 n hn), fun n hn => of_decide_eq_true (List.all_eq_true.mp h7 n hn)⟩
/-- the class comes first of its line -/
structure OwnT (K : PySem.W.Frag) (C : Addr) : Prop where
  first : PySem.W.selfFirst K C = true
  nf : PySem.W.notFirst K C (.ref C) = true
  sub : PySem.W.subIn K (.type "int") (.ref C) = some false
def ownB (x : Str) (K : PySem.W.Frag) : Bool := PySem.W.selfFirst K (gd x K) && (PySem.W.notFirst K (gd x K) (.ref (gd x K)) && decide (PySem.W.subIn K (.type "int") (.ref (gd x K)) = some false))
theorem ownB_ok {x : Str} {K : PySem.W.Frag} (h : ownB x K = true) : OwnT K (gd x K) := by
  obtain ⟨h1, h⟩ := He.ba h
  obtain ⟨h2, h3⟩ := He.ba h
  exact ⟨h1, h2, of_decide_eq_true h3⟩
/-- an operator between the class and an int -/
structure OpT (K : PySem.W.Frag) (C : Addr) (op : Operator) : Prop where
  rc : ∃ rc, PySem.W.findIn K (.ref C) (dunderR op.info.2) = some rc ∧ (rc = none ∨ ∃ g : Addr, rc = some (.ref g))
  fo : ∃ fo, PySem.W.findIn K (.type "int") (PySem.dunder op.info.2) = some fo
  ro : ∃ ro, PySem.W.findIn K (.type "int") (dunderR op.info.2) = some ro
def opB (x : Str) (op : Operator) (K : PySem.W.Frag) : Bool := (match PySem.W.findIn K (.ref (gd x K)) (dunderR op.info.2) with
    | some none => true
    | some (some (.ref _)) => true
    | _ => false) && ((PySem.W.findIn K (.type "int") (PySem.dunder op.info.2)).isSome && (PySem.W.findIn K (.type "int") (dunderR op.info.2)).isSome)
theorem opB_ok {x : Str} {op : Operator} {K : PySem.W.Frag} (h : opB x op K = true) : OpT K (gd x K) op := by
  obtain ⟨h1, h⟩ := He.ba h
  obtain ⟨h2, h3⟩ := He.ba h
  refine ⟨?_, Option.isSome_iff_exists.mp h2, Option.isSome_iff_exists.mp h3⟩
  cases q : PySem.W.findIn K (.ref (gd x K)) (dunderR op.info.2) with
  | none =>
    rw [q] at h1
    cases h1
  | some o =>
    cases o with
    | none => exact ⟨none, rfl, .inl rfl⟩
    | some v =>
      cases v with
      | ref g => exact ⟨_, rfl, .inr ⟨g, rfl⟩⟩
      | _ =>
        rw [q] at h1
        cases h1
/-- a module's int -/
theorem pe_gi {X : Cx} {x : Str} {i : Int} {pos : Pos} (h : ∃ t, X.mg x = some (.int i t)) (hg : Gl X x) (hd : (x == ("__debug__" : Str)) = false := by decide) : PE X (.Name x pos) (tC (.int i)) := by
  obtain ⟨t, e⟩ := h
  exact pe_glob hg e ⟨t, rfl⟩ hd
end Gh

set_option Elab.async false
set_option linter.all false
set_option maxRecDepth 100000
set_option maxHeartbeats 4000000
/-! Rl: promises of defs that also know that nothing is being shown around them (so that repr can be told); the rules that call them. -/
namespace Gh
open PySem PySem.Spec PyProof.Rows L2
/-- the def at f keeps the promise sp where nothing is being shown around it -/
structure FnG (P : Program) (w : World) (K : PySem.W.Frag) (mg : Str → Option Value) (base : Heap) (CX : CXT) (k : Nat) (f : Addr) (fd : FuncData) (ps : List Str) (sp : Sp) : Prop where
  len : ∀ vs H Q E, sp vs H Q E → vs.length = ps.length
  run : ∀ (A : Around) (outer : List Env) (s : Shared) (H : Hp) (args : Args) (us : List Value) (vs : List V) (Q : VK) (E : XK), Room k A → A.guards = some [] → Env0 P w K mg base A outer s H → BindsTo s fd args (ps.zip us) → Vals vs us → sp vs H Q E →
    codeAny (model P w) A (.call (.ref f) args) (CR CX outer P w H s Q E) s
/-- a def, called with some arguments, the defaults dvs behind them -/
def Prom (P : Program) (w : World) (K : PySem.W.Frag) (mg : Str → Option Value) (base : Heap) (CX : CXT) (k : Nat) (f : Addr) (dvs : List V) (sp : Sp) : Prop :=
  ∃ (fd : FuncData) (ps : List Str) (ds : List Value), FnG P w K mg base CX k f fd ps sp ∧ Binds K fd ps ds ∧ Vals dvs ds
section
variable {P : Program} {w : World} {K : PySem.W.Frag} {mg : Str → Option Value} {base : Heap} {CX : CXT} {j k : Nat} {f : Addr} {fd : FuncData} {ps : List Str} {sp : Sp} {dvs : List V}
theorem FnG.mono (F : FnG P w K mg base CX j f fd ps sp) (h : j ≤ k) : FnG P w K mg base CX k f fd ps sp := ⟨F.len, fun A o s H a us vs Q E hr => F.run A o s H a us vs Q E (hr.mono h)⟩
theorem Prom.mono (F : Prom P w K mg base CX j f dvs sp) (h : j ≤ k) : Prom P w K mg base CX k f dvs sp := by
  obtain ⟨fd, ps, ds, G, b, v⟩ := F
  exact ⟨fd, ps, ds, G.mono h, b, v⟩
/-- a def's body -/
theorem fnG_of {x qual : Str} {params : Arguments} {body : List Stmt} {scope : Scope} {kws : List (Str × V)} {N : List Str} (F : FunD K x qual params body scope dvs kws f fd) (S : FnScope N ps scope) (len : ∀ vs H Q E, sp vs H Q E → vs.length = ps.length)
    (hbody : ∀ (cdv : Value) (A : Around) (outer : List Env) (s : Shared) (H : Hp) (vs : List V) (Q : VK) (E : XK), Room k (A.deeper (envOfC qual scope s.heap.objs.size f cdv)) → (A.deeper (envOfC qual scope s.heap.objs.size f cdv)).guards = some [] → sp vs H Q E →
      ∃ t, PSs (cxOf CX P w K mg base N qual scope f cdv A outer s H E) body t ∧ t { nx := fun _ H' => Q .non H', rt := Q } (start N vs) H) : FnG P w K mg base CX (k + 1) f fd ps sp := by
  obtain ⟨oc, od, dV, kV, doc, pm, an, cdv, ct, osl, rfl, lk, hcd, _, _⟩ := F.ex
  refine ⟨len, fun A outer s H args us vs Q E hr hg e0 hb r hsp => ?_⟩
  have hl := len _ _ _ _ hsp
  have KX : K.In s.heap := e0.mod.kin.keeps fun b o e => (e0.bs b o e).1
  have lim : s.heap.NoLimit := e0.mod.nolimit.keeps fun b o e => (e0.bs b o e).1
  have hkind : ∀ y ∈ ps.zip us, scope.names.lookup y.1 = some .local ∨ (scope.names.lookup y.1 = some .cell ∧ ((cellsFrom (s.heap.objs.size + 1) scope.names []).lookup y.1).isSome = true) := fun ⟨n, v⟩ hy => by
    rcases S.par n (List.of_mem_zip hy).1 with q | q
    · exact .inl q
    · exact .inr ⟨q, PySem.W.cellsFrom_some _ _ _ (.inl q)⟩
  refine codeAny_call_function hr.depth (KX _ _ lk) rfl S.co S.gen rfl (PySem.W.codeRec_of KX hcd) (hb _ _ _ _ ?_)
  refine wpAny_newFunctionEnv_cells S.kind hkind fun env he s1 x => ?_
  subst he
  refine ⟨lim.keeps x.toInCall.keep, codeAny_func ?_⟩
  obtain ⟨t, ht, hq⟩ := hbody cdv A outer s H vs Q E (hr.deeper _) hg hsp
  have I : Inv (cxOf CX P w K mg base N qual scope f cdv A outer s H E) [] (start N vs) H s1 := inv_start S hr.hd e0 hl r x
  refine wpAny_mono (ht.run [] s1 (start N vs) H _ I hq) (fun fl s' hs => ?_) fun e s' hs => hs
  cases fl with
  | ret u =>
    obtain ⟨v, σ', H', J, rv, q⟩ := hs
    exact ⟨v, H', J.os, J.bare, J.base, J.hok, rv, q⟩
  | next =>
    obtain ⟨σ', H', J, q⟩ := hs
    exact ⟨V.non, H', J.os, J.bare, J.base, J.hok, rfl, q⟩
  | brk =>
    obtain ⟨_, _, _, q⟩ := hs
    exact False.elim q
  | cont =>
    obtain ⟨_, _, _, q⟩ := hs
    exact False.elim q
end
/-! ### calls -/
section
variable {X : Cx} {CX : CXT} {k : Nat} {f g C : Addr} {sp : Sp} {dvs : List V} {E : XK} {x m : Str} {p pos apos : Pos} {e o : Expr} {es : List Expr} {ta tb : TE} {t : TA} {r : List V → Hp → VK → Prop}
abbrev PromX (X : Cx) (CX : CXT) (k : Nat) (f : Addr) (dvs : List V) (sp : Sp) : Prop := Prom X.prog X.w X.K X.mg X.base CX k f dvs sp
/-- what is asked at a call -/
def rSp (sp : Sp) (dvs : List V) (E : XK) : List V → Hp → VK → Prop := fun xs H Q => sp (xs ++ dvs) H Q E
theorem Prom.call (F : PromX X CX k f dvs sp) (hr : Room k X.A) (hg : X.A.guards = some []) (hx : Passes CX X E) : CallR X (.ref f) (rSp sp dvs E) := by
  intro pins s σ H xs us Q I r h
  obtain ⟨fd, ps, ds, G, b, hd⟩ := F
  have r2 : Vals (xs ++ dvs) (us ++ ds) := r.append hd
  have hl : (us ++ ds).length = ps.length := by rw [← r2.length]; exact G.len _ _ _ _ h
  refine wpAny_call (codeAny_mono (G.run X.A X.stack s H ⟨us, []⟩ (us ++ ds) (xs ++ dvs) Q E hr hg I.env0 (b s us I.kIn hl) r2 h) fun r s' hq => ?_)
  cases r with
  | error e => exact hx pins σ H s e s' I hq
  | ok fl =>
    cases fl with
    | ret u => exact I.after hq
    | next => exact False.elim hq
    | brk => exact False.elim hq
    | cont => exact False.elim hq
/-- what is asked where an instance is made -/
@[irreducible] def rMk (C : Addr) (sp : Sp) (dvs : List V) (E : XK) : List V → Hp → VK → Prop := fun vs H Q =>
  ∀ x dx, H x = none → H dx = none → dx ≠ x → sp (.ref x :: (vs ++ dvs)) (upd (upd H dx (.own x)) x (.ins C dx [])) (fun v H2 => v = .non ∧ Q (.ref x) H2) E
theorem guards_make {A : Around} {us : List Value} {kw : List (Str × Value)} (h : A.guards = some []) : (A.under (.builtin "type.__call__" ⟨.ref C :: us, kw⟩)).guards = some [] := by
  show pushGuards (Code.guards (.builtin "type.__call__" ⟨.ref C :: us, kw⟩)) A.guards = some []
  have e : Code.guards (.builtin "type.__call__" ⟨.ref C :: us, kw⟩) = [] := by
    unfold Code.guards
    rw [if_neg (by show ¬ (guardIds.contains "type.__call__" = true); decide)]
  rw [e]
  exact h
theorem Prom.make (M : Mk X.K C f) (F : PromX X CX k f dvs sp) (hr : Room (k + 1) X.A) (hg : X.A.guards = some []) (hx : Passes CX X E) : CallR X (.ref C) (rMk C sp dvs E) := by
  intro pins s σ H vs us Q I r h
  unfold rMk at h
  obtain ⟨fd, ps, ds, G, b, hd⟩ := F
  have hq := h (s.heap.objs.size + 1) s.heap.objs.size (I.hok.fresh (Nat.le_succ _)) (I.hok.fresh (Nat.le_refl _)) (Nat.ne_of_lt (Nat.lt_succ_self _))
  have I2 := Inv.made (C := C) I
  have r2 : Vals (V.ref (s.heap.objs.size + 1) :: (vs ++ dvs)) (Value.ref (s.heap.objs.size + 1) :: (us ++ ds)) := .cons rfl (r.append hd)
  have hl : (Value.ref (s.heap.objs.size + 1) :: us ++ ds).length = ps.length := by
    have e := r2.length
    rw [G.len _ _ _ _ hq] at e
    exact e.symm
  refine wpAny_call (make_map (f := f) I.kIn M.makes M.init (beq_iff_eq.mp M.fn) (codeAny_mono (G.run _ X.stack _ _ ⟨Value.ref (s.heap.objs.size + 1) :: us, []⟩ (Value.ref (s.heap.objs.size + 1) :: (us ++ ds)) _ _ E (hr.make C us []) (guards_make hg)
    (I2.env0.make C us []) (b _ (Value.ref (s.heap.objs.size + 1) :: us) I2.kIn hl) r2 hq) fun r s' hq' => ?_))
  cases r with
  | error e => exact hx pins σ _ _ e s' I2 hq'
  | ok fl =>
    cases fl with
    | ret u =>
      obtain ⟨v, H', I3, rv, ev, q3⟩ := I2.after hq'
      subst ev
      exact ⟨rv, ⟨V.ref (s.heap.objs.size + 1), H', I3, rfl, q3⟩⟩
    | next => exact False.elim hq'
    | brk => exact False.elim hq'
    | cont => exact False.elim hq'
def tCl (r : List V → Hp → VK → Prop) (t : TA) : TE := fun σ H Q => t σ H fun vs H1 => r vs H1 Q
/-- x(e, ..), x a name of the module that holds a def or a class -/
theorem pe_g (R : CallR X (.ref f) r) (hg : Gl X x) (hm : X.mg x = some (.ref f)) (hk : PySem.W.keepIn X.K (.ref f) = true)
    (ha : PA X (e :: es) t) (hdb : (x == ("__debug__" : Str)) = false := by decide) (he : starEach (e :: es) X.env = (false, eval e X.env) :: starEach es X.env := by rfl) (hpl : (backTo pos (starEach es X.env)).any (·.1) = false := by rfl) :
    PE X (.Call (.Name x p) (e :: es) [] pos) (tCl r t) := by
  refine ⟨fun pins s σ H Q I h => ?_⟩
  refine wpAny_Call_Name_kw (ld_glob I hg hm ?_ hdb)
  refine PySem.W.callWith_K (h₀ := X.base) I.ok.mod.kin hk (thn (ha.run pos pins s σ H _ I h) fun us s1 ⟨vs, H1, I1, r, q⟩ => ⟨I1.kIn, ?_⟩) he hpl
  exact R pins s1 σ H1 vs us Q I1 r q
/-- x() -/
theorem pe_g0 (R : CallR X (.ref f) r) (hg : Gl X x) (hm : X.mg x = some (.ref f)) (hk : PySem.W.keepIn X.K (.ref f) = true) (hdb : (x == ("__debug__" : Str)) = false := by decide) : PE X (.Call (.Name x p) [] [] pos) (tCl r tNil) := by
  refine ⟨fun pins s σ H Q I h => ?_⟩
  refine wpAny_Call_Name_kw (ld_glob I hg hm ?_ hdb)
  exact PySem.W.callWith_K0 I.kIn hk (R pins s σ H [] [] Q I .nil h)
/-- o.m(e, ..) -/
def tMt (C : Addr) (m : Str) (r : List V → Hp → VK → Prop) (ta : TE) (t : TA) : TE := fun σ H Q => ta σ H fun x H1 => ∃ a dx fs, x = .ref a ∧ H1 a = some (.ins C dx fs) ∧ fs.lookup m = none ∧ t σ H1 fun vs H2 => r (x :: vs) H2 Q
theorem pe_m {pl : Sem Bool} (he : PE X o ta) (c : Cls X.K C) (hm : Meth X.K C m f) (R : CallR X (.ref f) r) (ha : PA X (e :: es) t)
    (hst : starEach (e :: es) X.env = (false, eval e X.env) :: starEach es X.env := by rfl) (hpl : (backTo pos (starEach es X.env)).any (·.1) = false := by rfl)
    (ht : eval (.Call (.Attribute o m apos) (e :: es) [] pos) X.env = (do
      let ov ← eval o X.env
      standAt apos.atName
      let (f, first) ← holding [ov] (getMethod ov m pl)
      callWith pos f first (backTo pos (starEach (e :: es) X.env)) (backToKw pos (keywordEach [] X.env))) := by rfl) :
    PE X (.Call (.Attribute o m apos) (e :: es) [] pos) (tMt C m r ta t) := by
  refine ⟨fun pins s σ H Q I h => ?_⟩
  refine PySem.W.methodCall_KW (pl := pl) (thn (he.run pins s σ H _ I h) fun u s1 ⟨x, H1, I1, rx, a, dx, fs, ex, ea, l, q⟩ => ?_) ht
  subst ex
  obtain rfl : u = Value.ref a := rx
  refine getmeth_ok I1 ea c hm l ?_
  refine PySem.W.callWith_K (first := [.ref a]) (h₀ := X.base) I.ok.mod.kin hm.kp (thn (ha.run pos pins s1 σ H1 _ I1 q) fun us s2 ⟨vs, H2, I2, r, q2⟩ => ⟨I2.kIn, ?_⟩) hst hpl
  exact R pins s2 σ H2 (.ref a :: vs) (.ref a :: us) Q I2 (.cons rfl r) q2
theorem pe_m0 {pl : Sem Bool} (he : PE X o ta) (c : Cls X.K C) (hm : Meth X.K C m f) (R : CallR X (.ref f) r)
    (ht : eval (.Call (.Attribute o m apos) [] [] pos) X.env = (do
      let ov ← eval o X.env
      standAt apos.atName
      let (f, first) ← holding [ov] (getMethod ov m pl)
      callWith pos f first (backTo pos (starEach [] X.env)) (backToKw pos (keywordEach [] X.env))) := by rfl) :
    PE X (.Call (.Attribute o m apos) [] [] pos) (tMt C m r ta tNil) := by
  refine ⟨fun pins s σ H Q I h => ?_⟩
  refine PySem.W.methodCall_KW (pl := pl) (thn (he.run pins s σ H _ I h) fun u s1 ⟨x, H1, I1, rx, a, dx, fs, ex, ea, l, q⟩ => ?_) ht
  subst ex
  obtain rfl : u = Value.ref a := rx
  refine getmeth_ok I1 ea c hm l ?_
  exact PySem.W.callWith_K0 (first := [.ref a]) I1.kIn hm.kp (R pins s1 σ H1 [.ref a] [.ref a] Q I1 (.cons rfl .nil) q)
/-- o.f, a property -/
def tPr (C : Addr) (sp : Sp) (dvs : List V) (E : XK) (ta : TE) : TE := fun σ H Q => ta σ H fun x H1 => ∃ a dx fs, x = .ref a ∧ H1 a = some (.ins C dx fs) ∧ sp (.ref a :: dvs) H1 Q E
theorem pe_p {pp : Addr} (he : PE X o ta) (c : Cls X.K C) (hp : PropOf X.K C m pp g) (F : PromX X CX k g dvs sp) (hr : Room (k + 1) X.A) (hg : X.A.guards = some []) (hx : Passes CX X.nox E)
    (hab : attributeBase o m X.env (eval o X.env) = eval o X.env := by rfl) : PE X (.Attribute o m pos) (tPr C sp dvs E ta) := by
  refine ⟨fun pins s σ H Q I0 h => ?_⟩
  refine attr_of hab (thn (he.run pins s σ H _ I0 h) fun u s1 ⟨x, H1, I, rx, a, dx, fs, ex, ea, q⟩ => ?_)
  subst ex
  obtain rfl : u = Value.ref a := rx
  obtain ⟨fd, ps, ds, G, b, hd⟩ := F
  obtain ⟨mA, O, _, _, _, _⟩ := ins_get I.hok ea
  obtain ⟨od, J, _⟩ := O.look
  obtain ⟨rest, hrec⟩ := hp.rec_
  have I1 := I.tok (s1.toks + 1)
  have hl : ([Value.ref a] ++ ds).length = ps.length := by
    rw [← G.len _ _ _ _ q]
    show ds.length + 1 = dvs.length + 1
    rw [hd.length]
  have hc : (PySem.W.clsIn X.K C).isSome = true := by
    obtain ⟨cd, hc, _⟩ := PySem.W.any_some c.hd
    rw [hc]
    rfl
  refine PySem.W.get_bind I.kIn J (PySem.W.plainGet_of (c.get m)).1 (PySem.W.findObj_data hc hp.at_ hp.get hp.tak) (PySem.W.plainGet_of (c.get m)).2 (wpAny_call (PySem.W.prop_get (s := { s1 with toks := s1.toks + 1 }) I.kIn hrec ?_))
  refine codeAny_mono (G.run X.A.in1 X.stack { s1 with toks := s1.toks + 1 } H1 ⟨[.ref a], []⟩ (.ref a :: ds) (.ref a :: dvs) Q E hr.in1 hg I1.env0.in1 (b _ [.ref a] I1.kIn hl) (.cons rfl hd) q) fun r s' hq => ?_
  cases r with
  | error er => exact False.elim (hx pins σ H1 { s1 with toks := s1.toks + 1 } er s' (I1.wish _) hq)
  | ok fl =>
    cases fl with
    | ret u =>
      obtain ⟨v, H', I3, rv, q3⟩ := I1.after hq
      show wpAny _ _ (handedOut u) _ _ _
      rw [PySem.W.handedOut_of (handed_of rv)]
      exact wpAny_pure ⟨v, H', I3, rv, q3⟩
    | next => exact False.elim hq
    | brk => exact False.elim hq
    | cont => exact False.elim hq
/-! ### operators of one's own -/
/-- a comparison of two instances by the left one's method -/
@[irreducible] def rCmp (K : PySem.W.Frag) (C : Addr) (r : List V → Hp → VK → Prop) : R2 := fun x y H Q => ∃ a dx fs b C' dy gs, x = .ref a ∧ y = .ref b ∧ H a = some (.ins C dx fs) ∧ H b = some (.ins C' dy gs) ∧ PySem.W.notFirst K C (.ref C') = true ∧ r [x, y] H Q
theorem ins_look {pins : List (Addr × Obj)} {σ : L2.St} {H : Hp} {s : Shared} {a dx : Addr} {fs : List (Str × V)} (I : Inv X pins σ H s) (h : H a = some (.ins C dx fs)) : ∃ ox od, PySem.W.InstAt s.heap a ox C od := by
  obtain ⟨mA, O, _, _, _, _⟩ := ins_get I.hok h
  obtain ⟨od, J, _⟩ := O.look
  exact ⟨_, _, J⟩
theorem cmp_back {pins : List (Addr × Obj)} {σ : L2.St} {Q : VK} {u : Value} {s' : Shared} (h : EP X pins σ Q u s') : PySem.W.CmpBack (EP X pins σ Q) u s' := by
  obtain ⟨v, H', I', rv, q⟩ := h
  cases v with
  | non => cases (show u = Value.none from rv); exact ⟨.non, H', I', rfl, q⟩
  | bl b => cases (show u = Value.bool b from rv); exact ⟨.bl b, H', I', rfl, q⟩
  | int i => obtain ⟨t, z⟩ := (show ∃ t, u = Value.int i t from rv); subst z; exact ⟨.int i, H', I', ⟨t, rfl⟩, q⟩
  | str i => obtain ⟨t, z⟩ := (show ∃ t, u = Value.str i t from rv); subst z; exact ⟨.str i, H', I', ⟨t, rfl⟩, q⟩
  | byt i => obtain ⟨t, z⟩ := (show ∃ t, u = Value.bytes i t from rv); subst z; exact ⟨.byt i, H', I', ⟨t, rfl⟩, q⟩
  | flt i => obtain ⟨t, z⟩ := (show ∃ t, u = Value.float i t from rv); subst z; exact ⟨.flt i, H', I', ⟨t, rfl⟩, q⟩
  | ref a => cases (show u = Value.ref a from rv); exact ⟨.ref a, H', I', rfl, q⟩
  | ty n => cases (show u = Value.type n from rv); exact ⟨.ty n, H', I', rfl, q⟩
theorem op_cmp {op : CmpOp} (hop : ∀ a b, compareOp op a b = richCompare op a b) (hs : PySem.W.findIn X.K (.ref C) (cmpInfo op).2.1 = some (some (.ref g))) (hf : PySem.W.isFn X.K (.ref g) = true) (hu : X.A.units < cLine)
    (R : CallR X (.ref g) r) : OpR X (compareOp op) (rCmp X.K C r) := by
  intro pins s σ H x y v u Q I rx ry h
  unfold rCmp at h
  obtain ⟨a, dx, fs, b, C', dy, gs, rfl, rfl, ha, hb, hn, q⟩ := h
  cases (show v = Value.ref a from rx)
  cases (show u = Value.ref b from ry)
  obtain ⟨ox, od, J⟩ := ins_look I ha
  obtain ⟨ox', od', J'⟩ := ins_look I hb
  obtain ⟨m, hF⟩ := I.fr
  rw [hop]
  refine PySem.W.cmp_K (op := op) (tb := .ref C') hu hF I.ok.mod.kin J J'.type hn hs hf ?_
  exact wpAny_mono (R pins s σ H [.ref a, .ref b] [.ref a, .ref b] Q I (.cons rfl (.cons rfl .nil)) q) (fun w s' z => cmp_back z) fun _ _ x => x
/-- an operator of one's own class, the right one an instance of the same class -/
@[irreducible] def rBin (C : Addr) (r : List V → Hp → VK → Prop) : R2 := fun x y H Q => ∃ a dx fs b dy gs, x = .ref a ∧ y = .ref b ∧ H a = some (.ins C dx fs) ∧ H b = some (.ins C dy gs) ∧ r [x, y] H Q
theorem op_bin {op : Operator} (hc : PySem.W.selfFirst X.K C = true) (hs : PySem.W.findIn X.K (.ref C) (PySem.dunder op.info.2) = some (some (.ref g))) (hf : PySem.W.isFn X.K (.ref g) = true)
    (R : CallR X (.ref g) r) : OpR X (binaryOp op) (rBin C r) := by
  intro pins s σ H x y v u Q I rx ry h
  unfold rBin at h
  obtain ⟨a, dx, fs, b, dy, gs, rfl, rfl, ha, hb, q⟩ := h
  cases (show v = Value.ref a from rx)
  cases (show u = Value.ref b from ry)
  obtain ⟨ox, od, J⟩ := ins_look I ha
  obtain ⟨ox', od', J'⟩ := ins_look I hb
  obtain ⟨m, hF⟩ := I.fr
  refine PySem.W.binop_K hF I.ok.mod.kin J J'.type hc hs hf ?_
  exact wpAny_mono (R pins s σ H [.ref a, .ref b] [.ref a, .ref b] Q I (.cons rfl (.cons rfl .nil)) q) (fun w s' z => cmp_back z) fun _ _ x => x
/-- .. the right one an int -/
@[irreducible] def rBinI (C : Addr) (r : List V → Hp → VK → Prop) : R2 := fun x y H Q => ∃ a dx fs i, x = .ref a ∧ y = .int i ∧ H a = some (.ins C dx fs) ∧ r [x, y] H Q
theorem op_binI {op : Operator} {fo ro rc : Option Value} (hc : PySem.W.selfFirst X.K C = true) (hs : PySem.W.findIn X.K (.ref C) (PySem.dunder op.info.2) = some (some (.ref g))) (hf : PySem.W.isFn X.K (.ref g) = true)
    (hr : PySem.W.findIn X.K (.ref C) (dunderR op.info.2) = some rc) (hp : rc = none ∨ ∃ g : Addr, rc = some (.ref g))
    (h1 : PySem.W.findIn X.K (.type "int") (PySem.dunder op.info.2) = some fo) (h2 : PySem.W.findIn X.K (.type "int") (dunderR op.info.2) = some ro) (hsub : PySem.W.subIn X.K (.type "int") (.ref C) = some false)
    (R : CallR X (.ref g) r) : OpR X (binaryOp op) (rBinI C r) := by
  intro pins s σ H x y v u Q I rx ry h
  unfold rBinI at h
  obtain ⟨a, dx, fs, i, rfl, rfl, ha, q⟩ := h
  cases (show v = Value.ref a from rx)
  obtain ⟨t, z⟩ := (show ∃ t, u = Value.int i t from ry)
  subst z
  obtain ⟨ox, od, J⟩ := ins_look I ha
  obtain ⟨m, hF⟩ := I.fr
  refine PySem.W.ksp_binT (T := "int") hF I.ok.mod.kin J rfl hc hs hf hr hp h1 h2 hsub ?_
  exact wpAny_mono (R pins s σ H [.ref a, .int i] [.ref a, .int i t] Q I (.cons rfl (.cons ⟨t, rfl⟩ .nil)) q) (fun w s' z => cmp_back z) fun _ _ x => x
/-! ### repr -/
/-- repr(x), x told as data -/
@[irreducible] def rRepr (K : PySem.W.Frag) : List V → Hp → VK → Prop := fun xs H Q => ∃ a d, xs = [.ref a] ∧ Dp K H (.ref a) d ∧ d.showable = true ∧ d.hasDict = false ∧ d.depth ≤ 100 ∧ d.shown.length ≤ sizeLine ∧ Q (.str d.shown) H
theorem call_reprD (hu : X.A.units + 102 < cLine) (hg : X.A.guards = some []) : CallR X (.builtin "repr") (rRepr X.K) := by
  intro pins s σ H xs us Q I r h
  unfold rRepr at h
  obtain ⟨a, d, rfl, hd, h1, h2, h3, h4, q⟩ := h
  cases r with
  | cons r1 r2 =>
    cases r2
    rename_i u
    cases (show u = Value.ref a from r1)
    obtain ⟨as, rd⟩ := Dp.reads I d _ _ hd rfl
    refine repr_of_reads' rd h1 (fun z => by rw [h2] at z; cases z) hg (by omega) (fun _ _ e => e) (fun h' u tk k => ⟨.str d.shown, H, I.kept k, ⟨u, rfl⟩, q⟩) h4
end
end Gh

set_option Elab.async false
set_option linter.all false
set_option maxRecDepth 100000
set_option maxHeartbeats 4000000
/-! En: the end of a law's row over promises that know that nothing is being shown. -/
namespace Gh
open PySem PySem.Spec PyProof.Rows L2
theorem law_callG {P : Program} {w : World} {K : PySem.W.Frag} {mg mb : Str → Option Value} {CX : CXT} {k : Nat} {fa a : Addr} {fd : FuncData} {x : Str} {sp : Sp} {s₁ : Shared} {vs : List Value} {ns : List Int}
    (KX : K.In s₁.heap) (hns : s₁.heap.Ns mainGlobals mg) (hb : s₁.heap.Ns builtinsNs mb) (hbb : ∀ x : Str, x ≠ "__name__" → mb x = bootBuiltins x) (hlim : s₁.heap.NoLimit) (hg : s₁.gens = #[])
    (ha : s₁.heap.get? a = some { cls := .type "list", data := .seq vs.toArray }) (hi : IntsAre vs ns) (hl : ns.length ≤ sizeLine) (hr : Room k callerA)
    (F : ∀ base : Heap, K.In base → base.Ns mainGlobals mg → FnG P w K mg base CX k fa fd [x] sp) (hbind : ∀ (s : Shared) (u : Value), BindsTo s fd ⟨[u], []⟩ [(x, u)])
    (hsp : ∀ H : Hp, Only H → SqL K H a (ns.map V.int) → sp [.ref a] H (fun v _ => v = .bl true) fun _ _ _ => False)
    (hCX : ∀ H e s', CX [] H s₁ (fun _ _ _ => False) e s' → False) :
    codeAny (model P w) callerA (.call (.ref fa) ⟨[.ref a], []⟩) (fun r s' => r = .ok (.ret (.bool true)) ∧ OldK s₁.heap s'.heap ∧ s'.os = s₁.os ∧ AllBare s'.gens) s₁ := by
  have rv := vals_ints hi
  have lenV := hi.length
  -- from an abstract heap in which nothing but the script may be tracked
  have core : ∀ H : Hp, Only H → SqL K H a (ns.map V.int) → HOk P w H s₁.heap → (∀ b, H b ≠ none → b = a) → (H a ≠ none → K.lookup a = none) →
      codeAny (model P w) callerA (.call (.ref fa) ⟨[.ref a], []⟩) (fun r s' => r = .ok (.ret (.bool true)) ∧ OldK s₁.heap s'.heap ∧ s'.os = s₁.os ∧ AllBare s'.gens) s₁ := by
    intro H hO hS hok hA hK
    have base_of : ∀ {b : Addr} {o : Obj}, s₁.heap.get? b = some o → H b = none → (hidT s₁.heap H).get? b = some o := fun e n => hidT_get e n
    have noA : ∀ {b : Addr} {o : Obj} {es : Array DictEntry} {ep : Nat}, s₁.heap.get? b = some o → o.data = .dict es ep → H b = none := fun {b o es ep} e d => by
      cases q : H b with
      | none => rfl
      | some u =>
        have e' : b = a := hA b (by rw [q]; simp)
        subst e'
        rw [ha] at e; cases e
        have d' : Data.seq vs.toArray _ = Data.dict es ep := d
        cases d'
    have nsK : ∀ {b : Addr} {m : Str → Option Value}, s₁.heap.Ns b m → (hidT s₁.heap H).Ns b m := fun {b m} ⟨o, es, ep, e, d, r⟩ => ⟨o, es, ep, base_of e (noA e d), d, r⟩
    have hKb : K.In (hidT s₁.heap H) := fun b o e => base_of (KX b o e) (by
      cases q : H b with
      | none => rfl
      | some u =>
        have e' : b = a := hA b (by rw [q]; simp)
        subst e'
        rw [hK (by rw [q]; simp)] at e; cases e)
    have hM : Mod K mg (hidT s₁.heap H) := ⟨hKb, nsK hns, ⟨mb, nsK hb, hbb⟩, let ⟨mc, h1, h2⟩ := hlim; ⟨mc, nsK h1, h2⟩⟩
    have e0 : Env0 P w K mg (hidT s₁.heap H) callerA [] s₁ H := ⟨rfl, hM, fun b o e => of_hidT e, Nat.le_of_eq (hidT_size _ _), trivial, fun b hb => absurd (show b ∈ ([] : List Addr) from hb) (by simp), hok, .of_eq hg⟩
    refine codeAny_mono ((F _ hKb (nsK hns)).run callerA [] s₁ H ⟨[.ref a], []⟩ [.ref a] [.ref a] _ _ hr rfl e0 (hbind s₁ (.ref a)) (.cons rfl .nil) (hsp H hO hS)) fun r s' h => ?_
    cases r with
    | error e => exact (hCX H e s' h).elim
    | ok fl =>
      cases fl with
      | next => exact False.elim h
      | brk => exact False.elim h
      | cont => exact False.elim h
      | ret u =>
        obtain ⟨v, H', os, bare, un, hok', r', q⟩ := h
        have q' : v = .bl true := q
        subst q'
        obtain rfl : u = Value.bool true := r'
        refine ⟨rfl, OldK.of_keep fun b o e => ?_, os, bare⟩
        cases q : H b with
        | none => exact un.keep b o e q (by intro z; exact absurd (show b ∈ ([] : List Addr) from z) (by simp)) (by simp)
        | some u =>
          rcases hO b with z | ⟨ob, xs, z⟩
          · rw [q] at z; cases z
          · have z2 := un.frzs b ob _ z
            obtain ⟨e1, _⟩ := hok b _ z
            obtain ⟨e2, _⟩ := hok' b _ z2
            rw [e] at e1; cases e1
            exact e2
  cases hk : K.lookup a with
  | some o =>
    -- the script is one of the module's own objects
    have e := KX a o hk
    rw [ha] at e
    cases e
    refine core (fun _ => none) (fun _ => .inl rfl) (.inr ⟨_, vs.toArray, _, hk, rfl, rfl, rfl, by rw [List.size_toArray, lenV]; exact hl, by simpa using rv⟩) (fun b u z => by have z' : (none : Option HO) = some u := z; cases z') (fun b z => absurd rfl z) fun z => absurd rfl z
  | none =>
    refine core (fun b => if b = a then some (.frz { cls := .type "list", data := .seq vs.toArray } (.lst (ns.map V.int))) else none) (fun b => ?_) (.inl (.inr ⟨{ cls := .type "list", data := .seq vs.toArray }, if_pos rfl⟩)) (fun b u z => ?_) (fun b z => ?_) fun _ => hk
    · by_cases hb : b = a
      · exact .inr ⟨_, _, if_pos hb⟩
      · exact .inl (if_neg hb)
    · by_cases hb : b = a
      · have z' := (if_pos hb).symm.trans z
        cases z'
        subst hb
        exact ⟨ha, by rw [List.length_map]; exact hl, vs, _, rv, ha⟩
      · have z' := (if_neg hb).symm.trans z
        cases z'
    · by_cases hb : b = a
      · exact hb
      · exact absurd (if_neg hb) z
theorem walk_ofG {l : PySem.W.OpenLaw} {n k : Nat} {q : Program} {loose : List Str} {XP : (Str → Option Value) → Heap → Prop} {YP : World → Heap → Prop} {d : DefRec} {CX : World → CXT} {x : Str}
    (hn : l.most = some n) (hn2 : n ≤ sizeLine) (hdf : d.params.defaults = []) (hr : Room k callerA)
    (F : ∀ (w : World) (mg : Str → Option Value) (fa : Addr) (h : Heap), YP w h → h.Ns mainGlobals mg → mg d.name = some (.ref fa) →
      ∃ (K : PySem.W.Frag) (fd : FuncData) (sp : Sp), K.In h ∧ (∀ (s : Shared) (u : Value), BindsTo s fd ⟨[u], []⟩ [(x, u)]) ∧
        (∀ (H : Hp) (a : Addr) (ns : List Int), ns.length ≤ n → Only H → SqL K H a (ns.map V.int) → sp [.ref a] H (fun v _ => v = .bl true) fun _ _ _ => False) ∧
        ∀ base : Heap, K.In base → base.Ns mainGlobals mg → FnG l.prog w K mg base (CX w) k fa fd [x] sp)
    (hCX : ∀ (w : World) (H : Hp) (s : Shared) (e : Value) (s' : Shared), CX w [] H s (fun _ _ _ => False) e s' → False) :
    PySem.W.WalkO q loose XP YP l.row.toRowW d [] (fun f vs => PySem.call f vs) := by
  refine Att.attach_call hn hdf fun w s₀ s₁ mg mb fa o pm cd doc a vs ns G Y ho hd hcd hmg hobj hints hlen hg => ?_
  obtain ⟨K, fd, sp, KX, hb, hsp, hF⟩ := F w mg fa _ Y G.T.g hmg
  exact law_callG KX G.T.g G.T.b G.T.builtins G.T.nolimit hg hobj hints (Nat.le_trans hlen hn2) hr hF hb (fun H hO hS => hsp H a ns hlen hO hS) fun H e s' => hCX w H s₁ e s'
end Gh

set_option Elab.async false
set_option linter.all false
set_option maxRecDepth 100000
set_option maxHeartbeats 4000000
/-! Pn: the pen that draws, its promise; small facts of heaps, lists of ints and what they show. -/
namespace Gh
open PySem PySem.Spec PyProof.Rows L2
/-- what stood stands, but at p -/
def Keep (H H' : Hp) (p : Addr) : Prop := ∀ a o, H a = some o → a ≠ p → H' a = some o
theorem Keep.refl {H : Hp} {p : Addr} : Keep H H p := fun _ _ h _ => h
theorem Keep.trans {H H' H'' : Hp} {p : Addr} (h : Keep H H' p) (k : Keep H' H'' p) : Keep H H'' p := fun a o e n => k a o (h a o e n) n
theorem Keep.new {H H' : Hp} {p q : Addr} {o : HO} (h : Keep H H' p) (n : H' q = none) : Keep H (upd H' q o) p := fun a u e ne => by
  rw [upd_ne (ne_of_none (h a u e ne) n)]
  exact h a u e ne
theorem Keep.put {H H' : Hp} {p : Addr} {o : HO} (h : Keep H H' p) : Keep H (upd H' p o) p := fun a u e ne => by
  rw [upd_ne ne]
  exact h a u e ne
/-- a pen: its cells, the index of the next one, what is left of a great one; b draws may still be made -/
def PenAt (H : Hp) (p : Addr) (b : Nat) : Prop := ∃ (c : Addr) (ns : List Int) (i z : Int), H p = some (.lst [.ref c, .int i, .int z]) ∧ H c = some (.lst (ns.map V.int)) ∧ ns.length ≤ 63 ∧ 0 ≤ i ∧ i + b ≤ 1000000 ∧ 0 ≤ z
theorem PenAt.le {H : Hp} {p : Addr} {a b : Nat} (h : PenAt H p b) (k : a ≤ b) : PenAt H p a := by
  obtain ⟨c, ns, i, z, h1, h2, h3, h4, h5, h6⟩ := h
  exact ⟨c, ns, i, z, h1, h2, h3, h4, by omega, h6⟩
theorem pen_ne {H : Hp} {p c : Addr} {ns : List Int} {i z : Int} (h : H p = some (.lst [.ref c, .int i, .int z])) (k : H c = some (.lst (ns.map V.int))) : c ≠ p := by
  refine ne_of k h fun e => ?_
  have e2 : ns.map V.int = [.ref c, .int i, .int z] := HO.lst.inj e
  cases ns with
  | nil => cases e2
  | cons n r => cases (List.cons.inj e2).1
/-- an object that is no pen, at a new place -/
theorem PenAt.new {H : Hp} {p q : Addr} {b : Nat} {o : HO} (h : PenAt H p b) (n : H q = none) : PenAt (upd H q o) p b := by
  obtain ⟨c, ns, i, z, h1, h2, h3⟩ := h
  exact ⟨c, ns, i, z, by rw [upd_ne (ne_of_none h1 n)]; exact h1, by rw [upd_ne (ne_of_none h2 n)]; exact h2, h3⟩
theorem PenAt.same {H H' : Hp} {p : Addr} {b : Nat} (h : PenAt H p b) (n : L2.Same H H') : PenAt H' p b := by
  obtain ⟨c, ns, i, z, h1, h2, h3⟩ := h
  exact ⟨c, ns, i, z, n _ _ h1, n _ _ h2, h3⟩
/-- the promise of the def that draws -/
def spDraw : Sp := fun vs H Q _ => ∃ (p : Addr) (b : Nat) (m : Int), vs = [.ref p, .int m] ∧ 0 < m ∧ m.natAbs.log2 < 9000 ∧ PenAt H p (b + 1) ∧
  ∀ (d : Int) (H' : Hp), 0 ≤ d → d < m → PenAt H' p b → Keep H H' p → Q (.int d) H'
/-- the promise of the def that makes a pen -/
def spPen (K : PySem.W.Frag) : Sp := fun vs H Q _ => ∃ (a : Addr) (ns : List Int), vs = [.ref a] ∧ SqL K H a (ns.map V.int) ∧ ns.length ≤ 63 ∧ ∀ (p : Addr) (H' : Hp), H p = none → PenAt H' p 1000000 → L2.Same H H' → Q (.ref p) H'
theorem dp_ints (K : PySem.W.Frag) (H : Hp) : ∀ ns : List Int, DpAll K H (ns.map V.int) (ns.map PyData.int)
  | [] => .nil
  | n :: r => .cons (.int n) (dp_ints K H r)
theorem eqv_nil (ds : List PyData) : PyData.eqv (.list ds) (.list []) = ds.isEmpty := by
  cases ds <;> rfl
theorem same_new {H : Hp} {q : Addr} {o : HO} (n : H q = none) : L2.Same H (upd H q o) := fun a u e => by
  rw [upd_ne (ne_of_none e n)]
  exact e
theorem atI_int {ns : List Int} {i : Int} (h0 : 0 ≤ i) (h1 : i < ns.length) : ∃ v, atI (ns.map V.int) i = some (.int v) ∧ v ∈ ns := by
  obtain ⟨j, rfl⟩ : ∃ j : Nat, i = j := ⟨i.toNat, by omega⟩
  have hl : j < ns.length := by omega
  refine ⟨ns[j], atI_nat ?_, List.getElem_mem hl⟩
  rw [List.getElem?_map, List.getElem?_eq_getElem hl]
  rfl
theorem pow_lt {i : Int} (h0 : 0 ≤ i) (h1 : i < 18446744073709551616) : i.natAbs < 2 ^ 64 := by
  have e : (2 : Nat) ^ 64 = 18446744073709551616 := by decide
  rw [e]
  omega
theorem mix_ok {x i a b c : Int} (h0 : 0 ≤ x) (h1 : x < 4294967296) (h2 : 0 ≤ i) (h3 : i ≤ 1000000) (ha : 0 ≤ a ∧ a ≤ 1000000) (hb : 0 ≤ b ∧ b ≤ 1000000) (hc : 0 ≤ c ∧ c ≤ 1000000) : (x * (2 * i + a) + b * i * i + c).natAbs < 2 ^ 64 := by
  have hii : 0 ≤ i * i ∧ i * i ≤ 1000000 * 1000000 := ⟨Int.mul_nonneg h2 h2, Int.mul_le_mul h3 h3 h2 (by decide)⟩
  have hxi : 0 ≤ x * (2 * i + a) ∧ x * (2 * i + a) ≤ 4294967296 * 4000000 := ⟨Int.mul_nonneg h0 (by omega), Int.mul_le_mul (by omega) (by omega) (by omega) (by decide)⟩
  have hbi : 0 ≤ b * (i * i) ∧ b * (i * i) ≤ 1000000 * (1000000 * 1000000) := ⟨Int.mul_nonneg hb.1 hii.1, Int.mul_le_mul hb.2 hii.2 hii.1 (by decide)⟩
  have e : b * i * i = b * (i * i) := Int.mul_assoc _ _ _
  refine pow_lt ?_ ?_ <;> (rw [e]; omega)
/-- 10 ** 18, a number's last part -/
theorem mod_lt (x : Int) {m : Int} (h : 0 < m) : 0 ≤ x % m ∧ x % m < m := ⟨Int.emod_nonneg _ (by omega), Int.emod_lt_of_pos _ h⟩
theorem log_small {m : Int} {n : Nat} (h0 : 0 < m) (h : m < 2 ^ n) (hn : 0 < n) (h9 : n ≤ 9000) : m.natAbs.log2 < 9000 := by
  refine Nat.lt_of_lt_of_le (PySem.Flt.log2_lt_of hn ?_) h9
  have e : ((m.natAbs : Nat) : Int) = m := by omega
  have h2 : ((m.natAbs : Nat) : Int) < ((2 ^ n : Nat) : Int) := by rw [e]; exact_mod_cast h
  exact_mod_cast h2
theorem cut_all {xs : List V} {n : Nat} (h : xs.length ≤ n) : cutV xs none (some (n : Int)) = xs := by
  unfold cutV
  rw [HT.sIx_none, HT.sIx_nat, Nat.min_eq_right h, List.drop_zero, Nat.sub_zero]
  exact List.take_length
theorem no_field {x y : Str} {v : V} (h : (y == x) = false) : ([(x, v)] : List (Str × V)).lookup y = none := by
  show (match y == x with
    | true => some v
    | false => ([] : List (Str × V)).lookup y) = none
  rw [h]
  rfl
/-- the promise of the def that picks -/
def spPick : Sp := fun vs H Q _ => ∃ (p : Addr) (b : Nat) (l : Addr) (xs : List V), vs = [.ref p, .ref l] ∧ H l = some (.lst xs) ∧ 0 < xs.length ∧ xs.length ≤ 1000 ∧ l ≠ p ∧ PenAt H p (b + 1) ∧
  ∀ (j : Nat) (v : V) (H' : Hp), xs[j]? = some v → PenAt H' p b → Keep H H' p → Q v H'
theorem yes_ite {σ : L2.St} {H : Hp} {F G : Hp → Prop} (h : F H) : tYes σ H (fun b H3 => if b = true then F H3 else G H3) := by
  show (if true = true then F H else G H)
  rw [if_pos rfl]
  exact h
/-- what int(x) of an int or a truth asks -/
abbrev rInt1 : List V → Hp → VK → Prop := fun xs H Q => (∃ i, xs = [V.int i] ∧ Q (V.int i) H) ∨ ∃ k, xs = [V.bl k] ∧ Q (V.int (if k = true then 1 else 0)) H
/-- [int(x) for x in xs], xs a list of ints: a new list of the same ints -/
theorem lc_int {K : PySem.W.Frag} {a : Addr} {ns : List Int} {i : Nat} {σ : L2.St} {H : Hp} {Q : Addr → Hp → Prop} (hS : SqL K H a (ns.map V.int)) (hl : ns.length ≤ 1000000) (hw : ∀ x, wipe ((wipe σ [i]).set i (some x)) [i] = wipe σ [i]) (hv : ∀ x, ((wipe σ [i]).set i (some x))[i]? = some (some x))
    (q : ∀ G H', L2.Same H H' → H G = none → H' G = some (.lst (ns.map V.int)) → Q G H') :
    ∀ D, H D = none → ∃ W : Nat → Nat → Hp → Prop, (∃ m, W 0 m (upd H D (.lst []))) ∧ ∀ j m H1, W j m H1 →
      ((Itl K a).stop j H1 ∧ Q D H1) ∨ ((Itl K a).go j H1 ∧ ∃ Nx : Hp → Prop, (∀ H', Nx H' → ∃ m', m' < m ∧ W (j + 1) m' H') ∧ ∀ x H', (Itl K a).yld j H1 x H' → gName i x (wipe σ [i]) H' fun σ2 H2 => wipe σ2 [i] = wipe σ [i] ∧ tYes σ2 H2 fun b H3 =>
        if b = true then tCB rInt1 (tCons (tVar i) tNil) σ2 H3 fun y H4 => ∃ acc, H4 D = some (.lst acc) ∧ acc.length < sizeLine ∧ Nx (upd H4 D (.lst (acc ++ [y]))) else Nx H3) := by
  intro D nD
  refine lc_list (K := K) (a := a) (xs := ns.map V.int) (fun j H2 => L2.Same H H2 ∧ H2 D = some (.lst ((ns.map V.int).take j))) ⟨same_new nD, upd_same⟩ (fun j H2 _ z => z.1.seq hS) (fun j x H2 hx z => ?_) (fun H2 z => ?_)
  · obtain ⟨n, rfl⟩ : ∃ n, x = V.int n := by
      rw [List.getElem?_map] at hx
      cases e : ns[j]? with
      | none => rw [e] at hx; cases hx
      | some n => rw [e] at hx; exact ⟨n, (Option.some.inj hx).symm⟩
    refine ⟨hw _, yes_ite ?_⟩
    refine ⟨_, hv _, .inl ⟨n, rfl, _, z.2, ?_, ?_, ?_⟩⟩
    · rw [List.length_take, List.length_map]
      exact Nat.lt_of_le_of_lt (Nat.min_le_right _ _) (Nat.lt_of_le_of_lt hl (by decide))
    · exact fun b u e => by
        rw [upd_ne (ne_of_none e nD)]
        exact z.1 _ _ e
    · rw [upd_same, List.take_add_one, hx]
      rfl
  · refine q D H2 z.1 nD ?_
    rw [z.2, List.take_of_length_le (Nat.le_refl _)]
/-- a statement, then the rest, with a word M between them -/
def tCut (t u : TS) : TS := fun D σ H => ∃ M : L2.St → Hp → Prop, t { D with nx := M } σ H ∧ ∀ σ' H', M σ' H' → u D σ' H'
theorem pss_cut {X : Cx} {st : Stmt} {rest : List Stmt} {t u : TS} (h1 : PS X st t) (h2 : PSs X rest u) : PSs X (st :: rest) (tCut t u) := by
  refine ⟨fun pins s σ H D I h => ?_⟩
  obtain ⟨M, hm, hu⟩ := h
  refine wpAny_execs_cons (thn (h1.run pins s σ H { D with nx := M } I hm) fun f s1 q => ?_)
  cases f with
  | next =>
    obtain ⟨σ1, H1, I1, q1⟩ := q
    exact h2.run pins s1 σ1 H1 D I1 (hu σ1 H1 q1)
  | ret v => exact q
  | brk => exact q
  | cont => exact q
end Gh

set_option Elab.async false
set_option linter.all false
set_option maxRecDepth 100000
set_option maxHeartbeats 4000000
/-! Rk: rules that name the written part (so that they serve inside comprehensions too). -/
namespace Gh
open PySem PySem.Spec PyProof.Rows L2
theorem PenAt.ne {H : Hp} {p c : Addr} {b : Nat} (h : PenAt H p b) (n : H c = none) : c ≠ p := by
  obtain ⟨d, ns, i, z, h1, _⟩ := h
  exact (ne_of_none h1 n).symm
/-- a def that lets no error out -/
theorem fnG0 {P : Program} {w : World} {K : PySem.W.Frag} {mg : Str → Option Value} {base : Heap} {CX : CXT} {k : Nat} {f : Addr} {fd : FuncData} {ps : List Str} {sp : Sp} {dvs : List V} {x qual : Str} {params : Arguments} {body : List Stmt} {scope : Scope} {kws : List (Str × V)} {N : List Str}
    (F : FunD K x qual params body scope dvs kws f fd) (S : FnScope N ps scope) (len : ∀ vs H Q E, sp vs H Q E → vs.length = ps.length)
    (hbody : ∀ (cdv : Value) (A : Around) (outer : List Env) (s : Shared) (H : Hp) (vs : List V) (Q : VK) (E : XK), Room k (A.deeper (envOfC qual scope s.heap.objs.size f cdv)) → (A.deeper (envOfC qual scope s.heap.objs.size f cdv)).guards = some [] → sp vs H Q E →
      ∃ t, PSs (cxOf CX P w K mg base N qual scope f cdv A outer s H E).nox body t ∧ t { nx := fun _ H' => Q .non H', rt := Q } (start N vs) H) : FnG P w K mg base CX (k + 1) f fd ps sp :=
  fnG_of F S len fun cdv A outer s H vs Q E hr hg h => by
    obtain ⟨t, ht, q⟩ := hbody cdv A outer s H vs Q E hr hg h
    exact ⟨t, PSs.nox ht, q⟩
section
variable {X : Cx} {K : PySem.W.Frag}
theorem ix_listK (h : X.K = K) : IxR X (rIxL K) := h ▸ ix_list
theorem ix_tupK (h : X.K = K) : IxR X (rIxT K) := h ▸ ix_tup
theorem call_lenK (h : X.K = K) : CallR X (.builtin "len") (fun xs H Q => ∃ x n, xs = [x] ∧ LenV K x H n ∧ Q (.int n) H) := h ▸ call_len
theorem call_isiK1 (h : X.K = K) : CallR X (.builtin "isinstance") (rIsi K) := h ▸ call_isi
theorem call_reprK (h : X.K = K) (hu : X.A.units + 102 < cLine) (hg : X.A.guards = some []) : CallR X (.builtin "repr") (rRepr K) := h ▸ call_reprD hu hg
end
end Gh

set_option Elab.async false
set_option linter.all false
set_option maxRecDepth 100000
set_option maxHeartbeats 4000000
/-! X1: an error of one's own that is held as a value: its fields, its class; try .. except X as n, the error kept behind it. -/
namespace Gh
open PySem PySem.Spec PyProof.Rows L2
/-- at a: an error of the class at C, its dict at d -/
def exk (a C d : Addr) : HO := .ext fun h => ∃ (o : Obj) (vs : Array Value), h.get? a = some o ∧ o.cls = .ref C ∧ o.dict = some d ∧ o.data = .fields vs
theorem exk_ok {P : Program} {w : World} {H : Hp} {h : Heap} {a C d : Addr} {o : Obj} {vs : Array Value} (h1 : h.get? a = some o) (h2 : o.cls = .ref C) (h3 : o.dict = some d) (h4 : o.data = .fields vs) : ObjOk P w H h a (exk a C d) :=
  ⟨⟨o, vs, h1, h2, h3, h4⟩, ⟨o, h1⟩, fun _ _ z k => by
    obtain ⟨o, vs, h1, h2, h3, h4⟩ := z
    exact ⟨o, vs, k _ h1, h2, h3, h4⟩⟩
theorem exk_at {P : Program} {w : World} {H : Hp} {h : Heap} {a C d : Addr} (hok : HOk P w H h) (e : H a = some (exk a C d)) : ∃ (o : Obj) (vs : Array Value), h.get? a = some o ∧ o.cls = .ref C ∧ o.dict = some d ∧ o.data = .fields vs :=
  (show ObjOk P w H h a (exk a C d) from hok a _ e).1
/-- what an error's class must say -/
structure ErrT (K : PySem.W.Frag) (C : Addr) : Prop where
  hg : PySem.W.findIn K (.ref C) "__getattribute__" = some (some (.builtin "BaseException.__getattribute__"))
  hk : PySem.W.findIn K (.ref C) "__getattr__" = some none
  hs : PySem.W.subIn K (.ref C) (.type "BaseException") = some true
  hd : PySem.W.hasDictIn K C = true
  ha : PySem.W.findIn K (.ref C) "__class__" = some (some (.builtin "object.__class__"))
  hn : PySem.W.specialIn K (.builtin "object.__class__") "__get__" = some (some (.builtin "getset_descriptor.__get__"))
  htk : PySem.W.takesIn K (.builtin "object.__class__") = some true
  hm : PySem.W.mroIn K C (.type "object") = some true
def errB (x : Str) (K : PySem.W.Frag) : Bool := He.eqO (PySem.W.findIn K (.ref (gd x K)) "__getattribute__") (some (some (.builtin "BaseException.__getattribute__"))) &&
  (He.eqO (PySem.W.findIn K (.ref (gd x K)) "__getattr__") (some none) && (decide (PySem.W.subIn K (.ref (gd x K)) (.type "BaseException") = some true) && (PySem.W.hasDictIn K (gd x K) &&
  (He.eqO (PySem.W.findIn K (.ref (gd x K)) "__class__") (some (some (.builtin "object.__class__"))) && (He.eqO (PySem.W.specialIn K (.builtin "object.__class__") "__get__") (some (some (.builtin "getset_descriptor.__get__"))) &&
  (decide (PySem.W.takesIn K (.builtin "object.__class__") = some true) && decide (PySem.W.mroIn K (gd x K) (.type "object") = some true)))))))
theorem errB_ok {x : Str} {K : PySem.W.Frag} (h : errB x K = true) : ErrT K (gd x K) := by
  obtain ⟨h1, h⟩ := He.ba h
  obtain ⟨h2, h⟩ := He.ba h
  obtain ⟨h3, h⟩ := He.ba h
  obtain ⟨h4, h⟩ := He.ba h
  obtain ⟨h5, h⟩ := He.ba h
  obtain ⟨h6, h⟩ := He.ba h
  obtain ⟨h7, h8⟩ := He.ba h
  exact ⟨He.eqO_ok h1, He.eqO_ok h2, of_decide_eq_true h3, h4, He.eqO_ok h5, He.eqO_ok h6, of_decide_eq_true h7, of_decide_eq_true h8⟩
section
variable {X : Cx} {e : Expr} {te : TE} {pos : Pos} {n : Str}
theorem exk_inst {pins : List (Addr × Obj)} {σ : L2.St} {H : Hp} {s : Shared} {a C d : Addr} {fs : List (Str × V)} (I : Inv X pins σ H s) (h1 : H a = some (exk a C d)) (h2 : H d = some (.xd fs)) :
    ∃ o od mA, PySem.W.InstAt s.heap a o C (some od) ∧ s.heap.Ns1 d mA ∧ (∀ f, RelO (fs.lookup f) (mA f)) ∧ s.heap.get? d = some od := by
  obtain ⟨o, vs, k1, k2, k3, k4⟩ := exk_at I.hok h1
  obtain ⟨mA, hns, hr⟩ := (show ObjOk X.prog X.w H s.heap d (.xd fs) from I.hok d _ h2)
  obtain ⟨od, ho, hl⟩ := lookIn_ns hns
  exact ⟨o, od, mA, ⟨k1, k2, by unfold PySem.W.notCls; rw [k4] <;> rfl, by rw [k3]; exact ho⟩, hns, hr, ho⟩
/-- e.n, e an error that is held -/
def tXa (K : PySem.W.Frag) (n : Str) (te : TE) : TE := fun σ H Q => te σ H fun x H1 => ∃ (a C d : Addr) (fs : List (Str × V)) (v : V), x = .ref a ∧ H1 a = some (exk a C d) ∧ ErrT K C ∧ PySem.W.findIn K (.ref C) n = some none ∧ H1 d = some (.xd fs) ∧ fs.lookup n = some v ∧ Q v H1
theorem pe_xa {K : PySem.W.Frag} (hK : X.K = K) (he : PE X e te) (hb : attributeBase e n X.env (eval e X.env) = eval e X.env := by rfl) : PE X (.Attribute e n pos) (tXa K n te) := by
  subst hK
  refine ⟨fun pins s σ H Q I h => ?_⟩
  refine attr_of hb (thn (he.run pins s σ H _ I h) fun u s1 hh => ?_)
  obtain ⟨x, H1, I1, rx, a, C, d, fs, v, ex, ea, T, hno, ed, l, q⟩ := hh
  subst ex
  obtain rfl : u = Value.ref a := rx
  obtain ⟨o, vs, k1, k2, k3, k4⟩ := exk_at I1.hok ea
  obtain ⟨mA, hns, hr⟩ := (show ObjOk X.prog X.w H1 s1.heap d (.xd fs) from I1.hok d _ ed)
  obtain ⟨od, ho, hl⟩ := lookIn_ns hns
  obtain ⟨u, hu, ru⟩ := RelO.some_of (v := v) (o := mA n) (by rw [← l]; exact hr n)
  have J : PySem.W.InstAt s1.heap a o C (some od) := ⟨k1, k2, by unfold PySem.W.notCls; rw [k4] <;> rfl, by rw [k3]; exact ho⟩
  exact HandSPX.exc_get I1.kIn J T.hg T.hk T.hs (PySem.W.findObj_own T.hd hno rfl (by rw [hl, hu])) (handed_of ru) ⟨v, H1, I1.tok _, ru, q⟩
/-- isinstance(x, c): x any value whose type is told, or an error that is held -/
def rIsiZ (K : PySem.W.Frag) : List V → Hp → VK → Prop := fun xs H Q => rIsi K xs H Q ∨ ∃ (a C d : Addr) (fs : List (Str × V)) (c : V) (u : Value) (b : Bool), xs = [.ref a, c] ∧ ClsV c u ∧ H a = some (exk a C d) ∧ H d = some (.xd fs) ∧ ErrT K C ∧ PySem.W.kitOne K (.ref C) u = some b ∧ Q (.bl b) H
theorem call_isiZ {K : PySem.W.Frag} (hK : X.K = K) : CallR X (.builtin "isinstance") (rIsiZ K) := by
  subst hK
  intro pins s σ H xs us Q I r h
  rcases h with h | ⟨a, C, d, fs, c, u, b, rfl, k, ea, ed, T, e, q⟩
  · exact call_isi pins s σ H xs us Q I r h
  · obtain ⟨u1, u2, rfl, r1, r2⟩ := vals2 r
    obtain rfl : u1 = Value.ref a := r1
    have e2 := k.eq r2
    subst e2
    obtain ⟨o, od, mA, J, _⟩ := exk_inst I ea ed
    have hcl : (PySem.W.clsIn X.K C).isSome = true := by
      obtain ⟨cd, hc, _⟩ := PySem.W.any_some T.hd
      rw [hc]
      rfl
    exact PySem.W.kia_one (PySem.W.kitx_exc hcl T.hg T.hk T.hs T.ha T.hn T.htk T.hm) I.kIn J e (fun z => nomatch z) fun tk => ⟨.bl b, H, I.tok tk, rfl, q⟩
end
/-- an object of the heap is tracked from now on -/
theorem inv_track {X : Cx} {pins : List (Addr × Obj)} {σ : L2.St} {H : Hp} {s : Shared} {a : Addr} {o : HO} (I : Inv X pins σ H s) (hn : H a = none) (n0 : X.s_0.heap.get? a = none) (nL : a ≠ X.env.locals) (nC : ∀ x c, X.env.cells.lookup x = some c → c ≠ a) (nP : ∀ p ∈ X.pn ++ pins, p.1 ≠ a)
    (ok : ObjOk X.prog X.w (upd H a o) s.heap a o) : Inv X pins σ (upd H a o) s := by
  have ne : ∀ {b : Addr} {u : HO}, H b = some u → b ≠ a := fun e => ne_of_none e hn
  refine ⟨I.ok, I.os, I.bare, ⟨I.base.keep, I.base.slot, fun b u e n hx => ?_, I.base.there, fun b xs e => ?_, fun b u v e => ?_, fun b ps e => ?_⟩, I.loc, I.cell, ?_, fun x c e => ?_, fun p hp => ?_, fun b u e => ?_, I.len⟩
  · rw [upd_ne (fun z => by rw [z, n0] at e; cases e)]
    exact I.base.free b u e n hx
  · have z := I.base.tups b xs e
    rw [upd_ne (ne z)]
    exact z
  · have z := I.base.frzs b u v e
    rw [upd_ne (ne z)]
    exact z
  · obtain ⟨more, z⟩ := I.base.tbls b ps e
    exact ⟨more, by rw [upd_ne (ne z)]; exact z⟩
  · rw [upd_ne nL.symm]
    exact I.free
  · rw [upd_ne (nC x c e)]
    exact I.freeC x c e
  · obtain ⟨z1, z2, z3⟩ := I.pin p hp
    exact ⟨z1, by rw [upd_ne (nP p hp)]; exact z2, z3⟩
  · by_cases hb : b = a
    · subst hb
      rw [upd_same] at e
      cases e
      exact ok
    · rw [upd_ne hb] at e
      exact (I.hok b u e).stay (fun _ _ _ q => q) (fun c hc => by rw [upd_ne (ne hc)]; exact hc) (fun c xs hc => by rw [upd_ne (ne hc)]; exact hc)
/-- what the clause wishes of an error of the body; behind the suite the error stands as a value -/
def wAsK (K : PySem.W.Frag) (c : Value) (i : Nat) (ts : Addr → Value → Option Addr → TS) (Wout : WX) (D : Ends) : WX := fun cls d σ H =>
  ∃ b, PySem.W.exmOne K cls c = some b ∧ (b = true → ∃ C dd, cls = .ref C ∧ d = some dd ∧ ∀ a, H a = none → ts a cls d { nx := fun σ' H' => H' a = none → D.nx (σ'.set i none) (upd H' a (exk a C dd)), rt := D.rt, bk := fun σ' H' => D.bk (σ'.set i none) H', ct := fun σ' H' => D.ct (σ'.set i none) H' } (σ.set i (some (.ref a))) H) ∧
    (b = false → Wout cls d σ H)
section
variable {X : Cx} {x n : Str} {c : Value} {i : Nat} {body suite : List Stmt} {b₀ : Stmt} {np pos pos' : Pos} {tb : WX → TS} {ts : Addr → Value → Option Addr → TS} {Wout : WX}
theorem ps_try_keep (hex : X.ex = []) (hs : X.stack = X.env :: X.outer) (hf : X.env.frame = some X.env.locals) (hN : X.N.Nodup) (hi : X.N[i]? = some n) (hln : X.env.kindOf n = some .local) (hc : Names X x c) (tk : Takes X Wout)
    (hb : ∀ (W : WX) (pn : List (Addr × Obj)) (xe : Value → Shared → Prop), Takes (X.tr pn xe) W → PassesOwn (model X.prog X.w) X.A X.env xe → PSs (X.tr pn xe) body (tb W))
    (hsu : ∀ (a : Addr) (oe : Obj) (cls : Value) (d : Option Addr) (pn : List (Addr × Obj)), Zc cls d oe → (∃ vs, oe.data = .fields vs) → PSs (X.suite a ((a, oe) :: pn)) (b₀ :: suite) (ts a cls d)) :
    PS X (.Try body [.ExceptHandler (some (.Name x np)) (some n) (b₀ :: suite) pos'] [] [] pos) (fun D σ H => tb (wAsK X.K c i ts Wout D) D σ H) := by
  refine ⟨fun pins s σ H D I h => ?_⟩
  have ok := I.ok
  have hfr : X.A.frames = some (X.env :: X.outer) := by rw [ok.frames, hs]
  have hloc : Loc X.env.scope n := .inl hln
  refine wpAny_Try_except ?_
  refine wpAny_mono ((hb (wAsK X.K c i ts Wout D) (X.pn ++ pins) (fun e s₁ => wpAny (model X.prog X.w) X.A (noteFrame e X.env) (fun _ s₂ => wpAny (model X.prog X.w) X.A (setFlight e none) (fun _ s₃ =>
    wpAny (model X.prog X.w) X.A (handleBy e X.env [.ExceptHandler (some (.Name x np)) (some n) (b₀ :: suite) pos']) (SP X pins D) X.xe s₃) X.xe s₂) X.xe s₁) (fun u s' xx => ?_) PassesOwn.looking).run [] s σ H D (I.toTry _) h) (fun f s1 hsp => ?_) (fun e s1 he => he)
  · -- the catch
    obtain ⟨a, B, sI, pins', σ', H', cls, d, rfl, J', nb, up, sky, na, os, ag, b, hb1, hyes, hno⟩ := xx
    have nB : B.get? a = none := by
      rcases sky with z | z | z
      · exact z.2.1
      · exact z.2.1
      · exact z.2.1
    have J : Inv X pins σ' H' sI := J'.ofTry ok
    have sky' : Sky B (X.env :: X.outer) a (Zc cls d) X.env.locals s'.heap := by rw [← hs]; exact sky
    show wpAny (model X.prog X.w) X.A (noteFrame (.ref a) X.env) _ _ _
    refine Sky.land Zc.steady hfr hf sky' fun h3 fl3 up3 => ?_
    have J3 : Inv X pins σ' H' { s' with heap := h3 } := J.landed nb fl3.1 (up.trans up3) os ag
    obtain ⟨oe3, vs3, he3, hz3, hd3⟩ := fl3.there
    have notFr : ∀ {h : Heap} {o : Obj} {vs : Array Value}, h.FunFrames B (X.env :: X.outer) → h.get? a = some o → o.data = .fields vs → a ∉ frs (X.env :: X.outer) := fun {h o vs} ff e dd hm => by
      obtain ⟨_, o', e', hnf⟩ := ff.mem hm
      rw [e] at e'; cases e'
      exact hnf _ dd
    have nfr := notFr fl3.2.2.1 he3 hd3
    have nL : a ≠ X.env.locals := fun z => nfr (List.mem_filterMap.mpr ⟨X.env, List.mem_cons_self, by rw [hf, z]⟩)
    have nF : a ∉ X.fs := fun hm => by
      obtain ⟨e, he, q⟩ := List.mem_filterMap.mp hm
      exact nfr (List.mem_filterMap.mpr ⟨e, List.mem_cons_of_mem _ he, q⟩)
    have nsI : sI.heap.get? a = none := by
      cases q : sI.heap.get? a with
      | none => rfl
      | some o =>
        have z := nb a o q (by rw [hs]; exact nfr)
        rw [nB] at z
        cases z
    have n0 : X.s_0.heap.get? a = none := by
      cases q : X.s_0.heap.get? a with
      | none => rfl
      | some o =>
        obtain ⟨o', z⟩ := J.base.there a o q (by rw [hex]; simp)
        rw [nsI] at z
        cases z
    have nP : ∀ p ∈ X.pn ++ pins, p.1 ≠ a := fun p hp z => by
      have y := (J.pin p hp).1
      rw [z, nsI] at y
      cases y
    have nC : ∀ x c, X.env.cells.lookup x = some c → c ≠ a := fun x c hx z => by
      obtain ⟨v, y⟩ := J.cell x c hx
      obtain ⟨o, y1, _⟩ := y
      rw [z, nsI] at y1
      cases y1
    have S3 := J3.suite he3 hd3 na nL nF
    refine wpAny_handleBy_cons (codeAny_handlers_test ?_) (by intro q; cases q)
    have LT : PySem.W.Looks (model X.prog X.w) h3 (typeOf (.ref a)) cls := fun A Q E s k q => wpAny_typeOf_ref (k _ _ he3) (by rw [hz3.1]; exact q)
    have LM := PySem.W.exm_one (M := model X.prog X.w) (J3.kIn) LT hb1
    have test : ∀ {Q : Value → Shared → Prop} {E : Value → Shared → Prop}, Q c { s' with heap := h3 } → wpAny (model X.prog X.w) (X.A.mark (some (.ref a))) (eval (.Name x np) X.env) Q E { s' with heap := h3 } := fun {Q E} q => by
      obtain ⟨hg, hdbg, hm | ⟨hm, hv, hnn⟩⟩ := hc
      · exact ld_glob (X := X.suite a ((a, oe3) :: (X.pn ++ pins))) S3 hg hm q hdbg
      · exact ld_blt (X := X.suite a ((a, oe3) :: (X.pn ++ pins))) S3 hg hm hv q hnn hdbg
    refine test (LM.here ?_)
    cases b with
    | true =>
      refine codeAny_handlers_suite_as ?_
      obtain ⟨C, dd, ecls, edd, hys⟩ := hyes rfl
      subst ecls
      subst edd
      refine HandSPX.lands_againZ fl3 fun h4 fl4 up4 => ?_
      have J4 : Inv X pins σ' H' { s' with heap := h4 } := J.landed nb fl4.1 ((up.trans up3).trans up4) os ag
      obtain ⟨oe4, vs4, he4, hz4, hd4⟩ := fl4.there
      have S4 := J4.suite he4 hd4 na nL nF
      refine store_ok (X := X.suite a ((a, oe4) :: (X.pn ++ pins))) (v := .ref a) S4 hN hi hloc rfl (fun s5 S5 => ?_) (.inr hln)
      refine wpAny_mono ((hsu a oe4 _ _ (X.pn ++ pins) hz4 ⟨_, hd4⟩).run [] s5 _ H' _ S5 (hys a na)) (fun f s6 hsp => ?_) (fun _ _ z => False.elim z)
      have end_ : ∀ {σ6 : L2.St} {H6 : Hp} {Q : Shared → Prop}, Inv (X.suite a ((a, oe4) :: (X.pn ++ pins))) [] σ6 H6 s6 → (∀ s7, Inv X pins (σ6.set i none) H6 s7 → Q s7) →
          wpAny (model X.prog X.w) X.A (do bindName X.env n .none; unbindBehindTheSuite X.env n pos') (fun _ s7 => Q s7) X.xe s6 := fun {σ6 H6 Q} S6 hq => gone_ok (S6.unsuite ok) hN hi hln hq
      cases f with
      | next =>
        obtain ⟨σ6, H6, S6, q6⟩ := hsp
        obtain ⟨ha6, hn6, _⟩ := S6.pin (a, oe4) (List.mem_append_left _ List.mem_cons_self)
        have J6 : Inv X pins σ6 (upd H6 a (exk a C dd)) s6 := inv_track (S6.unsuite ok) hn6 n0 nL nC nP (exk_ok ha6 hz4.1 hz4.2 hd4)
        exact gone_ok J6 hN hi hln fun s7 J7 => ⟨_, _, J7, q6 hn6⟩
      | brk =>
        obtain ⟨σ6, H6, S6, q6⟩ := hsp
        exact end_ S6 fun s7 J7 => ⟨_, _, J7, q6⟩
      | cont =>
        obtain ⟨σ6, H6, S6, q6⟩ := hsp
        exact end_ S6 fun s7 J7 => ⟨_, _, J7, q6⟩
      | ret u =>
        obtain ⟨v6, σ6, H6, S6, r6, q6⟩ := hsp
        exact end_ S6 fun s7 J7 => ⟨_, _, _, J7, r6, q6⟩
    | false =>
      show wpAny _ X.A (handleBy (.ref a) X.env []) _ _ _
      refine wpAny_handleBy_nil ?_
      obtain ⟨k1, k2, k3, oe, vs, T, oT, ts', he, hz, hd, h1, hr⟩ := id fl3
      unfold PySem.passOn
      refine wpAny_bind (wpAny_field he hd h1 ?_)
      rw [if_neg (show ¬ ((Value.ref T == Value.none) = true) from by simp)]
      have fin : wpAny (model X.prog X.w) X.A (setFlight (.ref a) X.env.frame) (fun _ s4 => wpAny (model X.prog X.w) X.A (throw (.ref a) : Sem Flow) (SP X pins D) X.xe s4) X.xe { s' with heap := h3 } := by
        rw [hf]
        refine HandSPX.setFlight_upZ fl3 fun h4 hh4 up4 => wpAny_throw (tk _ _ ?_)
        exact ⟨a, B, sI, pins, σ', H', cls, d, rfl, J, nb, (up.trans up3).trans up4, .inr (.inr (by rw [hs]; exact hh4)), na, os, ag, hno rfl⟩
      first
        | exact wpAny_bind (wpAny_pure (wpAny_bind fin))
        | exact wpAny_bind fin
  · cases f with
    | next =>
      obtain ⟨σ', H', J', q⟩ := hsp
      exact wpAny_execs_nil ⟨σ', H', J'.ofTry ok, q⟩
    | brk =>
      obtain ⟨σ', H', J', q⟩ := hsp
      exact ⟨σ', H', J'.ofTry ok, q⟩
    | cont =>
      obtain ⟨σ', H', J', q⟩ := hsp
      exact ⟨σ', H', J'.ofTry ok, q⟩
    | ret u =>
      obtain ⟨v, σ', H', J', r, q⟩ := hsp
      exact ⟨v, σ', H', J'.ofTry ok, r, q⟩
end
end Gh

set_option Elab.async false
set_option linter.all false
set_option maxRecDepth 100000
set_option maxHeartbeats 4000000
/-! Gt: heads and ends of laws with lambdas: the tables of the defs' code objects. -/
namespace Gh
open PySem PySem.Spec PyProof.Rows L2
/-- what the head tells: the facts, and of the defs tf their code objects' tables: empty, not in K -/
structure SaysT (ex : List (PySem.W.Frag → Bool)) (fn : List Df) (tf : List He.Defn) (h : Heap) (K : PySem.W.Frag) : Prop where
  t : Says ex fn K
  hd : ∀ p ∈ tf, PySem.W.codeHdIn K (He.cT K p).1 (He.cT K p).2 = true
  out : ∀ p ∈ tf, K.lookup (He.cT K p).2 = none
  empty : ∀ p ∈ tf, h.get? (He.cT K p).2 = some { cls := .none, data := .fields #[] }
/-- the addresses of the fragment: what hangs on the globals, and the interpreter's own statics (a class's attributes are read by them) -/
def asS (g : Addr → Option Obj) (n : Nat) : List Addr := He.asD g n ++ [cStatics]
abbrev AlT : Type := Al × Bool
def obsT (n : Nat) (ex : List (PySem.W.Frag → Bool)) (fn : List Df) (tf : List He.Defn) (g : Addr → Option Obj) : AlT := (obs ex fn (He.frT g (asS g n)), He.tabsB g tf (He.frT g (asS g n)))
theorem saysT_of {n : Nat} {ex : List (PySem.W.Frag → Bool)} {fn : List Df} {tf : List He.Defn} {h : Heap} (e : obsT n ex fn tf h.get? = (val fn, true)) : SaysT ex fn tf h (He.frT h.get? (asS h.get? n)) := by
  have e1 : obs ex fn (He.frT h.get? (asS h.get? n)) = val fn := congrArg (fun z : AlT => z.1) e
  have e2 : He.tabsB h.get? tf (He.frT h.get? (asS h.get? n)) = true := congrArg (fun z : AlT => z.2) e
  have key : ∀ p ∈ tf, PySem.W.codeHdIn (He.frT h.get? (asS h.get? n)) (He.cT (He.frT h.get? (asS h.get? n)) p).1 (He.cT (He.frT h.get? (asS h.get? n)) p).2 = true ∧ ∃ o, h.get? (He.cT (He.frT h.get? (asS h.get? n)) p).2 = some o ∧ He.emptyTab o = true := fun p hp => by
    obtain ⟨h3, h4⟩ := He.ba (List.all_eq_true.mp e2 p hp)
    refine ⟨h3, ?_⟩
    cases q : h.get? (He.cT (He.frT h.get? (asS h.get? n)) p).2 with
    | none =>
      rw [q] at h4
      cases h4
    | some o =>
      rw [q] at h4
      exact ⟨o, rfl, h4⟩
  exact ⟨e1, fun p hp => (key p hp).1, fun p hp => by
    obtain ⟨_, o, q, z⟩ := key p hp
    exact He.frT_none q z, fun p hp => by
    obtain ⟨_, o, q, z⟩ := key p hp
    rw [q, He.emptyTab_eq z]⟩
def hookT (n : Nat) (ex : List (PySem.W.Frag → Bool)) (fn : List Df) (tf : List He.Defn) : PySem.W.Hook where
  α := AlT
  obs := fun s => obsT n ex fn tf s.heap.get?
  val := fun _ => (val fn, true)
  says := fun _ h => ∃ K : PySem.W.Frag, K.In h ∧ SaysT ex fn tf h K
  of := fun _ _ e => ⟨_, He.frT_in, saysT_of e⟩
  keeps := fun _ _ _ ⟨K, hK, c⟩ k => ⟨K, PySem.W.Frag.In.keeps hK k, ⟨c.t, c.hd, c.out, fun p hp => k _ _ (c.empty p hp)⟩⟩
theorem obsT_eq {n : Nat} {ex : List (PySem.W.Frag → Bool)} {fn : List Df} {tf : List He.Defn} {g : Addr → Option Obj} {s : Shared} (h : ∀ a, g a = s.heap.get? a) : obsT n ex fn tf g = (hookT n ex fn tf).obs s := by
  have e : g = s.heap.get? := funext h
  rw [e] <;> rfl
theorem law_callTsG {P : Program} {w : World} {K : PySem.W.Frag} {mg mb : Str → Option Value} {CX : CXT} {k : Nat} {fa a : Addr} {cs : List (Addr × Addr)} {fd : FuncData} {x : Str} {sp : Sp} {s₁ : Shared} {vs : List Value} {ns : List Int}
    (KX : K.In s₁.heap) (hns : s₁.heap.Ns mainGlobals mg) (hb : s₁.heap.Ns builtinsNs mb) (hbb : ∀ x : Str, x ≠ "__name__" → mb x = bootBuiltins x) (hlim : s₁.heap.NoLimit) (hg : s₁.gens = #[])
    (hT : ∀ p ∈ cs, s₁.heap.get? p.2 = some { cls := .none, data := .fields #[] }) (nT : ∀ p ∈ cs, K.lookup p.2 = none) (C : ∀ p ∈ cs, PySem.W.CodeHd s₁.heap p.1 p.2)
    (hbm : ∃ (bm : Addr) (ob : Obj), mg "__builtins__" = some (.ref bm) ∧ bm ≠ builtinsNs ∧ s₁.heap.get? bm = some ob ∧ ob.cls = .type "module" ∧ ob.dict = some builtinsNs ∧ ob.data = .plain)
    (ha : s₁.heap.get? a = some { cls := .type "list", data := .seq vs.toArray }) (hi : IntsAre vs ns) (hl : ns.length ≤ sizeLine) (hr : Room k callerA)
    (F : ∀ base : Heap, K.In base → base.Ns mainGlobals mg → (∀ p ∈ cs, LamX.TabB base mg p.1 p.2) → FnG P w K mg base CX k fa fd [x] sp) (hbind : ∀ (s : Shared) (u : Value), BindsTo s fd ⟨[u], []⟩ [(x, u)])
    (hsp : ∀ H : Hp, (∀ p ∈ cs, H p.2 = some (.tbl #[])) → SqL K H a (ns.map V.int) → sp [.ref a] H (fun v _ => v = .bl true) fun _ _ _ => False)
    (hCX : ∀ H e s', CX [] H s₁ (fun _ _ _ => False) e s' → False) :
    codeAny (model P w) callerA (.call (.ref fa) ⟨[.ref a], []⟩) (fun r s' => r = .ok (.ret (.bool true)) ∧ OldK s₁.heap s'.heap ∧ s'.os = s₁.os ∧ AllBare s'.gens) s₁ := by
  have rv := vals_ints hi
  have lenV := hi.length
  have isT : ∀ b : Addr, b ∈ cs.map (·.2) → s₁.heap.get? b = some { cls := .none, data := .fields #[] } := fun b hb => by
    obtain ⟨p, hp, e⟩ := List.mem_map.mp hb
    rw [← e]
    exact hT p hp
  have aT : a ∉ cs.map (·.2) := fun z => by
    have q := isT a z
    rw [ha] at q
    have z' : Data.seq vs.toArray _ = Data.fields #[] := congrArg Obj.data (Option.some.inj q)
    cases z'
  have memT : ∀ p ∈ cs, p.2 ∈ cs.map (·.2) := fun p hp => List.mem_map.mpr ⟨p, hp, rfl⟩
  -- from an abstract heap in which nothing but the script and the tables may be tracked
  have core : ∀ H : Hp, (∀ p ∈ cs, H p.2 = some (.tbl #[])) → (∀ b, H b = none ∨ b ∈ cs.map (·.2) ∨ ∃ o xs, H b = some (.frz o (.lst xs))) → SqL K H a (ns.map V.int) → HOk P w H s₁.heap → (∀ b, H b ≠ none → b = a ∨ b ∈ cs.map (·.2)) → (H a ≠ none → K.lookup a = none) →
      codeAny (model P w) callerA (.call (.ref fa) ⟨[.ref a], []⟩) (fun r s' => r = .ok (.ret (.bool true)) ∧ OldK s₁.heap s'.heap ∧ s'.os = s₁.os ∧ AllBare s'.gens) s₁ := by
    intro H hH hO hS hok hA hK
    have base_of : ∀ {b : Addr} {o : Obj}, s₁.heap.get? b = some o → H b = none → (hidT s₁.heap H).get? b = some o := fun e n => hidT_get e n
    have noD : ∀ {b : Addr} {o : Obj}, s₁.heap.get? b = some o → (∀ vs n, o.data ≠ .seq vs n) → o.data ≠ .fields #[] → H b = none := fun {b o} e h1 h2 => by
      cases q : H b with
      | none => rfl
      | some u =>
        rcases hA b (by rw [q]; simp) with e' | e'
        · rw [e', ha] at e
          cases e
          exact (h1 _ _ rfl).elim
        · rw [isT b e'] at e
          cases e
          exact (h2 rfl).elim
    have noA : ∀ {b : Addr} {o : Obj} {es : Array DictEntry} {ep : Nat}, s₁.heap.get? b = some o → o.data = .dict es ep → H b = none := fun {b o es ep} e d => by
      refine noD e (fun vs n z => ?_) fun z => ?_
      · rw [d] at z
        cases z
      · rw [d] at z
        cases z
    have nsK : ∀ {b : Addr} {m : Str → Option Value}, s₁.heap.Ns b m → (hidT s₁.heap H).Ns b m := fun {b m} ⟨o, es, ep, e, d, r⟩ => ⟨o, es, ep, base_of e (noA e d), d, r⟩
    have hKb : K.In (hidT s₁.heap H) := fun b o e => base_of (KX b o e) (by
      cases q : H b with
      | none => rfl
      | some u =>
        rcases hA b (by rw [q]; simp) with e' | e'
        · rw [e'] at e q
          rw [hK (by rw [q]; simp)] at e
          cases e
        · obtain ⟨p, hp, ep⟩ := List.mem_map.mp e'
          rw [← ep, nT p hp] at e
          cases e)
    have hM : L2.Mod K mg (hidT s₁.heap H) := ⟨hKb, nsK hns, ⟨mb, nsK hb, hbb⟩, let ⟨mc, h1, h2⟩ := hlim; ⟨mc, nsK h1, h2⟩⟩
    have TB : ∀ p ∈ cs, LamX.TabB (hidT s₁.heap H) mg p.1 p.2 := fun p hp => by
      have hTp := hT p hp
      refine ⟨?_, ?_, fun z => ?_⟩
      · obtain ⟨o, us, file, tf, flags, tg, inF, text, tt, e1, r1, r2, r3, r4, r5, r6, r7, r8, hne⟩ := C p hp
        refine ⟨o, us, file, tf, flags, tg, inF, text, tt, base_of e1 (noD e1 (fun vs n z => ?_) fun z => ?_), r1, r2, r3, r4, r5, r6, r7, r8, hne⟩
        · rw [r2] at z
          cases z
        · rw [r2] at z
          cases z
          simp at r3
      · obtain ⟨bm, ob, b1, b2, b3, b4, b5, b6⟩ := hbm
        have nG : bm ≠ mainGlobals := fun q => by
          obtain ⟨o, es, ep, e, hd, _⟩ := hns
          rw [q, e] at b3
          cases b3
          rw [hd] at b6
          cases b6
        have nP : bm ≠ p.2 := fun q => by
          rw [q, hTp] at b3
          cases b3
          cases b6
        refine ⟨bm, ob, b1, b2, nG, nP, base_of b3 (noD b3 (fun vs n z => ?_) fun z => ?_), b4, b5, b6⟩
        · rw [b6] at z
          cases z
        · rw [b6] at z
          cases z
      · obtain ⟨o, es, ep, e, hd, _⟩ := hns
        rw [z, hTp] at e
        cases e
        cases hd
    have e0 : Env0 P w K mg (hidT s₁.heap H) callerA [] s₁ H := ⟨rfl, hM, fun b o e => of_hidT e, Nat.le_of_eq (hidT_size _ _), trivial, fun b hb => absurd (show b ∈ ([] : List Addr) from hb) (by simp), hok, .of_eq hg⟩
    refine codeAny_mono ((F _ hKb (nsK hns) TB).run callerA [] s₁ H ⟨[.ref a], []⟩ [.ref a] [.ref a] _ _ hr rfl e0 (hbind s₁ (.ref a)) (.cons rfl .nil) (hsp H hH hS)) fun r s' h => ?_
    cases r with
    | error e => exact (hCX H e s' h).elim
    | ok fl =>
      cases fl with
      | next => exact False.elim h
      | brk => exact False.elim h
      | cont => exact False.elim h
      | ret u =>
        obtain ⟨v, H', os, bare, un, hok', r', q⟩ := h
        have q' : v = .bl true := q
        subst q'
        obtain rfl : u = Value.bool true := r'
        have key : ∀ b o, b ∉ cs.map (·.2) → s₁.heap.get? b = some o → s'.heap.get? b = some o := fun b o nb e => by
          cases q : H b with
          | none => exact un.keep b o e q (by intro z; exact absurd (show b ∈ ([] : List Addr) from z) (by simp)) (by simp)
          | some u =>
            rcases hO b with z | z | ⟨ob, xs, z⟩
            · rw [q] at z; cases z
            · exact absurd z nb
            · have z2 := un.frzs b ob _ z
              obtain ⟨e1, _⟩ := hok b _ z
              obtain ⟨e2, _⟩ := hok' b _ z2
              rw [e] at e1; cases e1
              exact e2
        have grown : ∀ p ∈ cs, ∃ more : Array Value, s'.heap.get? p.2 = some { cls := .none, data := .fields more } := fun p hp => by
          obtain ⟨more, z⟩ := un.tbls p.2 #[] (hH p hp)
          exact ⟨_, hok' p.2 _ z⟩
        refine ⟨rfl, ⟨fun b o e => ?_, fun b o e => ?_⟩, os, bare⟩
        · by_cases hb : b ∈ cs.map (·.2)
          · obtain ⟨p, hp, ep⟩ := List.mem_map.mp hb
            obtain ⟨more, hm⟩ := grown p hp
            rw [← ep] at e ⊢
            rw [hT p hp] at e
            cases e
            exact .inr (.inl ⟨((C p hp).tab (hT p hp)).isCodeTable, rfl, #[], more, rfl, by rw [Array.empty_append]; exact hm⟩)
          · exact .inl (key b o hb e)
        · by_cases hb : b ∈ cs.map (·.2)
          · obtain ⟨p, hp, ep⟩ := List.mem_map.mp hb
            obtain ⟨more, hm⟩ := grown p hp
            rw [← ep]
            exact ⟨_, hm⟩
          · exact ⟨o, key b o hb e⟩
  cases hk : K.lookup a with
  | some o =>
    have e := KX a o hk
    rw [ha] at e
    cases e
    refine core (fun b => if b ∈ cs.map (·.2) then some (.tbl #[]) else none) (fun p hp => if_pos (memT p hp)) (fun b => ?_) (.inr ⟨_, vs.toArray, _, hk, rfl, rfl, rfl, by rw [List.size_toArray, lenV]; exact hl, by simpa using rv⟩) (fun b u z => ?_) (fun b z => ?_) fun z => absurd (show (if a ∈ cs.map (·.2) then some (HO.tbl #[]) else none) = none from if_neg aT) z
    · by_cases hb : b ∈ cs.map (·.2)
      · exact .inr (.inl hb)
      · exact .inl (if_neg hb)
    · by_cases hb : b ∈ cs.map (·.2)
      · have z' := (if_pos hb).symm.trans z
        cases z'
        exact isT b hb
      · have z' := (if_neg hb).symm.trans z
        cases z'
    · by_cases hb : b ∈ cs.map (·.2)
      · exact .inr hb
      · exact absurd (if_neg hb) z
  | none =>
    refine core (fun b => if b = a then some (.frz { cls := .type "list", data := .seq vs.toArray } (.lst (ns.map V.int))) else if b ∈ cs.map (·.2) then some (.tbl #[]) else none) (fun p hp => (if_neg (show ¬ p.2 = a from fun z => aT (by rw [← z]; exact memT p hp))).trans (if_pos (memT p hp))) (fun b => ?_)
      (.inl (.inr ⟨{ cls := .type "list", data := .seq vs.toArray }, if_pos rfl⟩)) (fun b u z => ?_) (fun b z => ?_) fun _ => hk
    · by_cases hb : b = a
      · exact .inr (.inr ⟨_, _, if_pos hb⟩)
      · by_cases hb2 : b ∈ cs.map (·.2)
        · exact .inr (.inl hb2)
        · exact .inl ((if_neg hb).trans (if_neg hb2))
    · by_cases hb : b = a
      · have z' := (if_pos hb).symm.trans z
        cases z'
        rw [hb]
        exact ⟨ha, by rw [List.length_map]; exact hl, vs, _, rv, ha⟩
      · have z1 := (if_neg hb).symm.trans z
        by_cases hb2 : b ∈ cs.map (·.2)
        · have z' := (if_pos hb2).symm.trans z1
          cases z'
          exact isT b hb2
        · have z' := (if_neg hb2).symm.trans z1
          cases z'
    · by_cases hb : b = a
      · exact .inl hb
      · by_cases hb2 : b ∈ cs.map (·.2)
        · exact .inr hb2
        · exact absurd ((if_neg hb).trans (if_neg hb2)) z
theorem walk_ofTsG {l : PySem.W.OpenLaw} {n k : Nat} {q : Program} {loose : List Str} {XP : (Str → Option Value) → Heap → Prop} {YP : World → Heap → Prop} {d : DefRec} {CX : World → CXT} {x : Str}
    (hn : l.most = some n) (hn2 : n ≤ sizeLine) (hdf : d.params.defaults = []) (hr : Room k callerA)
    (F : ∀ (w : World) (mg : Str → Option Value) (fa : Addr) (h : Heap), YP w h → h.Ns mainGlobals mg → mg d.name = some (.ref fa) →
      ∃ (K : PySem.W.Frag) (fd : FuncData) (cs : List (Addr × Addr)) (sp : Sp), K.In h ∧ (∀ p ∈ cs, h.get? p.2 = some { cls := .none, data := .fields #[] }) ∧ (∀ p ∈ cs, K.lookup p.2 = none) ∧ (∀ p ∈ cs, PySem.W.CodeHd h p.1 p.2) ∧
        (∀ (s : Shared) (u : Value), BindsTo s fd ⟨[u], []⟩ [(x, u)]) ∧
        (∀ (H : Hp) (a : Addr) (ns : List Int), ns.length ≤ n → (∀ p ∈ cs, H p.2 = some (.tbl #[])) → SqL K H a (ns.map V.int) → sp [.ref a] H (fun v _ => v = .bl true) fun _ _ _ => False) ∧
        ∀ base : Heap, K.In base → base.Ns mainGlobals mg → (∀ p ∈ cs, LamX.TabB base mg p.1 p.2) → FnG l.prog w K mg base (CX w) k fa fd [x] sp)
    (hCX : ∀ (w : World) (H : Hp) (s : Shared) (e : Value) (s' : Shared), CX w [] H s (fun _ _ _ => False) e s' → False) :
    PySem.W.WalkO q loose XP YP l.row.toRowW d [] (fun f vs => PySem.call f vs) := by
  refine Att.attach_call hn hdf fun w s₀ s₁ mg mb fa o pm cd doc a vs ns G Y ho hd hcd hmg hobj hints hlen hg => ?_
  obtain ⟨K, fd, cs, sp, KX, hT, nT, C, hb, hsp, hF⟩ := F w mg fa _ Y G.T.g hmg
  exact law_callTsG KX G.T.g G.T.b G.T.builtins G.T.nolimit hg hT nT C G.T.bmain hobj hints (Nat.le_trans hlen hn2) hr hF hb (fun H hH hS => hsp H a ns hlen hH hS) fun H e s' => hCX w H s₁ e s'
end Gh

set_option Elab.async false
set_option linter.all false
set_option maxRecDepth 100000
set_option maxHeartbeats 4000000
/-! Px: promises that hold whatever is being shown (FnOk), calls by them; errors made and raised; kinds of values. -/
namespace Gh
open PySem PySem.Spec PyProof.Rows L2
/-- as Prom, of FnOk -/
def PromO (P : Program) (w : World) (K : PySem.W.Frag) (mg : Str → Option Value) (base : Heap) (CX : CXT) (k : Nat) (f : Addr) (dvs : List V) (sp : Sp) : Prop :=
  ∃ (fd : FuncData) (ps : List Str) (ds : List Value), FnOk P w K mg base CX k f fd ps sp ∧ Binds K fd ps ds ∧ Vals dvs ds
theorem FnOk.toG {P : Program} {w : World} {K : PySem.W.Frag} {mg : Str → Option Value} {base : Heap} {CX : CXT} {k : Nat} {f : Addr} {fd : FuncData} {ps : List Str} {sp : Sp} (F : FnOk P w K mg base CX k f fd ps sp) : FnG P w K mg base CX k f fd ps sp :=
  ⟨F.len, fun A o s H a us vs Q E hr _ => F.run A o s H a us vs Q E hr⟩
theorem PromO.toG {P : Program} {w : World} {K : PySem.W.Frag} {mg : Str → Option Value} {base : Heap} {CX : CXT} {k : Nat} {f : Addr} {dvs : List V} {sp : Sp} (F : PromO P w K mg base CX k f dvs sp) : Prom P w K mg base CX k f dvs sp := by
  obtain ⟨fd, ps, ds, G, b, v⟩ := F
  exact ⟨fd, ps, ds, FnOk.toG G, b, v⟩
/-- a def that lets no error out -/
theorem fnO0 {P : Program} {w : World} {K : PySem.W.Frag} {mg : Str → Option Value} {base : Heap} {CX : CXT} {k : Nat} {f : Addr} {fd : FuncData} {ps : List Str} {sp : Sp} {dvs : List V} {x qual : Str} {params : Arguments} {body : List Stmt} {scope : Scope} {kws : List (Str × V)} {N : List Str}
    (F : FunD K x qual params body scope dvs kws f fd) (S : FnScope N ps scope) (len : ∀ vs H Q E, sp vs H Q E → vs.length = ps.length)
    (hbody : ∀ (cdv : Value) (A : Around) (outer : List Env) (s : Shared) (H : Hp) (vs : List V) (Q : VK) (E : XK), Room k (A.deeper (envOfC qual scope s.heap.objs.size f cdv)) → sp vs H Q E →
      ∃ t, PSs (cxOf CX P w K mg base N qual scope f cdv A outer s H E).nox body t ∧ t { nx := fun _ H' => Q .non H', rt := Q } (start N vs) H) : FnOk P w K mg base CX (k + 1) f fd ps sp :=
  F.ok S len fun cdv A outer s H vs Q E hr h => by
    obtain ⟨t, ht, q⟩ := hbody cdv A outer s H vs Q E hr h
    exact ⟨t, PSs.nox ht, q⟩
section
variable {X : Cx} {CX : CXT} {k : Nat} {f g C : Addr} {sp : Sp} {dvs : List V} {E : XK} {m : Str} {pos : Pos} {o : Expr} {ta : TE}
abbrev PromOX (X : Cx) (CX : CXT) (k : Nat) (f : Addr) (dvs : List V) (sp : Sp) : Prop := PromO X.prog X.w X.K X.mg X.base CX k f dvs sp
theorem PromO.call (F : PromOX X CX k f dvs sp) (hr : Room k X.A) (hx : Passes CX X E) : CallR X (.ref f) (rSp sp dvs E) := by
  intro pins s σ H xs us Q I r h
  obtain ⟨fd, ps, ds, G, b, hd⟩ := F
  exact run_fn G hr b hd hx I r h
theorem PromO.make (M : Mk X.K C f) (F : PromOX X CX k f dvs sp) (hr : Room (k + 1) X.A) (hx : Passes CX X E) : CallR X (.ref C) (rMk C sp dvs E) := by
  intro pins s σ H vs us Q I r h
  unfold rMk at h
  obtain ⟨fd, ps, ds, G, b, hd⟩ := F
  exact run_make M G hr b hd hx I r h
theorem pe_po {pp : Addr} (he : PE X o ta) (c : Cls X.K C) (hp : PropOf X.K C m pp g) (F : PromOX X CX k g dvs sp) (hr : Room (k + 1) X.A) (hx : Passes CX X.nox E)
    (hab : attributeBase o m X.env (eval o X.env) = eval o X.env := by rfl) : PE X (.Attribute o m pos) (tPr C sp dvs E ta) := by
  obtain ⟨fd, ps, ds, G, b, hd⟩ := F
  exact pe_prop he c hp G hr b hd hx hab
/-- the callee's error is the caller's -/
theorem pass_on (hs : X.stack = X.env :: X.outer) (hf : X.env.frame = some X.env.locals) (hex : X.ex = []) {E₁ : Value → Shared → Prop} (hx : X.xe = fun e s' => wpAny (model X.prog X.w) X.A (leaving X.env e) (fun _ s'' => L2.CX X.prog X.w X.outer X.H_0 X.s_0 E e s'') E₁ s') : Passes (L2.CX X.prog X.w) X E :=
  passes_call (takes_of hs hf hex hx) fun _ _ _ _ h => h
end
/-! ### errors -/
def oexB (x : Str) (K : PySem.W.Frag) : Bool := (match K.lookup (gd x K) with
  | some ⟨.type c, _, .cls ⟨_, _, .ref m :: bm, _, _, hd, _, _, _, _, dl⟩, ⟨[_, _, _, _, some (.builtin n), _]⟩⟩ => decide (c = "type") && (decide (m = gd x K) && (PySem.HandSPX.refsVE bm && (hd && (!dl && decide (n = "ValueError.__new__")))))
  | _ => false) && (He.eqO (PySem.W.findIn K (.ref (gd x K)) "__setattr__") (some (some (.builtin "object.__setattr__"))) && (decide (PySem.W.subIn K (.ref (gd x K)) (.type "BaseException") = some true) &&
  (decide (PySem.W.typeIn K (.ref (gd x K)) = some (.type "type")) && PySem.W.keepIn K (.ref (gd x K)))))
theorem oexB_ok {x : Str} {K : PySem.W.Frag} (h : oexB x K = true) : OexC K (gd x K) := by
  obtain ⟨h1, h⟩ := He.ba h
  obtain ⟨h2, h⟩ := He.ba h
  obtain ⟨h3, h⟩ := He.ba h
  obtain ⟨h4, h5⟩ := He.ba h
  refine ⟨?_, He.eqO_ok h2, of_decide_eq_true h3, of_decide_eq_true h4, h5⟩
  split at h1
  · rename_i c dd nm bs m bm ns qn hd sn sb ab col dl k0 k1 k2 k3 n k5 e
    obtain ⟨z1, h1⟩ := He.ba h1
    obtain ⟨z2, h1⟩ := He.ba h1
    obtain ⟨z3, h1⟩ := He.ba h1
    obtain ⟨z4, h1⟩ := He.ba h1
    obtain ⟨z5, z6⟩ := He.ba h1
    have y1 := of_decide_eq_true z1
    have y2 := of_decide_eq_true z2
    have y6 := of_decide_eq_true z6
    have y5 : dl = false := by simpa using z5
    subst y1 y6 y5 z4
    refine ⟨nm, qn, ns, bs, bm, sn, sb, ab, col, dd, k0, k1, k2, k3, k5, ?_, z3⟩
    rw [e, y2]
  · cases h1
/-- an error's __init__ with one field, with two -/
def spErr1 (C : Addr) (f : Str) : Sp := fun vs H Q _ => ∃ (a : Addr) (v : V), vs = [.ref a, v] ∧ H a = some (exo a C none) ∧ ∀ d, H d = none → d ≠ a → Q .non (upd (upd H d (exd d [(f, v)])) a (exo a C (some d)))
def spErr2 (C : Addr) (f g : Str) : Sp := fun vs H Q _ => ∃ (a : Addr) (v u : V), vs = [.ref a, v, u] ∧ H a = some (exo a C none) ∧ ∀ d, H d = none → d ≠ a → Q .non (upd (upd (upd H d (exd d [(f, v)])) a (exo a C (some d))) d (exd d [(g, u), (f, v)]))
theorem mk_err1 {C : Addr} {f : Str} {v : V} {H : Hp} {Q : XK} (h : ∀ d H', L2.Same H H' → H d = none → H' d = some (.xd [(f, v)]) → Q (.ref C) (some d) H') :
    ([v] : List V).length ≤ 1000 ∧ ∀ a, H a = none → spErr1 C f (.ref a :: ([v] ++ [])) (upd H a (exo a C none)) (fun u H2 => u = .non ∧ ∃ (d : Addr) (fs : List (Str × V)), H2 a = some (exo a C (some d)) ∧ H2 d = some (exd d fs) ∧ H d = none ∧ Q (.ref C) (some d) (upd (del H2 a) d (.xd fs))) (fun _ _ _ => False) := by
  refine ⟨by show 1 ≤ 1000; decide, fun a na => ⟨a, v, rfl, upd_same, fun d nd ne => ⟨rfl, d, [(f, v)], upd_same, ?_, ?_, ?_⟩⟩⟩
  · rw [upd_ne ne, upd_same]
  · rw [upd_ne ne] at nd
    exact nd
  · have nd0 : H d = none := by
      rw [upd_ne ne] at nd
      exact nd
    refine h d _ (fun b u e => ?_) nd0 upd_same
    have hb : b ≠ a := ne_of_none e na
    have hd : b ≠ d := ne_of_none e nd0
    rw [upd_ne hd, del_ne hb, upd_ne hb, upd_ne hd, upd_ne hb]
    exact e
/-! ### kinds of values -/
/-- the values that are passed: None, truths, numbers, texts, lists, tuples, dicts -/
inductive Kd (H : Hp) : V → Prop
  | non : Kd H .non
  | bl (b : Bool) : Kd H (.bl b)
  | int (i : Int) : Kd H (.int i)
  | str (x : Str) : Kd H (.str x)
  | lst {a : Addr} {xs : List V} (h : H a = some (.lst xs)) : Kd H (.ref a)
  | tup {a : Addr} {xs : List V} (h : H a = some (.tup xs)) : Kd H (.ref a)
  | dK {a : Addr} {kvs : List (Key × V)} (h : H a = some (.dK kvs)) : Kd H (.ref a)
/-- its class's name -/
theorem Kd.ty {K : PySem.W.Frag} {H : Hp} {v : V} (k : Kd H v) : ∃ n : String, TyX K H v (.type n) ∧ ((∃ i, v = .int i) ∧ n = "int" ∨ (∃ b, v = .bl b) ∧ n = "bool" ∨ (∀ i, v ≠ .int i) ∧ (∀ b, v ≠ .bl b) ∧ n ∈ (["NoneType", "str", "list", "tuple", "dict"] : List String)) := by
  cases k with
  | non => exact ⟨_, .base .non, .inr (.inr ⟨fun _ => nofun, fun _ => nofun, by decide⟩)⟩
  | bl b => exact ⟨_, .base (.bl b), .inr (.inl ⟨⟨b, rfl⟩, rfl⟩)⟩
  | int i => exact ⟨_, .base (.int i), .inl ⟨⟨i, rfl⟩, rfl⟩⟩
  | str x => exact ⟨_, .base (.str x), .inr (.inr ⟨fun _ => nofun, fun _ => nofun, by decide⟩)⟩
  | lst h => exact ⟨_, .base (.lst h), .inr (.inr ⟨fun _ => nofun, fun _ => nofun, by decide⟩)⟩
  | tup h => exact ⟨_, .base (.tup h), .inr (.inr ⟨fun _ => nofun, fun _ => nofun, by decide⟩)⟩
  | dK h => exact ⟨_, .base (.dK h), .inr (.inr ⟨fun _ => nofun, fun _ => nofun, by decide⟩)⟩
theorem Kd.same {H H' : Hp} {v : V} (k : Kd H v) (s : L2.Same H H') : Kd H' v := by
  cases k with
  | non => exact .non
  | bl b => exact .bl b
  | int i => exact .int i
  | str x => exact .str x
  | lst h => exact .lst (s _ _ h)
  | tup h => exact .tup (s _ _ h)
  | dK h => exact .dK (s _ _ h)
def isI : V → Bool
  | .int _ => true
  | _ => false
def withinV (v : V) (a b : Int) : Bool := match v with
  | .int i => decide (a ≤ i) && decide (i ≤ b)
  | _ => false
/-- isinstance(v, int), isinstance(v, bool) -/
theorem Kd.isInt {K : PySem.W.Frag} {H : Hp} {v : V} (k : Kd H v) : ∃ t b, TyX K H v t ∧ PySem.W.kitOne K t (.type "int") = some b ∧ PySem.W.kitOne K t (.type "bool") = some (b && !isI v) ∧ (b = false → isI v = false) := by
  obtain ⟨n, ty, h | h | h⟩ := k.ty (K := K)
  · obtain ⟨⟨i, rfl⟩, rfl⟩ := h
    exact ⟨_, true, ty, kit_ty (by decide +kernel), kit_ty (r := false) (by decide +kernel), fun z => by cases z⟩
  · obtain ⟨⟨b, rfl⟩, rfl⟩ := h
    exact ⟨_, true, ty, kit_ty (by decide +kernel), kit_ty (r := true) (by decide +kernel), fun _ => rfl⟩
  · obtain ⟨h1, h2, h3⟩ := h
    have e : isI v = false := by
      cases v with
      | int i => exact absurd rfl (h1 i)
      | _ => rfl
    refine ⟨_, false, ty, kit_ty ?_, kit_ty (r := false) ?_, fun _ => e⟩
    · revert n
      intro n _ h3
      simp only [List.mem_cons, List.mem_nil_iff, or_false] at h3
      rcases h3 with rfl | rfl | rfl | rfl | rfl <;> decide +kernel
    · revert n
      intro n _ h3
      simp only [List.mem_cons, List.mem_nil_iff, or_false] at h3
      rcases h3 with rfl | rfl | rfl | rfl | rfl <;> decide +kernel
end Gh

set_option Elab.async false
set_option linter.all false
set_option maxRecDepth 100000
set_option maxHeartbeats 4000000
/-! Py: instances called, static methods. -/
namespace Gh
open PySem PySem.Spec PyProof.Rows L2
/-- a static method's def -/
def staG (x m : Str) (K : PySem.W.Frag) : Addr := match PySem.W.recIn K (He.ma K (He.ga K x) m) "staticmethod" with
  | some (.ref g :: _) => g
  | _ => 0
structure StaT (K : PySem.W.Frag) (C : Addr) (m : Str) (p g : Addr) : Prop where
  rd : PySem.W.readsIn K C (.type "type") = true
  ga : PySem.W.specialIn K (.ref C) "__getattribute__" = some (some (.builtin "type.__getattribute__"))
  ty : PySem.W.typeIn K (.ref C) = some (.type "type")
  at_ : PySem.W.findCls K (.ref C) (.type "type") m = some (.get (.builtin "staticmethod.__get__") (.ref p) .none (.ref C))
  rc : ∃ rest, PySem.W.recIn K p "staticmethod" = some (.ref g :: rest)
  kp : PySem.W.keepIn K (.ref g) = true
def staB (x m : Str) (K : PySem.W.Frag) : Bool := PySem.W.readsIn K (gd x K) (.type "type") && (He.eqO (PySem.W.specialIn K (.ref (gd x K)) "__getattribute__") (some (some (.builtin "type.__getattribute__"))) &&
  (decide (PySem.W.typeIn K (.ref (gd x K)) = some (.type "type")) && ((match PySem.W.findCls K (.ref (gd x K)) (.type "type") m with
    | some (.get (.builtin b) (.ref p) .none (.ref C)) => decide (b = "staticmethod.__get__") && (decide (p = He.ma K (He.ga K x) m) && decide (C = gd x K))
    | _ => false) && ((match PySem.W.recIn K (He.ma K (He.ga K x) m) "staticmethod" with
    | some (.ref _ :: _) => true
    | _ => false) && PySem.W.keepIn K (.ref (staG x m K))))))
theorem staB_ok {x m : Str} {K : PySem.W.Frag} (h : staB x m K = true) : StaT K (gd x K) m (He.ma K (He.ga K x) m) (staG x m K) := by
  obtain ⟨h1, h⟩ := He.ba h
  obtain ⟨h2, h⟩ := He.ba h
  obtain ⟨h3, h⟩ := He.ba h
  obtain ⟨h4, h⟩ := He.ba h
  obtain ⟨h5, h6⟩ := He.ba h
  refine ⟨h1, He.eqO_ok h2, of_decide_eq_true h3, ?_, ?_, h6⟩
  · split at h4
    · rename_i b p C e
      obtain ⟨z1, z⟩ := He.ba h4
      obtain ⟨z2, z3⟩ := He.ba z
      rw [e, of_decide_eq_true z1, of_decide_eq_true z2, of_decide_eq_true z3]
    · cases h4
  · unfold staG
    split at h5
    · rename_i g r e
      rw [e]
      exact ⟨r, rfl⟩
    · cases h5
section
variable {X : Cx} {CX : CXT} {k : Nat} {f g C : Addr} {sp : Sp} {dvs : List V} {E : XK} {m : Str} {apos pos : Pos} {o e : Expr} {es : List Expr} {ta : TE} {t : TA} {r : List V → Hp → VK → Prop}
/-- C.m(e, ..), m a static method -/
def tSm (C : Addr) (r : List V → Hp → VK → Prop) (ta : TE) (t : TA) : TE := fun σ H Q => ta σ H fun x H1 => x = .ref C ∧ t σ H1 fun vs H2 => r vs H2 Q
theorem pe_sm {p : Addr} {pl : Sem Bool} (he : PE X o ta) (c : StaT X.K C m p g) (R : CallR X (.ref g) r) (ha : PA X (e :: es) t)
    (hst : starEach (e :: es) X.env = (false, eval e X.env) :: starEach es X.env := by rfl) (hpl : (backTo pos (starEach es X.env)).any (·.1) = false := by rfl)
    (ht : eval (.Call (.Attribute o m apos) (e :: es) [] pos) X.env = (do
      let ov ← eval o X.env
      standAt apos.atName
      let (f, first) ← holding [ov] (getMethod ov m pl)
      callWith pos f first (backTo pos (starEach (e :: es) X.env)) (backToKw pos (keywordEach [] X.env))) := by rfl) :
    PE X (.Call (.Attribute o m apos) (e :: es) [] pos) (tSm C r ta t) := by
  refine ⟨fun pins s σ H Q I h => ?_⟩
  refine PySem.W.methodCall_KW (pl := pl) (thn (he.run pins s σ H _ I h) fun u s1 ⟨x, H1, I1, rx, ex, q⟩ => ?_) ht
  subst ex
  obtain rfl : u = Value.ref C := rx
  obtain ⟨mm, fr⟩ := I1.fr
  obtain ⟨rest, hrc⟩ := c.rc
  refine PySem.W.method_of_cls fr I1.ok.mod.kin c.ga (PySem.W.cls_sm fr I1.ok.mod.kin c.ty c.rd c.at_ hrc rfl ?_)
  have I2 := I1.tok (s1.toks + 1)
  refine PySem.W.callWith_K (h₀ := X.base) I2.ok.mod.kin c.kp (thn (ha.run pos pins _ σ H1 _ I2 q) fun us s2 ⟨vs, H2, I3, rv, q2⟩ => ⟨I3.kIn, ?_⟩) hst hpl
  exact R pins s2 σ H2 vs us Q I3 rv q2
end
end Gh

set_option Elab.async false
set_option linter.all false
set_option maxRecDepth 100000
set_option maxHeartbeats 4000000
/-! Ro: an int times an instance, by the instance's own reflected method. -/
namespace PySem.W
open Lean Elab Tactic Meta PySem PySem.Calls PyProof.Rows
section
variable {prog : Program} {w : World} {A : Around} {E : Value → Shared → Prop} {s : Shared} {K : Frag} {x C L f g : Addr} {h₀ : Heap} {m : Str → Option Value} {ox : Obj} {od : Option Obj}
theorem gh_try_mul {k : Int} {t : Tok} {Q : Option Value → Shared → Prop} (hx : s.heap.get? x = some ox) (hd : ox.data = .plain) (h : Q none s) : wpAny (model prog w) A (tryMethod (.int k t) "__mul__" (.ref x)) Q E s := by
  unfold tryMethod
  refine wpAny_bind (wpAny_callSpecial?_slot (typeIs_int s k t) F.slot_int_mul (wpAny_call_entry F.slot_int_mul (typeIs_int s k t) F.entry_int_mul ?_ (F.args_int_mul_2 _ _)))
  obtain ⟨hp, g, d, tk, os⟩ := s
  wp_walk using AutoSeq1.wpAny_loadPart' hx
  rw [hd]
  refine wpAny_pure ?_
  wp_walk
  exact ⟨_, rfl, wpAny_pure h⟩
theorem gh_rmul {k : Int} {t : Tok} {Q : Value → Shared → Prop} (F' : Fr h₀ L s.heap m) (X₀ : K.In h₀) (I : InstAt s.heap x ox C od) (hd : ox.data = .plain) (hc : selfFirst K C = true) (hs : findIn K (.ref C) (PySem.dunder "mul") = some (some (.ref f)))
    (hr : findIn K (.ref C) (dunderR "mul") = some (some (.ref g))) (hf : isFn K (.ref g) = true) (hsub : subIn K (.ref C) (.type "int") = some false)
    (h : wpAny (model prog w) A (call (.ref g) [.ref x, .int k t]) (CmpBack Q) E s) : wpAny (model prog w) A (binaryOp .Mult (.int k t) (.ref x)) Q E s := by
  have X := X₀.keeps F'.keep
  obtain ⟨cd, rest, hcd, hm⟩ := ksp_first hc
  have one := ksp_try X I hr hf h
  have zero : wpAny (model prog w) A (tryMethod (.int k t) (PySem.dunder "mul") (.ref x)) (fun r s' => r = none ∧ s' = s) E s := gh_try_mul I.at_ hd ⟨rfl, rfl⟩
  obtain ⟨hh, gg, d, tt, os⟩ := s
  have L1 : Looks (model prog w) hh (typeOf (.int k t)) (.type "int") := Looks.of_pure rfl
  have L2 : Looks (model prog w) hh (typeOf (.ref x)) (.ref C) := I.type
  have L3 : Looks (model prog w) hh (fillsNumberSlot (.type "int") "mul") true := Looks.of_pure F.fills_int_mul
  have L4 : Looks (model prog w) hh (fillsNumberSlot (.ref C) "mul") true := fills_K X hcd hm hs
  have L5 : Looks (model prog w) hh (isSubtype (.ref C) (.type "int")) false := looks_subIn X hsub
  have L7 : Looks (model prog w) hh (numberSlotInPython (.type "int") "mul") false := Looks.of_pure rfl
  have hne : (Value.type "int" == Value.ref C) = false := Bool.eq_false_iff.mpr fun q => by cases beq_iff_eq.mp q
  have hi : (Operator.Mult).info = ("*", "mul") := rfl
  simp only [binaryOp, hi]
  refine wpAny_holding (wpAny_bind ?_)
  unfold binaryOp1
  refine wpAny_bind (L1.at (wpAny_bind (L2.at (wpAny_bind (L3.at ?_)))))
  simp only [hne, Bool.false_eq_true, if_false]
  ksp_lk
  refine wpAny_mono zero (fun r s' hr' => ?_) fun _ _ e => e
  obtain ⟨rfl, rfl⟩ := hr'
  ksp_lk
  refine wpAny_mono one (fun r s' hr' => ?_) fun _ _ e => e
  obtain ⟨v, rfl, hq⟩ := hr'
  ksp_lk
  exact hq
end
end PySem.W
namespace Gh
open PySem PySem.Spec PyProof.Rows L2
/-- k * o, o an instance -/
@[irreducible] def rRmul (C : Addr) (r : List V → Hp → VK → Prop) : R2 := fun x y H Q => ∃ a dx fs i, x = .int i ∧ y = .ref a ∧ H a = some (.ins C dx fs) ∧ r [y, x] H Q
theorem op_rmul {X : Cx} {C f g : Addr} {r : List V → Hp → VK → Prop} (hc : PySem.W.selfFirst X.K C = true) (hs : PySem.W.findIn X.K (.ref C) "__mul__" = some (some (.ref f))) (hr : PySem.W.findIn X.K (.ref C) "__rmul__" = some (some (.ref g)))
    (hf : PySem.W.isFn X.K (.ref g) = true) (hsub : PySem.W.subIn X.K (.ref C) (.type "int") = some false) (R : CallR X (.ref g) r) : OpR X (binaryOp .Mult) (rRmul C r) := by
  intro pins s σ H x y v u Q I rx ry h
  unfold rRmul at h
  obtain ⟨a, dx, fs, i, rfl, rfl, ha, q⟩ := h
  cases (show u = Value.ref a from ry)
  obtain ⟨t, z⟩ := (show ∃ t, v = Value.int i t from rx)
  subst z
  obtain ⟨ox, od, J, hd⟩ := StX.insC_at I (.inr ⟨dx, fs, ha⟩)
  obtain ⟨m, hF⟩ := I.fr
  refine PySem.W.gh_rmul hF I.ok.mod.kin J hd hc hs hr hf hsub ?_
  exact wpAny_mono (R pins s σ H [.ref a, .int i] [.ref a, .int i t] Q I (.cons rfl (.cons ⟨t, rfl⟩ .nil)) q) (fun w s' z => cmp_back z) fun _ _ x => x
end Gh

set_option Elab.async false
set_option linter.all false
set_option maxRecDepth 100000
set_option maxHeartbeats 4000000
/-! Pz: repr of any value that is told; errors raised by promises; instances that may be called. -/
namespace Gh
open PySem PySem.Spec PyProof.Rows L2
/-! ### what repr shows -/
inductive Shw (K : PySem.W.Frag) (H : Hp) : V → Str → Prop
  | non : Shw K H .non "None"
  | bl (b : Bool) : Shw K H (.bl b) (if b then "True" else "False")
  | int (i : Int) : i.natAbs.log2 < 1920 → Shw K H (.int i) (toString i)
  | str (x : Str) : (reprText x).length ≤ sizeLine → Shw K H (.str x) (reprText x)
  | dp {a : Addr} {d : PyData} : Dp K H (.ref a) d → d.showable = true → d.hasDict = false → d.depth ≤ 100 → d.shown.length ≤ sizeLine → Shw K H (.ref a) d.shown
theorem sqL_same {K : PySem.W.Frag} {H H' : Hp} {a : Addr} {xs : List V} (h : SqL K H a xs) (s : L2.Same H H') : SqL K H' a xs := by
  rcases h with (h | ⟨o, h⟩) | h
  · exact .inl (.inl (s _ _ h))
  · exact .inl (.inr ⟨o, s _ _ h⟩)
  · exact .inr h
theorem sqT_same {K : PySem.W.Frag} {H H' : Hp} {a : Addr} {xs : List V} (h : SqT K H a xs) (s : L2.Same H H') : SqT K H' a xs := by
  rcases h with (h | ⟨o, h⟩) | h
  · exact .inl (.inl (s _ _ h))
  · exact .inl (.inr ⟨o, s _ _ h⟩)
  · exact .inr h
mutual
theorem dp_same {K : PySem.W.Frag} {H H' : Hp} (s : L2.Same H H') : ∀ {v : V} {d : PyData}, Dp K H v d → Dp K H' v d
  | _, _, .non => .non
  | _, _, .bl b => .bl b
  | _, _, .int i => .int i
  | _, _, .str x => .str x
  | _, _, .lst h a => .lst (sqL_same h s) (dpAll_same s a)
  | _, _, .tup h a => .tup (sqT_same h s) (dpAll_same s a)
theorem dpAll_same {K : PySem.W.Frag} {H H' : Hp} (s : L2.Same H H') : ∀ {vs : List V} {ds : List PyData}, DpAll K H vs ds → DpAll K H' vs ds
  | _, _, .nil => .nil
  | _, _, .cons a r => .cons (dp_same s a) (dpAll_same s r)
end
theorem Shw.same {K : PySem.W.Frag} {H H' : Hp} {v : V} {t : Str} (h : Shw K H v t) (s : L2.Same H H') : Shw K H' v t := by
  cases h with
  | non => exact .non
  | bl b => exact .bl b
  | int i h => exact .int i h
  | str x h => exact .str x h
  | dp a b c d e => exact .dp (dp_same s a) b c d e
@[irreducible] def rShow (K : PySem.W.Frag) : List V → Hp → VK → Prop := fun xs H Q => ∃ v t, xs = [v] ∧ Shw K H v t ∧ Q (.str t) H
theorem rShow_of {K : PySem.W.Frag} {v : V} {t : Str} {H : Hp} {Q : VK} (h : Shw K H v t) (q : Q (.str t) H) : rShow K [v] H Q := by
  unfold rShow
  exact ⟨v, t, rfl, h, q⟩
section
variable {X : Cx} {K : PySem.W.Frag}
theorem call_show (hK : X.K = K) (hu : X.A.units + 102 < cLine) (hg : X.A.guards = some []) : CallR X (.builtin "repr") (rShow K) := by
  subst hK
  intro pins s σ H xs us Q I r h
  unfold rShow at h
  obtain ⟨v, t, rfl, hs, q⟩ := h
  obtain ⟨u, rfl, ru⟩ := vals1 r
  cases hs with
  | non =>
    cases (show u = Value.none from ru)
    exact PySem.P.repr_of_none ⟨.str _, H, I.tok _, ⟨_, rfl⟩, q⟩
  | bl b =>
    cases (show u = Value.bool b from ru)
    exact PySem.P.repr_of_bool ⟨.str _, H, I.tok _, ⟨_, rfl⟩, q⟩
  | int i h =>
    obtain ⟨t, rfl⟩ := ru
    exact PySem.P.repr_of_int h ⟨.str _, H, I.tok _, ⟨_, rfl⟩, q⟩
  | str x h =>
    obtain ⟨t, rfl⟩ := ru
    exact PySem.P.repr_of_str ⟨.str _, H, I.tok _, ⟨_, rfl⟩, q⟩ (hsz := h)
  | dp hd h1 h2 h3 h4 =>
    rename_i a d
    cases (show u = Value.ref a from ru)
    obtain ⟨as, rd⟩ := Dp.reads I d _ _ hd rfl
    exact repr_of_reads' rd h1 (fun z => by rw [h2] at z; cases z) hg (by omega) (fun _ _ e => e) (fun h' u tk k => ⟨.str d.shown, H, I.kept k, ⟨u, rfl⟩, q⟩) h4
/-! ### errors raised -/
variable {CX : CXT} {x : Str} {C fI : Addr} {k : Nat} {sp : Sp} {dvs : List V} {e : Expr} {es : List Expr} {ta : TA} {p pos : Pos}
theorem passF : Passes (L2.CX X.prog X.w) X (fun _ _ _ => False) := fun _ _ _ _ _ _ _ h => by
  obtain ⟨_, _, _, _, _, _, _, _, _, _, _, _, z⟩ := h
  exact z.elim
theorem pmk_po (T : OexC X.K C) (iC : PySem.W.findIn X.K (.ref C) "__init__" = some (some (.ref fI))) (tI : PySem.W.typeIn X.K (.ref fI) = some (.type "function")) (F : PromOX X CX k fI dvs sp) (hr : Room (k + 1) X.A) (hx : Passes CX X (fun _ _ _ => False)) (hm : X.mg x = some (.ref C)) (ha : PA X (e :: es) ta) (hg : Gl X x := by rfl)
    (hdb : (x == ("__debug__" : Str)) = false := by decide) (he : starEach (e :: es) X.env = (false, eval e X.env) :: starEach es X.env := by rfl) (hpl : (backTo pos (starEach es X.env)).any (·.1) = false := by rfl) : PMk X (.Call (.Name x p) (e :: es) [] pos) (tMkO C sp dvs ta) := by
  obtain ⟨fd, ps, ds, G, b, hd⟩ := F
  exact pmk_oex T iC tI G hr b hd hx hg hm ha hdb he hpl
end
structure IniT (K : PySem.W.Frag) (C f : Addr) : Prop where
  iC : PySem.W.findIn K (.ref C) "__init__" = some (some (.ref f))
  tI : PySem.W.typeIn K (.ref f) = some (.type "function")
def iniB (x : Str) (K : PySem.W.Frag) : Bool := He.eqO (PySem.W.findIn K (.ref (gd x K)) "__init__") (some (some (.ref (md x "__init__" K)))) && decide (PySem.W.typeIn K (.ref (md x "__init__" K)) = some (.type "function"))
theorem iniB_ok {x : Str} {K : PySem.W.Frag} (h : iniB x K = true) : IniT K (gd x K) (md x "__init__" K) := by
  obtain ⟨h1, h2⟩ := He.ba h
  exact ⟨He.eqO_ok h1, of_decide_eq_true h2⟩
def coB (x : Str) (K : PySem.W.Frag) : Bool := He.eqO (PySem.W.findIn K (.ref (gd x K)) "__call__") (some (some (.ref (md x "__call__" K)))) && (PySem.W.isFn K (.ref (md x "__call__" K)) && PySem.W.fnIn K (md x "__call__" K))
theorem coB_ok {x : Str} {K : PySem.W.Frag} (h : coB x K = true) : StX.CallO K (gd x K) (md x "__call__" K) := by
  obtain ⟨h1, h⟩ := He.ba h
  obtain ⟨h2, h3⟩ := He.ba h
  exact ⟨He.eqO_ok h1, h2, h3⟩
/-- a promise, raw -/
theorem PromO.raw {P : Program} {w : World} {K : PySem.W.Frag} {mg : Str → Option Value} {base : Heap} {CX : CXT} {k : Nat} {f : Addr} {sp : Sp} (F : PromO P w K mg base CX k f [] sp) : FnR P w K mg base CX k f sp := by
  obtain ⟨fd, ps, ds, G, b, hd⟩ := F
  have z := G.raw b hd
  intro A outer s H us vs Q E hr e0 r hs
  exact z A outer s H us vs Q E hr e0 r (show sp (vs ++ []) H Q E by rw [List.append_nil]; exact hs)
end Gh

set_option Elab.async false
set_option linter.all false
set_option maxRecDepth 100000
set_option maxHeartbeats 4000000
/-! Lm: a def that makes lambdas; what stays when a table grows. -/
namespace Gh
open PySem PySem.Spec PyProof.Rows L2
/-- a def that lets no error out, its code object known -/
theorem fnG1 {P : Program} {w : World} {K : PySem.W.Frag} {mg : Str → Option Value} {base : Heap} {CX : CXT} {k : Nat} {f : Addr} {fd : FuncData} {ps : List Str} {sp : Sp} {dvs : List V} {x qual : Str} {params : Arguments} {body : List Stmt} {scope : Scope} {kws : List (Str × V)} {N : List Str}
    (F : FunD K x qual params body scope dvs kws f fd) (S : FnScope N ps scope) (len : ∀ vs H Q E, sp vs H Q E → vs.length = ps.length)
    (hbody : ∀ (cdv : Value) (A : Around) (outer : List Env) (s : Shared) (H : Hp) (vs : List V) (Q : VK) (E : XK), cdv = fd.code → Room k (A.deeper (envOfC qual scope s.heap.objs.size f cdv)) → (A.deeper (envOfC qual scope s.heap.objs.size f cdv)).guards = some [] → sp vs H Q E →
      ∃ t, PSs (cxOf CX P w K mg base N qual scope f cdv A outer s H E).nox body t ∧ t { nx := fun _ H' => Q .non H', rt := Q } (start N vs) H) : FnG P w K mg base CX (k + 1) f fd ps sp := by
  obtain ⟨oc, od, dV, kV, doc, pm, an, cdv, ct, osl, rfl, lk, hcd, _, _⟩ := F.ex
  refine ⟨len, fun A outer s H args us vs Q E hr hg e0 hb r hsp => ?_⟩
  refine LamX.run_ofS (N := N) (ps := ps) lk hcd S hr e0 hb r (len _ _ _ _ hsp) fun hr' => ?_
  obtain ⟨t, ht, q⟩ := hbody cdv A outer s H vs Q E rfl hr' hg hsp
  exact ⟨t, PSs.nox ht, q⟩
theorem codeOf_fn {K : PySem.W.Frag} {x qual : Str} {params : Arguments} {body : List Stmt} {scope : Scope} {dvs : List V} {kws : List (Str × V)} {fd : FuncData} {p : Str × Option Str} (F : FunD K x qual params body scope dvs kws (He.fAd K p) fd) : fd.code = .ref (He.codeOf K p) := by
  obtain ⟨oc, od, dV, kV, doc, pm, an, cdv, ct, osl, rfl, lk, hcd, _, _⟩ := F.ex
  obtain ⟨c, rfl⟩ := He.codeIn_ref hcd
  exact (congrArg Value.ref (He.codeOf_eq lk rfl)).symm
/-! ### what stays -/
section
variable {K : PySem.W.Frag} {H H' : Hp}
theorem extN_same (s : L2.Same H H') : LamX.ExtN H H' := LamX.ExtN.of s
theorem sqL_extN {a : Addr} {xs : List V} (h : SqL K H a xs) (s : LamX.ExtN H H') : SqL K H' a xs := by
  rcases h with (h | ⟨o, h⟩) | h
  · exact .inl (.inl (s _ _ h (fun _ z => by cases z)))
  · exact .inl (.inr ⟨o, s _ _ h (fun _ z => by cases z)⟩)
  · exact .inr h
theorem sqT_extN {a : Addr} {xs : List V} (h : SqT K H a xs) (s : LamX.ExtN H H') : SqT K H' a xs := by
  rcases h with (h | ⟨o, h⟩) | h
  · exact .inl (.inl (s _ _ h (fun _ z => by cases z)))
  · exact .inl (.inr ⟨o, s _ _ h (fun _ z => by cases z)⟩)
  · exact .inr h
mutual
theorem dp_extN (s : LamX.ExtN H H') : ∀ {v : V} {d : PyData}, Dp K H v d → Dp K H' v d
  | _, _, .non => .non
  | _, _, .bl b => .bl b
  | _, _, .int i => .int i
  | _, _, .str x => .str x
  | _, _, .lst h a => .lst (sqL_extN h s) (dpAll_extN s a)
  | _, _, .tup h a => .tup (sqT_extN h s) (dpAll_extN s a)
theorem dpAll_extN (s : LamX.ExtN H H') : ∀ {vs : List V} {ds : List PyData}, DpAll K H vs ds → DpAll K H' vs ds
  | _, _, .nil => .nil
  | _, _, .cons a r => .cons (dp_extN s a) (dpAll_extN s r)
end
theorem Shw.extN {v : V} {t : Str} (h : Shw K H v t) (s : LamX.ExtN H H') : Shw K H' v t := by
  cases h with
  | non => exact .non
  | bl b => exact .bl b
  | int i h => exact .int i h
  | str x h => exact .str x h
  | dp a b c d e => exact .dp (dp_extN s a) b c d e
theorem Kd.extN {v : V} (k : Kd H v) (s : LamX.ExtN H H') : Kd H' v := by
  cases k with
  | non => exact .non
  | bl b => exact .bl b
  | int i => exact .int i
  | str x => exact .str x
  | lst h => exact .lst (s _ _ h (fun _ z => by cases z))
  | tup h => exact .tup (s _ _ h (fun _ z => by cases z))
  | dK h => exact .dK (s _ _ h (fun _ z => by cases z))
theorem PenAt.extN {p : Addr} {b : Nat} (h : PenAt H p b) (s : LamX.ExtN H H') : PenAt H' p b := by
  obtain ⟨c, ns, i, z, h1, h2, r⟩ := h
  exact ⟨c, ns, i, z, s _ _ h1 (fun _ z => by cases z), s _ _ h2 (fun _ z => by cases z), r⟩
theorem tabs_keep {T : List (Addr × Str)} {p : Addr} {b : Nat} (t : LamX.Tabs T H) (pn : PenAt H p b) (k : Keep H H' p) : LamX.Tabs T H' := fun q hq => by
  obtain ⟨c, ns, i, z, hp, _⟩ := pn
  obtain ⟨ps, h1, h2, h3⟩ := t q hq
  refine ⟨ps, k _ _ h1 (ne_of h1 hp (by intro e; cases e)), h2, fun pos cv hc => ?_⟩
  obtain ⟨c', e1, e2⟩ := h3 pos cv hc
  exact ⟨c', e1, k _ _ e2 (ne_of e2 hp (by intro e; unfold LamX.CodeO at e; cases e))⟩
/-! ### shown lists -/
theorem log_lt {i : Int} (h1 : -(10 ^ 50) < i) (h2 : i < 10 ^ 50) : i.natAbs.log2 < 1920 := by
  have h : i.natAbs < 2 ^ 1920 := Nat.lt_of_lt_of_le (show i.natAbs < 10 ^ 50 by omega) (by decide)
  by_cases h0 : i.natAbs = 0
  · rw [h0]
    decide
  · exact (Nat.log2_lt h0).mpr h
theorem short_int {i : Int} (h1 : -(10 ^ 50) < i) (h2 : i < 10 ^ 50) : PyData.leavesShort 60 (.int i) = true := by
  have e := int_text_length_le10 (a := i) (k := 50) (by decide) (by omega)
  have z : ((PyData.int i).shown).length ≤ 60 := by
    show (Str.ofString (toString i)).length ≤ 60
    rw [PySem.ofString_length]
    omega
  show decide _ = true
  exact decide_eq_true z
theorem weight_int {i : Int} (h1 : -(10 ^ 50) < i) (h2 : i < 10 ^ 50) : PyData.weight (.int i) ≤ 2000 := by
  show (if i == 0 then 0 else i.natAbs.log2 + 1) ≤ 2000
  have := log_lt h1 h2
  split <;> omega
/-- a list of three numbers is shown -/
theorem shw3 {l : Addr} {a b c : Int} (hl : SqL K H l [.int a, .int b, .int c]) (a1 : -(10 ^ 50) < a) (a2 : a < 10 ^ 50) (b1 : -(10 ^ 50) < b) (b2 : b < 10 ^ 50) (c1 : -(10 ^ 50) < c) (c2 : c < 10 ^ 50) : Shw K H (.ref l) (PyData.list [.int a, .int b, .int c]).shown := by
  refine .dp (.lst hl (.cons (.int _) (.cons (.int _) (.cons (.int _) .nil)))) ?_ rfl ?_ ?_
  · show (decide _ && (decide _ && (decide _ && true))) = true
    rw [decide_eq_true (log_lt a1 a2), decide_eq_true (log_lt b1 b2), decide_eq_true (log_lt c1 c2)] <;> rfl
  · exact Nat.le_of_ble_eq_true rfl
  · have h := PyData.shown_le 60 (by decide) (.list [.int a, .int b, .int c]) (by
      show (_ && (_ && (_ && true))) = true
      rw [short_int a1 a2, short_int b1 b2, short_int c1 c2] <;> rfl)
    have e : PyData.weight (.list [.int a, .int b, .int c]) = PyData.weight (.int a) + 1 + (PyData.weight (.int b) + 1 + (PyData.weight (.int c) + 1 + 0)) := rfl
    have := weight_int a1 a2
    have := weight_int b1 b2
    have := weight_int c1 c2
    rw [sizeLine_eq]
    omega
end
/-! ### instances called, the reading free of the context -/
def tCallI (C : Addr) (sp : Sp) (E : XK) (tf : TE) (t : TA) : TE := fun σ H Q => tf σ H fun y H1 => ∃ a, y = V.ref a ∧ t σ H1 fun vs H2 => (∃ dx fs, H2 a = some (.ins C dx fs)) ∧ sp (V.ref a :: vs) H2 Q E
theorem pe_callI {X : Cx} {CX : CXT} {k : Nat} {C g : Addr} {sp : Sp} {E : XK} {fe e : Expr} {es : List Expr} {tf : TE} {t : TA} {pos : Pos} (hf : PE X fe tf) (c : StX.CallO X.K C g) (F : PromOX X CX k g [] sp) (hr : Room k X.A) (hx : Passes CX X E) (ha : PA X (e :: es) t)
    (ht : eval (.Call fe (e :: es) [] pos) X.env = (do callWith pos (← eval fe X.env) [] (backTo pos (starEach (e :: es) X.env)) (backToKw pos (keywordEach [] X.env))) := by rfl)
    (he : starEach (e :: es) X.env = (false, eval e X.env) :: starEach es X.env := by rfl) (hpl : (backTo pos (starEach es X.env)).any (·.1) = false := by rfl) : PE X (.Call fe (e :: es) [] pos) (tCallI C sp E tf t) := by
  refine ⟨fun pins s σ H Q I h => ?_⟩
  refine Call_ (thn (hf.run pins s σ H _ I h) fun u s1 ⟨y, H1, I1, ry, a, ey, q⟩ => ?_) ht
  subst ey
  obtain rfl : u = Value.ref a := ry
  refine StX.callO_with (thn (ha.run pos pins s1 σ H1 _ I1 q) fun us s2 ⟨vs, H2, I2, rv, hi, q2⟩ => ?_) he hpl
  obtain ⟨ox, od, J, hd⟩ := StX.insC_at I2 (.inr hi)
  exact ⟨⟨C, ox, od, J, hd⟩, StX.run_callO c (PromO.raw F) hr hx I2 (.inr hi) rv q2⟩
end Gh

set_option Elab.async false
set_option linter.all false
set_option maxRecDepth 100000
set_option maxHeartbeats 0
namespace Lw
open PySem PySem.Spec PyProof.Rows L2 Gh
def top (i : Nat) : Stmt := PySem.Challenge.pw_everyhunt_k03_spans_at_lengths.main.body.getD i (.Pass ⟨0, 0, 0, 0⟩)
abbrev s_is_integer : Stmt := top 8
def d_is_integer : Df := ⟨gd "is_integer", "is_integer", "is_integer", s_is_integer, []⟩
abbrev s_is_within : Stmt := top 9
def d_is_within : Df := ⟨gd "is_within", "is_within", "is_within", s_is_within, []⟩
abbrev s_is_length : Stmt := top 10
def d_is_length : Df := ⟨gd "is_length", "is_length", "is_length", s_is_length, []⟩
abbrev s_is_rest : Stmt := top 11
def d_is_rest : Df := ⟨gd "is_rest", "is_rest", "is_rest", s_is_rest, []⟩
abbrev s_need_length : Stmt := top 12
def d_need_length : Df := ⟨gd "need_length", "need_length", "need_length", s_need_length, []⟩
abbrev s_need_rest : Stmt := top 13
def d_need_rest : Df := ⟨gd "need_rest", "need_rest", "need_rest", s_need_rest, []⟩
abbrev s_BadLength___init__ : Stmt := inClass (top 2) 0
def d_BadLength___init__ : Df := ⟨md "BadLength" "__init__", "__init__", "BadLength.__init__", s_BadLength___init__, []⟩
abbrev s_BadRest___init__ : Stmt := inClass (top 3) 0
def d_BadRest___init__ : Df := ⟨md "BadRest" "__init__", "__init__", "BadRest.__init__", s_BadRest___init__, []⟩
abbrev s_Span___init__ : Stmt := inClass (top 20) 1
def d_Span___init__ : Df := ⟨md "Span" "__init__", "__init__", "Span.__init__", s_Span___init__, [.int 0, .int 0]⟩
abbrev s_Span_whole : Stmt := inClass (top 20) 2
def d_Span_whole : Df := ⟨staG "Span" "whole", "whole", "Span.whole", s_Span_whole, [.int 1, .int 0]⟩
abbrev s_Span_halves : Stmt := inClass (top 20) 4
def d_Span_halves : Df := ⟨propG "Span" "halves", "halves", "Span.halves", s_Span_halves, []⟩
abbrev s_Span_more : Stmt := inClass (top 20) 5
def d_Span_more : Df := ⟨propG "Span" "more", "more", "Span.more", s_Span_more, []⟩
abbrev s_Span_odd : Stmt := inClass (top 20) 6
def d_Span_odd : Df := ⟨propG "Span" "odd", "odd", "Span.odd", s_Span_odd, []⟩
abbrev s_Span___call__ : Stmt := inClass (top 20) 7
def d_Span___call__ : Df := ⟨md "Span" "__call__", "__call__", "Span.__call__", s_Span___call__, []⟩
abbrev s_Span_number_at : Stmt := inClass (top 20) 8
def d_Span_number_at : Df := ⟨md "Span" "number_at", "number_at", "Span.number_at", s_Span_number_at, []⟩
abbrev s_Span_is_odd : Stmt := inClass (top 20) 9
def d_Span_is_odd : Df := ⟨md "Span" "is_odd", "is_odd", "Span.is_odd", s_Span_is_odd, []⟩
abbrev s_Span_plus : Stmt := inClass (top 20) 10
def d_Span_plus : Df := ⟨md "Span" "plus", "plus", "Span.plus", s_Span_plus, []⟩
abbrev s_Span___add__ : Stmt := inClass (top 20) 11
def d_Span___add__ : Df := ⟨md "Span" "__add__", "__add__", "Span.__add__", s_Span___add__, []⟩
abbrev s_Span___sub__ : Stmt := inClass (top 20) 13
def d_Span___sub__ : Df := ⟨md "Span" "__sub__", "__sub__", "Span.__sub__", s_Span___sub__, []⟩
abbrev s_Span___rmul__ : Stmt := inClass (top 20) 15
def d_Span___rmul__ : Df := ⟨md "Span" "__rmul__", "__rmul__", "Span.__rmul__", s_Span___rmul__, []⟩
abbrev s__law_pen : Stmt := top 24
def d__law_pen : Df := ⟨gd "_law_pen", "_law_pen", "_law_pen", s__law_pen, []⟩
abbrev s__law_draw : Stmt := top 25
def d__law_draw : Df := ⟨gd "_law_draw", "_law_draw", "_law_draw", s__law_draw, []⟩
abbrev s__law_heard : Stmt := top 27
def d__law_heard : Df := ⟨gd "_law_heard", "_law_heard", "_law_heard", s__law_heard, []⟩
abbrev s__law_span : Stmt := top 28
def d__law_span : Df := ⟨gd "_law_span", "_law_span", "_law_span", s__law_span, []⟩
abbrev s__law_number : Stmt := top 29
def d__law_number : Df := ⟨gd "_law_number", "_law_number", "_law_number", s__law_number, []⟩
abbrev s__law_lengths : Stmt := top 30
def d__law_lengths : Df := ⟨gd "_law_lengths", "_law_lengths", "_law_lengths", s__law_lengths, []⟩
abbrev s_law : Stmt := top 31
def d_law : Df := ⟨gd "law", "law", "law", s_law, []⟩
def fns : List Df := [d_is_integer, d_is_within, d_is_length, d_is_rest, d_need_length, d_need_rest, d_BadLength___init__, d_BadRest___init__, d_Span___init__, d_Span_whole, d_Span_halves, d_Span_more, d_Span_odd, d_Span___call__, d_Span_number_at, d_Span_is_odd, d_Span_plus, d_Span___add__, d_Span___sub__, d_Span___rmul__, d__law_pen, d__law_draw, d__law_heard, d__law_span, d__law_number, d__law_lengths, d_law]
-- GLAW 78
def exs : List (PySem.W.Frag → Bool) := [fa (.free "isinstance"), fa (.free "int"), fa (.free "bool"), fa (.free "len"), fa (.free "list"), fa (.free "abs"), fa (.free "range"), fa (.free "repr"), fa (.glo "is_integer"), fa (.keep "is_integer"), fa (.glo "is_within"), fa (.keep "is_within"), fa (.glo "is_length"), fa (.keep "is_length"), fa (.glo "is_rest"), fa (.keep "is_rest"), fa (.glo "need_length"), fa (.keep "need_length"), fa (.glo "need_rest"), fa (.keep "need_rest"), fa (.glo "_law_pen"), fa (.keep "_law_pen"), fa (.glo "_law_draw"), fa (.keep "_law_draw"), fa (.glo "_law_heard"), fa (.keep "_law_heard"), fa (.glo "_law_span"), fa (.keep "_law_span"), fa (.glo "_law_number"), fa (.keep "_law_number"),
  fa (.glo "_law_lengths"), fa (.keep "_law_lengths"), fa (.glo "Span"), fa (.keep "Span"), fa (.glo "HuntError"), fa (.keep "HuntError"), fa (.glo "BadLength"), fa (.keep "BadLength"), fa (.glo "BadRest"), fa (.keep "BadRest"), fa (.int "MOST_HALVES" 8), fa (.int "MOST_MORE" 60), fa (.int "MOST_ODD" 9), fa (.int "MOST_WHOLE" 4), fa (.int "CLASSES" 4), fa (.int "GREATEST_LENGTH" 10000000000000000000000000000000000000000), fa (.cls "Span"), fa (.mkr "Span"), fa (.noat "Span" "own_parts"), fa (.meth "Span" "plus"), fa (.meth "Span" "number_at"), fa (.meth "Span" "is_odd"), fa (.meth "Span" "__add__"), fa (.meth "Span" "__sub__"), fa (.meth "Span" "__mul__"), fa (.meth "Span" "__rmul__"), propB "Span" "halves", propB "Span" "more", propB "Span" "odd", insB "Span",
  ownB "Span", opB "Span" .Add, coB "Span", staB "Span" "whole", (fun K => decide (PySem.W.subIn K (.ref (gd "Span" K)) (.type "int") = some false)), fa (.noat "BadLength" "value"), errB "BadLength", oexB "BadLength", iniB "BadLength", (fun K => decide (PySem.W.exmOne K (.ref (gd "BadLength" K)) (.ref (gd "HuntError" K)) = some true)), fa (.noat "BadRest" "value"), errB "BadRest", oexB "BadRest", iniB "BadRest", (fun K => decide (PySem.W.exmOne K (.ref (gd "BadRest" K)) (.ref (gd "HuntError" K)) = some true)), (fun K => decide (PySem.W.kitOne K (.ref (gd "BadLength" K)) (.ref (gd "BadLength" K)) = some true)), (fun K => decide (PySem.W.kitOne K (.ref (gd "BadRest" K)) (.ref (gd "BadLength" K)) = some false)), (fun K => decide (PySem.W.kitOne K (.ref (gd "BadRest" K)) (.ref (gd "BadRest" K)) = some true)), fa (.glo "law")]
def loose0 : List Str := ["__name__", "HuntError", "BadLength", "BadRest", "BadSpan", "BadText", "GREATEST_LENGTH", "is_integer", "is_within", "is_length", "is_rest", "need_length", "need_rest", "MOST_HALVES", "MOST_MORE", "MOST_ODD", "MOST_WHOLE", "CLASSES", "Span", "number_in", "are_parts", "_law_pen", "_law_draw", "_law_pick", "_law_heard", "_law_span", "_law_number", "_law_lengths"]
def loose : List Str := loose0
abbrev R : PySem.W.OpenRow := PySem.W.OpenLaw.row PySem.Challenge.rw_everyhunt_k03_spans_at_lengths
def tfs : List He.Defn := [("law", none)]
abbrev hk : PySem.W.Hook := hookT 6 exs fns tfs
def ob (s : PySem.W.SharedT) : AlT := obsT 6 exs fns tfs (HandSHeadRun.getT s)
theorem ob_eq (s : PySem.W.SharedT) : ob s = hk.obs s.abs := obsT_eq (HandSHeadRun.getT_eq s)
theorem run (w : World) : HandSHeadRun.RunEq R (PySem.W.view R.prog [31]) hk ob 8000 loose w := by
  intro os
  kernel_rfl
/-- what the top has left -/
structure Tx (K : PySem.W.Frag) (mg : Str → Option Value) : Prop where
  f_isinstance : mg "isinstance" = none
  f_int : mg "int" = none
  f_bool : mg "bool" = none
  f_len : mg "len" = none
  f_list : mg "list" = none
  f_abs : mg "abs" = none
  f_range : mg "range" = none
  f_repr : mg "repr" = none
  g_is_integer : mg "is_integer" = some (.ref (gd "is_integer" K))
  k_is_integer : PySem.W.keepIn K (.ref (gd "is_integer" K)) = true
  g_is_within : mg "is_within" = some (.ref (gd "is_within" K))
  k_is_within : PySem.W.keepIn K (.ref (gd "is_within" K)) = true
  g_is_length : mg "is_length" = some (.ref (gd "is_length" K))
  k_is_length : PySem.W.keepIn K (.ref (gd "is_length" K)) = true
  g_is_rest : mg "is_rest" = some (.ref (gd "is_rest" K))
  k_is_rest : PySem.W.keepIn K (.ref (gd "is_rest" K)) = true
  g_need_length : mg "need_length" = some (.ref (gd "need_length" K))
  k_need_length : PySem.W.keepIn K (.ref (gd "need_length" K)) = true
  g_need_rest : mg "need_rest" = some (.ref (gd "need_rest" K))
  k_need_rest : PySem.W.keepIn K (.ref (gd "need_rest" K)) = true
  g__law_pen : mg "_law_pen" = some (.ref (gd "_law_pen" K))
  k__law_pen : PySem.W.keepIn K (.ref (gd "_law_pen" K)) = true
  g__law_draw : mg "_law_draw" = some (.ref (gd "_law_draw" K))
  k__law_draw : PySem.W.keepIn K (.ref (gd "_law_draw" K)) = true
  g__law_heard : mg "_law_heard" = some (.ref (gd "_law_heard" K))
  k__law_heard : PySem.W.keepIn K (.ref (gd "_law_heard" K)) = true
  g__law_span : mg "_law_span" = some (.ref (gd "_law_span" K))
  k__law_span : PySem.W.keepIn K (.ref (gd "_law_span" K)) = true
  g__law_number : mg "_law_number" = some (.ref (gd "_law_number" K))
  k__law_number : PySem.W.keepIn K (.ref (gd "_law_number" K)) = true
  g__law_lengths : mg "_law_lengths" = some (.ref (gd "_law_lengths" K))
  k__law_lengths : PySem.W.keepIn K (.ref (gd "_law_lengths" K)) = true
  g_Span : mg "Span" = some (.ref (gd "Span" K))
  k_Span : PySem.W.keepIn K (.ref (gd "Span" K)) = true
  g_HuntError : mg "HuntError" = some (.ref (gd "HuntError" K))
  k_HuntError : PySem.W.keepIn K (.ref (gd "HuntError" K)) = true
  g_BadLength : mg "BadLength" = some (.ref (gd "BadLength" K))
  k_BadLength : PySem.W.keepIn K (.ref (gd "BadLength" K)) = true
  g_BadRest : mg "BadRest" = some (.ref (gd "BadRest" K))
  k_BadRest : PySem.W.keepIn K (.ref (gd "BadRest" K)) = true
  m_MOST_HALVES : ∃ t, mg "MOST_HALVES" = some (.int 8 t)
  m_MOST_MORE : ∃ t, mg "MOST_MORE" = some (.int 60 t)
  m_MOST_ODD : ∃ t, mg "MOST_ODD" = some (.int 9 t)
  m_MOST_WHOLE : ∃ t, mg "MOST_WHOLE" = some (.int 4 t)
  m_CLASSES : ∃ t, mg "CLASSES" = some (.int 4 t)
  m_GREATEST_LENGTH : ∃ t, mg "GREATEST_LENGTH" = some (.int 10000000000000000000000000000000000000000 t)
  cl_Span : Cls K (gd "Span" K)
  mk_Span : Mk K (gd "Span" K) (md "Span" "__init__" K)
  n_Span_own_parts : NoAttr K (gd "Span" K) "own_parts"
  mt_Span_plus : Meth K (gd "Span" K) "plus" (md "Span" "plus" K)
  mt_Span_number_at : Meth K (gd "Span" K) "number_at" (md "Span" "number_at" K)
  mt_Span_is_odd : Meth K (gd "Span" K) "is_odd" (md "Span" "is_odd" K)
  mt_Span___add__ : Meth K (gd "Span" K) "__add__" (md "Span" "__add__" K)
  mt_Span___sub__ : Meth K (gd "Span" K) "__sub__" (md "Span" "__sub__" K)
  mt_Span___mul__ : Meth K (gd "Span" K) "__mul__" (md "Span" "__mul__" K)
  mt_Span___rmul__ : Meth K (gd "Span" K) "__rmul__" (md "Span" "__rmul__" K)
  pr_Span_halves : PropOf K (gd "Span" K) "halves" (He.ma K (He.ga K "Span") "halves") (propG "Span" "halves" K)
  pr_Span_more : PropOf K (gd "Span" K) "more" (He.ma K (He.ga K "Span") "more") (propG "Span" "more" K)
  pr_Span_odd : PropOf K (gd "Span" K) "odd" (He.ma K (He.ga K "Span") "odd") (propG "Span" "odd" K)
  ty_Span : InsT K (gd "Span" K)
  ow_Span : OwnT K (gd "Span" K)
  op_Span_Add : OpT K (gd "Span" K) .Add
  co_Span : StX.CallO K (gd "Span" K) (md "Span" "__call__" K)
  st_Span_whole : StaT K (gd "Span" K) "whole" (He.ma K (He.ga K "Span") "whole") (staG "Span" "whole" K)
  si_Span : PySem.W.subIn K (.ref (gd "Span" K)) (.type "int") = some false
  n_BadLength_value : NoAttr K (gd "BadLength" K) "value"
  er_BadLength : ErrT K (gd "BadLength" K)
  ox_BadLength : OexC K (gd "BadLength" K)
  in_BadLength : IniT K (gd "BadLength" K) (md "BadLength" "__init__" K)
  xh_BadLength : PySem.W.exmOne K (.ref (gd "BadLength" K)) (.ref (gd "HuntError" K)) = some true
  n_BadRest_value : NoAttr K (gd "BadRest" K) "value"
  er_BadRest : ErrT K (gd "BadRest" K)
  ox_BadRest : OexC K (gd "BadRest" K)
  in_BadRest : IniT K (gd "BadRest" K) (md "BadRest" "__init__" K)
  xh_BadRest : PySem.W.exmOne K (.ref (gd "BadRest" K)) (.ref (gd "HuntError" K)) = some true
  ki_BadLength_BadLength : PySem.W.kitOne K (.ref (gd "BadLength" K)) (.ref (gd "BadLength" K)) = some true
  ki_BadRest_BadLength : PySem.W.kitOne K (.ref (gd "BadRest" K)) (.ref (gd "BadLength" K)) = some false
  ki_BadRest_BadRest : PySem.W.kitOne K (.ref (gd "BadRest" K)) (.ref (gd "BadRest" K)) = some true
theorem tx_of {K : PySem.W.Frag} {h : Heap} {mg : Str → Option Value} (X : K.In h) (G : h.Ns mainGlobals mg) (c : Says exs fns K) : Tx K mg :=
  ⟨(He.free_ok X G (c.fact 0 rfl)), (He.free_ok X G (c.fact 1 rfl)), (He.free_ok X G (c.fact 2 rfl)), (He.free_ok X G (c.fact 3 rfl)), (He.free_ok X G (c.fact 4 rfl)), (He.free_ok X G (c.fact 5 rfl)), (He.free_ok X G (c.fact 6 rfl)), (He.free_ok X G (c.fact 7 rfl)), (He.glo_ok X G (c.fact 8 rfl)), ((c.fact 9 rfl)), (He.glo_ok X G (c.fact 10 rfl)), ((c.fact 11 rfl)), (He.glo_ok X G (c.fact 12 rfl)), ((c.fact 13 rfl)), (He.glo_ok X G (c.fact 14 rfl)), ((c.fact 15 rfl)), (He.glo_ok X G (c.fact 16 rfl)), ((c.fact 17 rfl)), (He.glo_ok X G (c.fact 18 rfl)), ((c.fact 19 rfl)), (He.glo_ok X G (c.fact 20 rfl)), ((c.fact 21 rfl)), (He.glo_ok X G (c.fact 22 rfl)), ((c.fact 23 rfl)), (He.glo_ok X G (c.fact 24 rfl)), ((c.fact 25 rfl)), (He.glo_ok X G (c.fact 26 rfl)), ((c.fact 27 rfl)), (He.glo_ok X G (c.fact 28 rfl)), ((c.fact 29 rfl)), (He.glo_ok X G (c.fact 30 rfl)), ((c.fact 31 rfl)), (He.glo_ok X G (c.fact 32 rfl)), ((c.fact 33 rfl)), (He.glo_ok X G (c.fact 34 rfl)), ((c.fact 35 rfl)), (He.glo_ok X G (c.fact 36 rfl)), ((c.fact 37 rfl)), (He.glo_ok X G (c.fact 38 rfl)), ((c.fact 39 rfl)), (He.int_ok X G (c.fact 40 rfl)), (He.int_ok X G (c.fact 41 rfl)), (He.int_ok X G (c.fact 42 rfl)), (He.int_ok X G (c.fact 43 rfl)), (He.int_ok X G (c.fact 44 rfl)), (He.int_ok X G (c.fact 45 rfl)), (He.cls_ok (c.fact 46 rfl)), (He.mkr_ok (c.fact 47 rfl)), (He.eqO_ok (c.fact 48 rfl)), (He.meth_ok (c.fact 49 rfl)), (He.meth_ok (c.fact 50 rfl)), (He.meth_ok (c.fact 51 rfl)), (He.meth_ok (c.fact 52 rfl)), (He.meth_ok (c.fact 53 rfl)), (He.meth_ok (c.fact 54 rfl)), (He.meth_ok (c.fact 55 rfl)), (propB_ok (c.fact 56 rfl)), (propB_ok (c.fact 57 rfl)), (propB_ok (c.fact 58 rfl)), (insB_ok (c.fact 59 rfl)), (ownB_ok (c.fact 60 rfl)), (opB_ok (c.fact 61 rfl)), (coB_ok (c.fact 62 rfl)), (staB_ok (c.fact 63 rfl)), (of_decide_eq_true (c.fact 64 rfl)), (He.eqO_ok (c.fact 65 rfl)), (errB_ok (c.fact 66 rfl)), (oexB_ok (c.fact 67 rfl)), (iniB_ok (c.fact 68 rfl)), (of_decide_eq_true (c.fact 69 rfl)), (He.eqO_ok (c.fact 70 rfl)), (errB_ok (c.fact 71 rfl)), (oexB_ok (c.fact 72 rfl)), (iniB_ok (c.fact 73 rfl)), (of_decide_eq_true (c.fact 74 rfl)), (of_decide_eq_true (c.fact 75 rfl)), (of_decide_eq_true (c.fact 76 rfl)), (of_decide_eq_true (c.fact 77 rfl))⟩
end Lw

set_option Elab.async false
set_option linter.all false
set_option maxRecDepth 100000
set_option maxHeartbeats 4000000
namespace Lw
open PySem PySem.Spec PyProof.Rows L2 Gh
section
variable {P : Program} {w : World} {K : PySem.W.Frag} {mg : Str → Option Value} {base : Heap} {f : Addr} {fd : FuncData}
abbrev Pm (P : Program) (w : World) (K : PySem.W.Frag) (mg : Str → Option Value) (base : Heap) (k : Nat) (f : Addr) (dvs : List V) (sp : Sp) : Prop := PromO P w K mg base CX0 k f dvs sp
def spInteger : Sp := fun vs H Q _ => ∃ v : V, vs = [v] ∧ Kd H v ∧ Q (.bl (isI v)) H
abbrev N_is_integer : List Str := ["value"]
theorem sc_is_integer : FnScope N_is_integer ["value"] (defScope s_is_integer) := ⟨rfl, rfl, rfl, by decide +kernel, rfl, by decide +kernel, by decide +kernel⟩
theorem ok_integer (F : FnA K d_is_integer fd) (T : Tx K mg) : FnOk P w K mg base CX0 1 (d_is_integer.adr K) fd ["value"] spInteger := by
  refine fnO0 F sc_is_integer (fun vs H Q E h => ?_) (fun cdv A outer s H vs Q E hr h => ?_)
  · obtain ⟨v, rfl, _⟩ := h
    rfl
  · obtain ⟨v, rfl, kd, q⟩ := h
    obtain ⟨t, b, ty, e1, e2, e3⟩ := kd.isInt (K := K)
    refine ⟨_, (pss_one (ps_ret (pe_and (pe_callB (call_isiK1 (K := K) rfl) (by rfl) T.f_isinstance (by decide +kernel) (pa_cons (pv 0) (pa_cons (pe_bltn (v := .ty "int") (by rfl) T.f_int (by decide +kernel) rfl) pa_nil))) (pe_one (pe_not (pe_callB (call_isiK1 (K := K) rfl) (by rfl) T.f_isinstance (by decide +kernel) (pa_cons (pv 0) (pa_cons (pe_bltn (v := .ty "bool") (by rfl) T.f_bool (by decide +kernel) rfl) pa_nil)))))))), ?_⟩
    refine ⟨_, rfl, _, _, _, _, _, rfl, .ty _, ty, e1, b, rfl, ite2 (fun hb => ?_) (fun hb => ?_)⟩
    · subst hb
      refine ⟨_, rfl, _, _, _, _, _, rfl, .ty _, ty, e2, _, rfl, ?_⟩
      rw [Bool.true_and, Bool.not_not]
      exact q
    · have hb' : b = false := by simpa using hb
      rw [e3 hb'] at q
      exact q
/-- is_within of any value and two ints -/
def spWithin : Sp := fun vs H Q _ => ∃ (v : V) (a b : Int), vs = [v, .int a, .int b] ∧ Kd H v ∧ Q (.bl (withinV v a b)) H
abbrev N_is_within : List Str := ["value", "least", "most"]
theorem sc_is_within : FnScope N_is_within ["value", "least", "most"] (defScope s_is_within) := ⟨rfl, rfl, rfl, by decide +kernel, rfl, by decide +kernel, by decide +kernel⟩
theorem ok_within (F : FnA K d_is_within fd) (T : Tx K mg) (GI : Pm P w K mg base 1 (gd "is_integer" K) [] spInteger) :
    FnOk P w K mg base CX0 2 (d_is_within.adr K) fd ["value", "least", "most"] spWithin := by
  refine fnO0 F sc_is_within (fun vs H Q E h => ?_) (fun cdv A outer s H vs Q E hr h => ?_)
  · obtain ⟨v, a, b, rfl, _⟩ := h
    rfl
  · obtain ⟨v, a, b, rfl, kd, q⟩ := h
    refine ⟨_, (pss_one (ps_ret (pe_and (pe_g (PromO.call GI (hr.mono (by decide)) pass0) (by rfl) T.g_is_integer T.k_is_integer (pa_cons (pv 0) pa_nil)) (pe_one (pe_chain op_le op_le (pv 1) (pv 0) (pv 2)))))), ?_⟩
    refine ⟨_, rfl, v, rfl, kd, _, rfl, ite2 (fun hb => ?_) (fun hb => ?_)⟩
    · obtain ⟨i, rfl⟩ : ∃ i, v = .int i := by
        cases v with
        | int i => exact ⟨i, rfl⟩
        | _ => cases hb
      refine ⟨_, rfl, _, rfl, _, _, rfl, rfl, _, rfl, ?_⟩
      have q' : Q (.bl (decide (a ≤ i) && decide (i ≤ b))) H := q
      refine ite2 (fun h1 => ?_) (fun h1 => ?_)
      · refine ⟨_, rfl, _, _, rfl, rfl, ?_⟩
        rw [h1, Bool.true_and] at q'
        exact q'
      · have h2 : decide (a ≤ i) = false := by simpa using h1
        rw [h2, Bool.false_and] at q'
        exact q'
    · have e : withinV v a b = false := by
        cases v with
        | int i => exact absurd rfl hb
        | _ => rfl
      rw [e] at q
      exact q
theorem within_yes {i a b : Int} (h : a ≤ i ∧ i ≤ b) : withinV (.int i) a b = true := by
  show (decide (a ≤ i) && decide (i ≤ b)) = true
  rw [decide_eq_true h.1, decide_eq_true h.2] <;> rfl
theorem within_int {v : V} {a b : Int} (h : withinV v a b = true) : ∃ i, v = .int i ∧ a ≤ i ∧ i ≤ b := by
  cases v with
  | int i =>
    have h' : (decide (a ≤ i) && decide (i ≤ b)) = true := h
    rw [Bool.and_eq_true, decide_eq_true_eq, decide_eq_true_eq] at h'
    exact ⟨i, rfl, h'.1, h'.2⟩
  | _ => cases h
/-! ### lengths, rests -/
def spIn (a b : Int) : Sp := fun vs H Q _ => ∃ v : V, vs = [v] ∧ Kd H v ∧ Q (.bl (withinV v a b)) H
abbrev N_is_length : List Str := ["value"]
theorem sc_is_length : FnScope N_is_length ["value"] (defScope s_is_length) := ⟨rfl, rfl, rfl, by decide +kernel, rfl, by decide +kernel, by decide +kernel⟩
theorem ok_length (F : FnA K d_is_length fd) (T : Tx K mg) (GW : Pm P w K mg base 2 (gd "is_within" K) [] spWithin) : FnOk P w K mg base CX0 3 (d_is_length.adr K) fd ["value"] (spIn 1 (10 ^ 40)) := by
  refine fnO0 F sc_is_length (fun vs H Q E h => ?_) (fun cdv A outer s H vs Q E hr h => ?_)
  · obtain ⟨v, rfl, _⟩ := h
    rfl
  · obtain ⟨v, rfl, kd, q⟩ := h
    refine ⟨_, (pss_one (ps_ret (pe_g (PromO.call GW (hr.mono (by decide)) pass0) (by rfl) T.g_is_within T.k_is_within (pa_cons (pv 0) (pa_cons pe_int (pa_cons (pe_gi T.m_GREATEST_LENGTH (by rfl)) pa_nil)))))), ?_⟩
    exact ⟨_, rfl, v, 1, _, rfl, kd, q⟩
abbrev N_is_rest : List Str := ["value"]
theorem sc_is_rest : FnScope N_is_rest ["value"] (defScope s_is_rest) := ⟨rfl, rfl, rfl, by decide +kernel, rfl, by decide +kernel, by decide +kernel⟩
theorem ok_rest (F : FnA K d_is_rest fd) (T : Tx K mg) (GW : Pm P w K mg base 2 (gd "is_within" K) [] spWithin) : FnOk P w K mg base CX0 3 (d_is_rest.adr K) fd ["value"] (spIn 0 3) := by
  refine fnO0 F sc_is_rest (fun vs H Q E h => ?_) (fun cdv A outer s H vs Q E hr h => ?_)
  · obtain ⟨v, rfl, _⟩ := h
    rfl
  · obtain ⟨v, rfl, kd, q⟩ := h
    refine ⟨_, (pss_one (ps_ret (pe_g (PromO.call GW (hr.mono (by decide)) pass0) (by rfl) T.g_is_within T.k_is_within (pa_cons (pv 0) (pa_cons pe_int (pa_cons pe_int pa_nil)))))), ?_⟩
    exact ⟨_, rfl, v, 0, 3, rfl, kd, q⟩
abbrev N_BadLength___init__ : List Str := ["self", "value"]
theorem sc_BadLength___init__ : FnScope N_BadLength___init__ ["self", "value"] (defScope s_BadLength___init__) := ⟨rfl, rfl, rfl, by decide +kernel, rfl, by decide +kernel, by decide +kernel⟩
theorem ok_badlength (F : FnA K d_BadLength___init__ fd) (T : Tx K mg) : FnOk P w K mg base CX0 1 (d_BadLength___init__.adr K) fd ["self", "value"] (spErr1 (gd "BadLength" K) "value") := by
  refine fnO0 F sc_BadLength___init__ (fun vs H Q E h => ?_) (fun cdv A outer s H vs Q E hr h => ?_)
  · obtain ⟨a, v, rfl, _⟩ := h
    rfl
  · obtain ⟨a, v, rfl, ha, q⟩ := h
    refine ⟨_, pss_one (ps_ost (pv 0) (pv 1)), ?_⟩
    exact ⟨_, rfl, _, rfl, a, _, rfl, T.ox_BadLength, T.n_BadLength_value, .inl ⟨ha, q⟩⟩
abbrev N_BadRest___init__ : List Str := ["self", "value"]
theorem sc_BadRest___init__ : FnScope N_BadRest___init__ ["self", "value"] (defScope s_BadRest___init__) := ⟨rfl, rfl, rfl, by decide +kernel, rfl, by decide +kernel, by decide +kernel⟩
theorem ok_badrest (F : FnA K d_BadRest___init__ fd) (T : Tx K mg) : FnOk P w K mg base CX0 1 (d_BadRest___init__.adr K) fd ["self", "value"] (spErr1 (gd "BadRest" K) "value") := by
  refine fnO0 F sc_BadRest___init__ (fun vs H Q E h => ?_) (fun cdv A outer s H vs Q E hr h => ?_)
  · obtain ⟨a, v, rfl, _⟩ := h
    rfl
  · obtain ⟨a, v, rfl, ha, q⟩ := h
    refine ⟨_, pss_one (ps_ost (pv 0) (pv 1)), ?_⟩
    exact ⟨_, rfl, _, rfl, a, _, rfl, T.ox_BadRest, T.n_BadRest_value, .inl ⟨ha, q⟩⟩
/-- need_length, need_rest -/
abbrev Px (P : Program) (w : World) (K : PySem.W.Frag) (mg : Str → Option Value) (base : Heap) (k : Nat) (f : Addr) (dvs : List V) (sp : Sp) : Prop := PromO P w K mg base (L2.CX P w) k f dvs sp
def spNeed (C : Addr) (a b : Int) : Sp := fun vs H Q E => ∃ v : V, vs = [v] ∧ Kd H v ∧ (withinV v a b = true → Q .non H) ∧ (withinV v a b = false → ∀ d H', L2.Same H H' → H d = none → H' d = some (.xd [("value", v)]) → E (.ref C) (some d) H')
abbrev N_need_length : List Str := ["value"]
theorem sc_need_length : FnScope N_need_length ["value"] (defScope s_need_length) := ⟨rfl, rfl, rfl, by decide +kernel, rfl, by decide +kernel, by decide +kernel⟩
theorem ok_nlength (F : FnA K d_need_length fd) (T : Tx K mg) (GL : Pm P w K mg base 3 (gd "is_length" K) [] (spIn 1 (10 ^ 40))) (GE : Pm P w K mg base 1 (md "BadLength" "__init__" K) [] (spErr1 (gd "BadLength" K) "value")) : FnOk P w K mg base (L2.CX P w) 4 (d_need_length.adr K) fd ["value"] (spNeed (gd "BadLength" K) 1 (10 ^ 40)) := by
  refine F.ok sc_need_length (fun vs H Q E h => ?_) (fun cdv A outer s H vs Q E hr h => ?_)
  · obtain ⟨v, rfl, _⟩ := h
    rfl
  · obtain ⟨v, rfl, kd, q, x⟩ := h
    refine ⟨_, (pss_one (ps_if (pt_not (pt_val (pe_g (PromO.call GL (hr.mono (by decide)) pass0) (by rfl) T.g_is_length T.k_is_length (pa_cons (pv 0) pa_nil))))
      (pss_one (ps_raise rfl (takes_of rfl rfl rfl rfl) (pmk_po T.ox_BadLength T.in_BadLength.iC T.in_BadLength.tI GE (hr.mono (by decide)) pass0 T.g_BadLength (pa_cons (pv 0) pa_nil)))) pss_nil)), ?_⟩
    refine ⟨_, rfl, v, rfl, kd, _, rfl, ite2 (fun hb => ?_) (fun hb => ?_)⟩
    · have e : withinV v 1 (10 ^ 40) = false := by simpa using hb
      exact ⟨_, rfl, mk_err1 fun d H' s nd hd => x e d H' s nd hd⟩
    · exact q (by simpa using hb)
abbrev N_need_rest : List Str := ["value"]
theorem sc_need_rest : FnScope N_need_rest ["value"] (defScope s_need_rest) := ⟨rfl, rfl, rfl, by decide +kernel, rfl, by decide +kernel, by decide +kernel⟩
theorem ok_nrest (F : FnA K d_need_rest fd) (T : Tx K mg) (GR : Pm P w K mg base 3 (gd "is_rest" K) [] (spIn 0 3)) (GE : Pm P w K mg base 1 (md "BadRest" "__init__" K) [] (spErr1 (gd "BadRest" K) "value")) : FnOk P w K mg base (L2.CX P w) 4 (d_need_rest.adr K) fd ["value"] (spNeed (gd "BadRest" K) 0 3) := by
  refine F.ok sc_need_rest (fun vs H Q E h => ?_) (fun cdv A outer s H vs Q E hr h => ?_)
  · obtain ⟨v, rfl, _⟩ := h
    rfl
  · obtain ⟨v, rfl, kd, q, x⟩ := h
    refine ⟨_, (pss_one (ps_if (pt_not (pt_val (pe_g (PromO.call GR (hr.mono (by decide)) pass0) (by rfl) T.g_is_rest T.k_is_rest (pa_cons (pv 0) pa_nil))))
      (pss_one (ps_raise rfl (takes_of rfl rfl rfl rfl) (pmk_po T.ox_BadRest T.in_BadRest.iC T.in_BadRest.tI GE (hr.mono (by decide)) pass0 T.g_BadRest (pa_cons (pv 0) pa_nil)))) pss_nil)), ?_⟩
    refine ⟨_, rfl, v, rfl, kd, _, rfl, ite2 (fun hb => ?_) (fun hb => ?_)⟩
    · have e : withinV v 0 3 = false := by simpa using hb
      exact ⟨_, rfl, mk_err1 fun d H' s nd hd => x e d H' s nd hd⟩
    · exact q (by simpa using hb)
/-! ### the pen -/
abbrev N__law_pen : List Str := ["_law_script"]
theorem sc__law_pen : FnScope N__law_pen ["_law_script"] (defScope s__law_pen) := ⟨rfl, rfl, rfl, by decide +kernel, rfl, by decide +kernel, by decide +kernel⟩
theorem ok_pen (F : FnA K d__law_pen fd) (T : Tx K mg) : FnOk P w K mg base CX0 1 (d__law_pen.adr K) fd ["_law_script"] (spPen K) := by
  refine fnO0 F sc__law_pen (fun vs H Q E h => ?_) (fun cdv A outer s H vs Q E hr h => ?_)
  · obtain ⟨a, ns, rfl, _⟩ := h
    rfl
  · obtain ⟨a, ns, rfl, hS, hl, q⟩ := h
    refine ⟨_, (pss_one (ps_ret (pe_lst (pa_cons (pe_callTy call_list_of (by rfl) T.f_list (by decide +kernel) (pa_cons (pe_slice sl_list (pv 0) po_none (po_some pe_int)) pa_nil)) (pa_cons pe_int (pa_cons pe_int pa_nil)))))), ?_⟩
    refine ⟨_, rfl, 63, rfl, a, _, rfl, hS, fun c nc => ?_⟩
    have ec : cutV (ns.map V.int) none (some 63) = ns.map V.int := cut_all (by rw [List.length_map]; exact hl)
    refine ⟨c, _, rfl, .inl (SqL.of upd_same), fun e ne => ?_⟩
    refine ⟨by show 3 ≤ sizeLine; decide, fun p np => ?_⟩
    have s1 : L2.Same H (upd H c (.lst (cutV (ns.map V.int) none (some 63)))) := same_new nc
    have s2 := same_new (o := .lst (cutV (ns.map V.int) none (some 63))) ne
    have s3 := same_new (o := .lst [.ref e, .int 0, .int 0]) np
    refine q p _ ?_ ⟨e, ns, 0, 0, upd_same, ?_, hl, Int.le_refl _, by decide, Int.le_refl _⟩ (s1.trans (s2.trans s3))
    · exact s1.free (s2.free np)
    · refine s3 _ _ ?_
      rw [upd_same, ec]
abbrev N__law_draw : List Str := ["_law_pen_here", "_law_many", "_law_at", "_law_cell", "_law_mixed", "_law_digit", "_law_great"]
theorem sc__law_draw : FnScope N__law_draw ["_law_pen_here", "_law_many"] (defScope s__law_draw) := ⟨rfl, rfl, rfl, by decide +kernel, rfl, by decide +kernel, by decide +kernel⟩
theorem ok_draw (F : FnA K d__law_draw fd) (T : Tx K mg) : FnOk P w K mg base CX0 1 (d__law_draw.adr K) fd ["_law_pen_here", "_law_many"] spDraw := by
  refine fnO0 F sc__law_draw (fun vs H Q E h => ?_) (fun cdv A outer s H vs Q E hr h => ?_)
  · obtain ⟨p, b, m, rfl, _⟩ := h
    rfl
  · obtain ⟨p, b, m, rfl, hm, hlog, ⟨c, ns, i, z, hp, hc, hl, hi, hb, hz⟩, q⟩ := h
    have ncp : c ≠ p := pen_ne hp hc
    have mm := fun x : Int => mod_lt x hm
    have hdiv : CDivW 0 m := ⟨hm, hlog⟩
    refine ⟨_, (pss_cons (ps_if (pt_cmpR op_gt (pe_ix (ix_listK (K := K) rfl) (pv 0) pe_int (fun _ _ => rfl)) pe_int (nomark _))
      (pss_cons (ps_set (i := 5) sc__law_draw.nd rfl (.inl rfl) (pe_op op_mod (pe_callTy call_int1 (by rfl) T.f_int (by decide +kernel) (pa_cons (pe_ix (ix_listK (K := K) rfl) (pv 0) pe_int (fun _ _ => rfl)) pa_nil)) (pv 1)))
      (pss_cons (ps_asg (pe_op op_fdivW (pe_callTy call_int1 (by rfl) T.f_int (by decide +kernel) (pa_cons (pe_ix (ix_listK (K := K) rfl) (pv 0) pe_int (fun _ _ => rfl)) pa_nil)) (pv 1)) (pg_sub (pv 0) pe_int set_list))
      (pss_one (ps_ret (pv 5))))) pss_nil)
      (pss_cons (ps_set (i := 2) sc__law_draw.nd rfl (.inl rfl) (pe_ix (ix_listK (K := K) rfl) (pv 0) pe_int (fun _ _ => rfl)))
      (pss_cons (ps_asg (pe_op op_add (pv 2) pe_int) (pg_sub (pv 0) pe_int set_list))
      (pss_cons (ps_set (i := 3) sc__law_draw.nd rfl (.inl rfl) (pe_op op_add (pe_op op_mul pe_int (pv 2)) pe_int))
      (pss_cut (ps_if (pt_cmpR (op_neD hr.units) (pe_ix (ix_listK (K := K) rfl) (pv 0) pe_int (fun _ _ => rfl)) (pe_lst pa_nil) (nomark _))
      (pss_one (ps_set (i := 3) sc__law_draw.nd rfl (.inl rfl) (pe_ix (ix_listK (K := K) rfl) (pe_ix (ix_listK (K := K) rfl) (pv 0) pe_int (fun _ _ => rfl)) (pe_op op_mod (pe_callTy call_int1 (by rfl) T.f_int (by decide +kernel) (pa_cons (pv 2) pa_nil)) (pe_callB (call_lenK (K := K) rfl) (by rfl) T.f_len (by decide +kernel) (pa_cons (pe_ix (ix_listK (K := K) rfl) (pv 0) pe_int (fun _ _ => rfl)) pa_nil))) (fun _ _ => rfl)))) pss_nil)
      (pss_cut (ps_if (PW.pt (pw_and (pt_cmpR op_lt (pv 2) (pe_callB (call_lenK (K := K) rfl) (by rfl) T.f_len (by decide +kernel) (pa_cons (pe_ix (ix_listK (K := K) rfl) (pv 0) pe_int (fun _ _ => rfl)) pa_nil)) (nomark _)) (pw_and1 (pt_cmpR op_ge (pe_callB call_abs (by rfl) T.f_abs (by decide +kernel) (pa_cons (pv 3) pa_nil)) (pe_op op_pow pe_int pe_int) (nomark _)))))
      (pss_cons (ps_set (i := 6) sc__law_draw.nd rfl (.inl rfl) (pe_op op_add (pe_op op_mul pe_int (pe_op op_sub (pe_callB call_abs (by rfl) T.f_abs (by decide +kernel) (pa_cons (pv 3) pa_nil)) (pe_op op_pow pe_int pe_int))) (pe_callTy call_int1 (by rfl) T.f_int (by decide +kernel) (pa_cons (pe_cmpR op_lt (pv 3) pe_int (nomark _)) pa_nil))))
      (pss_cons (ps_asg (pe_op op_fdivW (pe_callTy call_int1 (by rfl) T.f_int (by decide +kernel) (pa_cons (pv 6) pa_nil)) (pv 1)) (pg_sub (pv 0) pe_int set_list))
      (pss_one (ps_ret (pe_op op_mod (pe_callTy call_int1 (by rfl) T.f_int (by decide +kernel) (pa_cons (pv 6) pa_nil)) (pv 1)))))) pss_nil)
      (pss_cons (ps_set (i := 4) sc__law_draw.nd rfl (.inl rfl) (pe_op op_mod (pe_callTy call_int1 (by rfl) T.f_int (by decide +kernel) (pa_cons (pe_op op_pow (pe_op op_add (pe_op op_add (pe_op op_mod (pe_callTy call_int1 (by rfl) T.f_int (by decide +kernel) (pa_cons (pv 3) pa_nil)) pe_int) (pe_op op_mul pe_int (pv 2))) pe_int) pe_int) pa_nil)) pe_int))
      (pss_cons (ps_set (i := 4) sc__law_draw.nd rfl (.inl rfl) (pe_op op_mod (pe_callTy call_int1 (by rfl) T.f_int (by decide +kernel) (pa_cons (pe_op op_pow (pe_op op_add (pe_op op_add (pe_op op_mul (pv 4) (pe_op op_add (pe_op op_mul pe_int (pv 2)) pe_int)) (pe_op op_mul (pe_op op_mul pe_int (pv 2)) (pv 2))) pe_int) pe_int) pa_nil)) pe_int))
      (pss_one (ps_ret (pe_op op_mod (pe_callTy call_int1 (by rfl) T.f_int (by decide +kernel) (pa_cons (pe_op op_fdivW (pv 4) pe_int) pa_nil)) (pv 1)))))))))))), ?_⟩
    -- what is left of a great cell
    refine ⟨_, rfl, p, _, _, .int z, rfl, rfl, SqL.of hp, rfl, _, _, rfl, rfl, _, rfl, ite2 (fun h1 => ?_) (fun h1 => ?_)⟩
    · refine ⟨_, rfl, p, _, _, .int z, rfl, rfl, SqL.of hp, rfl, .inl ⟨_, rfl, _, rfl, _, _, rfl, rfl, hm, ?_⟩⟩
      refine ⟨_, rfl, p, _, _, .int z, rfl, rfl, SqL.of hp, rfl, .inl ⟨_, rfl, _, rfl, _, _, rfl, rfl, ⟨hm, hlog⟩, ?_⟩⟩
      refine ⟨_, rfl, p, _, _, 2, rfl, rfl, hp, rfl, ?_⟩
      refine ⟨_, rfl, q _ _ (mm z).1 (mm z).2 ⟨c, ns, i, z / m, upd_same, by rw [upd_ne ncp]; exact hc, hl, hi, by omega, Int.ediv_nonneg hz (by omega)⟩ (Keep.refl.put)⟩
    · -- the next cell
      refine ⟨_, rfl, p, _, _, .int i, rfl, rfl, SqL.of hp, rfl, ?_⟩
      refine ⟨_, rfl, _, _, rfl, rfl, _, rfl, p, _, _, 1, rfl, rfl, hp, rfl, ?_⟩
      have z0 : z = 0 := by
        have : ¬ (z > 0) := by simpa using h1
        omega
      subst z0
      have hp2 : (upd H p (HO.lst ([V.ref c, V.int i, V.int 0].set 1 (V.int (i + 1))))) p = some (.lst [.ref c, .int (i + 1), .int 0]) := upd_same
      have hc2 : (upd H p (HO.lst ([V.ref c, V.int i, V.int 0].set 1 (V.int (i + 1))))) c = some (.lst (ns.map V.int)) := by rw [upd_ne ncp]; exact hc
      have k2 : Keep H (upd H p (HO.lst ([V.ref c, V.int i, V.int 0].set 1 (V.int (i + 1))))) p := Keep.refl.put
      generalize upd H p (HO.lst ([V.ref c, V.int i, V.int 0].set 1 (V.int (i + 1)))) = H2 at hp2 hc2 k2 ⊢
      refine ⟨_, rfl, _, _, rfl, rfl, .inl ⟨by decide, by decide⟩, _, _, rfl, rfl, ?_⟩
      refine ⟨fun σ' H' => ∃ cell : Int, σ' = [some (.ref p), some (.int m), some (.int i), some (.int cell), none, none, none] ∧ H' p = some (.lst [.ref c, .int (i + 1), .int 0]) ∧ H' c = some (.lst (ns.map V.int)) ∧ Keep H H' p, ?_, ?_⟩
      · -- if the cells are not empty
        refine ⟨_, rfl, p, _, _, .ref c, rfl, rfl, SqL.of hp2, rfl, Nat.zero_le _, fun e ne => ?_⟩
        have hp3 : (upd H2 e (.lst [])) p = some (.lst [.ref c, .int (i + 1), .int 0]) := by rw [upd_ne (ne_of_none hp2 ne)]; exact hp2
        have hc3 : (upd H2 e (.lst [])) c = some (.lst (ns.map V.int)) := by rw [upd_ne (ne_of_none hc2 ne)]; exact hc2
        have k3 : Keep H (upd H2 e (.lst [])) p := k2.new ne
        refine ⟨.list (ns.map .int), .list [], .lst (SqL.of hc3) (dp_ints K _ ns), .lst (SqL.of upd_same) .nil, PySem.W.ke_shaped_ints ns, by decide +kernel, _, rfl, ite2 (fun h2 => ?_) (fun h2 => ?_)⟩
        · have hne : 0 < ns.length := by
            rw [eqv_nil] at h2
            cases ns with
            | nil => cases h2
            | cons a r => exact Nat.succ_pos _
          have hlen : (0 : Int) < ((ns.map V.int).length : Int) := by rw [List.length_map]; omega
          have mi := mod_lt i hlen
          obtain ⟨v, ev, _⟩ := atI_int (ns := ns) (i := i % ((ns.map V.int).length : Int)) mi.1 (by have := mi.2; rw [List.length_map] at this ⊢; exact this)
          refine ⟨_, rfl, p, _, _, .ref c, rfl, rfl, SqL.of hp3, rfl, _, rfl, .inl ⟨_, rfl, _, rfl, p, _, _, .ref c, rfl, rfl, SqL.of hp3, rfl, _, _, rfl, .inl ⟨_, SqL.of hc3, rfl⟩, _, _, rfl, rfl, hlen, c, _, _, .int v, rfl, rfl, SqL.of hc3, ev, ?_⟩⟩
          exact ⟨v, rfl, hp3, hc3, k3⟩
        · exact ⟨_, rfl, hp3, hc3, k3⟩
      · rintro σ' H' ⟨cell, rfl, hp3, hc3, k3⟩
        -- a great cell?
        have pen3 : ∀ z : Int, 0 ≤ z → PenAt (upd H' p (.lst [.ref c, .int (i + 1), .int z])) p b := fun z hz => ⟨c, ns, i + 1, z, upd_same, by rw [upd_ne ncp]; exact hc3, hl, by omega, by omega, hz⟩
        refine ⟨fun σ1 H1 => σ1 = [some (.ref p), some (.int m), some (.int i), some (.int cell), none, none, none] ∧ H1 = H', ?_, ?_⟩
        · refine ⟨_, rfl, _, rfl, p, _, _, .ref c, rfl, rfl, SqL.of hp3, rfl, _, _, rfl, .inl ⟨_, SqL.of hc3, rfl⟩, _, _, rfl, rfl, _, rfl, ite2 (fun _ => ?_) (fun _ => iteF ⟨rfl, rfl⟩)⟩
          refine ⟨_, rfl, _, rfl, _, _, rfl, rfl, ⟨by decide, by decide, by decide⟩, _, _, rfl, rfl, _, rfl, ite2 (fun h3 => ?_) (fun _ => ⟨rfl, rfl⟩)⟩
          have hab : (10 : Int) ^ 18 ≤ (if cell < 0 then -cell else cell) := by simpa using h3
          -- the great number
          refine ⟨_, rfl, _, rfl, _, _, rfl, rfl, ⟨by decide, by decide, by decide⟩, _, _, rfl, rfl, _, _, rfl, rfl, .inl ⟨by decide, by decide⟩, _, rfl, _, _, rfl, rfl, .inr ⟨_, rfl, _, _, rfl, rfl, ?_⟩⟩
          have hgr : 0 ≤ 2 * ((if cell < 0 then -cell else cell) - 10 ^ (18 : Int).toNat) + (if decide (cell < 0) = true then 1 else 0) := by
            have e18 : (10 : Int) ^ (18 : Int).toNat = (10 : Int) ^ 18 := rfl
            rw [e18]
            have : (0 : Int) ≤ (if decide (cell < 0) = true then 1 else 0) := by split <;> decide
            omega
          refine ⟨_, rfl, .inl ⟨_, rfl, _, rfl, _, _, rfl, rfl, ⟨hm, hlog⟩, _, rfl, p, _, _, 2, rfl, rfl, hp3, rfl, ?_⟩⟩
          refine ⟨_, rfl, .inl ⟨_, rfl, _, rfl, _, _, rfl, rfl, hm, ?_⟩⟩
          exact q _ _ (mm _).1 (mm _).2 (pen3 _ (Int.ediv_nonneg hgr (by omega))) k3.put
        · rintro σ1 H1 ⟨rfl, rfl⟩
          have hi2 : i ≤ 1000000 := by omega
          -- the first mix
          refine ⟨_, rfl, .inl ⟨_, rfl, _, _, rfl, rfl, (by show (0 : Int) < _; decide), _, rfl, _, _, rfl, rfl, .inl ⟨by decide, by decide⟩, _, _, rfl, rfl, _, _, rfl, rfl, _, _, rfl, rfl, ⟨by decide, by decide, ?_⟩, .inl ⟨_, rfl, _, _, rfl, rfl, (by show (0 : Int) < _; decide), ?_⟩⟩⟩
          · refine pow_lt ?_ ?_ <;> omega
          have hx := mod_lt ((cell % 2147483579 + 45100 * i + 214) ^ (5 : Int).toNat) (show (0 : Int) < 2147483543 by decide)
          -- the second one
          refine ⟨_, rfl, _, rfl, _, _, rfl, rfl, .inl ⟨by decide, by decide⟩, _, _, rfl, rfl, _, _, rfl, rfl, .inl ⟨by omega, by omega⟩, _, rfl, _, _, rfl, rfl, .inl ⟨by decide, by decide⟩, _, rfl, _, _, rfl, rfl, .inl ⟨by omega, by omega⟩, _, _, rfl, rfl, _, _, rfl, rfl, _, _, rfl, rfl, ⟨by decide, by decide, ?_⟩, .inl ⟨_, rfl, _, _, rfl, rfl, (by show (0 : Int) < _; decide), ?_⟩⟩
          · exact mix_ok hx.1 (Int.lt_trans hx.2 (by decide)) hi hi2 ⟨by decide, by decide⟩ ⟨by decide, by decide⟩ ⟨by decide, by decide⟩
          refine ⟨_, rfl, _, _, rfl, rfl, ⟨by decide, by decide⟩, .inl ⟨_, rfl, _, rfl, _, _, rfl, rfl, hm, ?_⟩⟩
          exact q _ _ (mm _).1 (mm _).2 ⟨c, ns, i + 1, 0, hp3, hc3, hl, by omega, by omega, Int.le_refl _⟩ k3
end
end Lw

set_option Elab.async false
set_option linter.all false
set_option maxRecDepth 100000
set_option maxHeartbeats 4000000
namespace Lw
open PySem PySem.Spec PyProof.Rows L2 Gh
/-- a Span stands at a -/
def SpanAt (C : Addr) (H : Hp) (a : Addr) (h m o : Int) : Prop := ∃ dx t, H a = some (.ins C dx [("own_parts", .ref t)]) ∧ H t = some (.tup [.int h, .int m, .int o])
theorem SpanAt.same {C : Addr} {H H' : Hp} {a : Addr} {h m o : Int} (k : SpanAt C H a h m o) (s : L2.Same H H') : SpanAt C H' a h m o := by
  obtain ⟨dx, t, h1, h2⟩ := k
  exact ⟨dx, t, s _ _ h1, s _ _ h2⟩
theorem SpanAt.keep {C : Addr} {H H' : Hp} {a p : Addr} {b : Nat} {h m o : Int} (k : SpanAt C H a h m o) (pn : PenAt H p b) (s : Keep H H' p) : SpanAt C H' a h m o := by
  obtain ⟨dx, t, h1, h2⟩ := k
  obtain ⟨c, ns, i, z, hp, _⟩ := pn
  exact ⟨dx, t, s _ _ h1 (ne_of h1 hp (by intro e; cases e)), s _ _ h2 (ne_of h2 hp (by intro e; cases e))⟩
section
variable {P : Program} {w : World} {K : PySem.W.Frag} {mg : Str → Option Value} {base : Heap} {f : Addr} {fd : FuncData}
def spInit (C : Addr) : Sp := fun vs H Q _ => ∃ (x dx : Addr) (h m o : Int), vs = [.ref x, .int h, .int m, .int o] ∧ H x = some (.ins C dx []) ∧ (0 ≤ h ∧ h ≤ 8) ∧ (-60 ≤ m ∧ m ≤ 60) ∧ (-9 ≤ o ∧ o ≤ 9) ∧
  ∀ t, H t = none → Q .non (upd (upd H t (.tup [.int h, .int m, .int o])) x (.ins C dx [("own_parts", .ref t)]))
abbrev N_Span___init__ : List Str := ["self", "halves", "more", "odd"]
theorem sc_Span___init__ : FnScope N_Span___init__ ["self", "halves", "more", "odd"] (defScope s_Span___init__) := ⟨rfl, rfl, rfl, by decide +kernel, rfl, by decide +kernel, by decide +kernel⟩
theorem ok_init (F : FnA K d_Span___init__ fd) (T : Tx K mg) (GW : Pm P w K mg base 2 (gd "is_within" K) [] spWithin) : FnOk P w K mg base CX0 3 (d_Span___init__.adr K) fd ["self", "halves", "more", "odd"] (spInit (gd "Span" K)) := by
  refine fnO0 F sc_Span___init__ (fun vs H Q E h => ?_) (fun cdv A outer s H vs Q E hr h => ?_)
  · obtain ⟨x, dx, h, m, o, rfl, _⟩ := h
    rfl
  · obtain ⟨x, dx, h, m, o, rfl, hx, hh, hm, ho, q⟩ := h
    refine ⟨_, (pss_cons (ps_if (pt_not (pt_val (pe_g (PromO.call GW (hr.mono (by decide)) pass0) (by rfl) T.g_is_within T.k_is_within (pa_cons (pv 1) (pa_cons pe_int (pa_cons (pe_gi T.m_MOST_HALVES (by rfl)) pa_nil))))))
      (pss_one ps_never) pss_nil)
      (pss_cons (ps_if (pt_not (pt_val (pe_g (PromO.call GW (hr.mono (by decide)) pass0) (by rfl) T.g_is_within T.k_is_within (pa_cons (pv 2) (pa_cons (pe_un un_neg (pe_gi T.m_MOST_MORE (by rfl))) (pa_cons (pe_gi T.m_MOST_MORE (by rfl)) pa_nil))))))
      (pss_one ps_never) pss_nil)
      (pss_cons (ps_if (pt_not (pt_val (pe_g (PromO.call GW (hr.mono (by decide)) pass0) (by rfl) T.g_is_within T.k_is_within (pa_cons (pv 3) (pa_cons (pe_un un_neg (pe_gi T.m_MOST_ODD (by rfl))) (pa_cons (pe_gi T.m_MOST_ODD (by rfl)) pa_nil))))))
      (pss_one ps_never) pss_nil)
      (pss_one (ps_fld (pv 0) (pe_tup (pa_cons (pv 1) (pa_cons (pv 2) (pa_cons (pv 3) pa_nil)))) rfl))))), ?_⟩
    refine ⟨_, rfl, .int h, 0, 8, rfl, .int h, _, rfl, ?_⟩
    rw [within_yes hh]
    refine iteF ?_
    refine ⟨_, rfl, 60, rfl, .int m, -60, 60, rfl, .int m, _, rfl, ?_⟩
    rw [within_yes hm]
    refine iteF ?_
    refine ⟨_, rfl, 9, rfl, .int o, -9, 9, rfl, .int o, _, rfl, ?_⟩
    rw [within_yes ho]
    refine iteF ?_
    refine ⟨_, rfl, _, rfl, _, rfl, by show 3 ≤ sizeLine; decide, fun t nt => ?_⟩
    refine ⟨_, rfl, x, _, dx, [], rfl, by rw [upd_ne (ne_of_none hx nt)]; exact hx, T.cl_Span, T.n_Span_own_parts, by show 0 < 1000; decide, q t nt⟩
/-- Span(h, m, o) -/
theorem mk_span {C : Addr} {h m o : Int} {H : Hp} {Q : VK} {E : XK} (hh : 0 ≤ h ∧ h ≤ 8) (hm : -60 ≤ m ∧ m ≤ 60) (ho : -9 ≤ o ∧ o ≤ 9) (q : ∀ x H', H x = none → L2.Same H H' → SpanAt C H' x h m o → Q (.ref x) H') : rMk C (spInit C) [] E [.int h, .int m, .int o] H Q := by
  unfold rMk
  intro x dx nx ndx ne
  refine ⟨x, dx, h, m, o, rfl, upd_same, hh, hm, ho, fun t nt => ⟨rfl, ?_⟩⟩
  have s1 : L2.Same H (upd (upd H dx (.own x)) x (.ins C dx [])) := fun a u e => by
    rw [upd_ne (ne_of_none e nx), upd_ne (ne_of_none e ndx)]
    exact e
  have nxt : x ≠ t := ne_of_none (H := upd (upd H dx (.own x)) x (.ins C dx [])) upd_same nt
  refine q x _ nx (fun a u e => ?_) ⟨dx, t, upd_same, ?_⟩
  · rw [upd_ne (ne_of_none e nx), upd_ne (ne_of_none (s1 _ _ e) nt)]
    exact s1 _ _ e
  · rw [upd_ne nxt.symm, upd_same]
def spProp (C : Addr) (g : Int → Int → Int → Int) : Sp := fun vs H Q _ => ∃ (a : Addr) (h m o : Int), vs = [.ref a] ∧ SpanAt C H a h m o ∧ Q (.int (g h m o)) H
abbrev N_Span_halves : List Str := ["self"]
theorem sc_Span_halves : FnScope N_Span_halves ["self"] (defScope s_Span_halves) := ⟨rfl, rfl, rfl, by decide +kernel, rfl, by decide +kernel, by decide +kernel⟩
abbrev N_Span_more : List Str := ["self"]
theorem sc_Span_more : FnScope N_Span_more ["self"] (defScope s_Span_more) := ⟨rfl, rfl, rfl, by decide +kernel, rfl, by decide +kernel, by decide +kernel⟩
abbrev N_Span_odd : List Str := ["self"]
theorem sc_Span_odd : FnScope N_Span_odd ["self"] (defScope s_Span_odd) := ⟨rfl, rfl, rfl, by decide +kernel, rfl, by decide +kernel, by decide +kernel⟩
theorem ok_halves (F : FnA K d_Span_halves fd) (T : Tx K mg) : FnOk P w K mg base CX0 1 (d_Span_halves.adr K) fd ["self"] (spProp (gd "Span" K) fun h _ _ => h) := by
  refine fnO0 F sc_Span_halves (fun vs H Q E h => ?_) (fun cdv A outer s H vs Q E hr h => ?_)
  · obtain ⟨a, h, m, o, rfl, _⟩ := h
    rfl
  · obtain ⟨a, h, m, o, rfl, ⟨dx, t, h1, h2⟩, q⟩ := h
    refine ⟨_, (pss_one (ps_ret (pe_ix (ix_tupK (K := K) rfl) (pe_fld (pv 0) rfl) pe_int (fun _ _ => rfl)))), ?_⟩
    exact ⟨_, rfl, a, _, dx, _, _, rfl, h1, T.cl_Span, T.n_Span_own_parts, rfl, t, _, _, .int h, rfl, rfl, SqT.of h2, rfl, q⟩
theorem ok_more (F : FnA K d_Span_more fd) (T : Tx K mg) : FnOk P w K mg base CX0 1 (d_Span_more.adr K) fd ["self"] (spProp (gd "Span" K) fun _ m _ => m) := by
  refine fnO0 F sc_Span_more (fun vs H Q E h => ?_) (fun cdv A outer s H vs Q E hr h => ?_)
  · obtain ⟨a, h, m, o, rfl, _⟩ := h
    rfl
  · obtain ⟨a, h, m, o, rfl, ⟨dx, t, h1, h2⟩, q⟩ := h
    refine ⟨_, (pss_one (ps_ret (pe_ix (ix_tupK (K := K) rfl) (pe_fld (pv 0) rfl) pe_int (fun _ _ => rfl)))), ?_⟩
    exact ⟨_, rfl, a, _, dx, _, _, rfl, h1, T.cl_Span, T.n_Span_own_parts, rfl, t, _, _, .int m, rfl, rfl, SqT.of h2, rfl, q⟩
theorem ok_odd (F : FnA K d_Span_odd fd) (T : Tx K mg) : FnOk P w K mg base CX0 1 (d_Span_odd.adr K) fd ["self"] (spProp (gd "Span" K) fun _ _ o => o) := by
  refine fnO0 F sc_Span_odd (fun vs H Q E h => ?_) (fun cdv A outer s H vs Q E hr h => ?_)
  · obtain ⟨a, h, m, o, rfl, _⟩ := h
    rfl
  · obtain ⟨a, h, m, o, rfl, ⟨dx, t, h1, h2⟩, q⟩ := h
    refine ⟨_, (pss_one (ps_ret (pe_ix (ix_tupK (K := K) rfl) (pe_fld (pv 0) rfl) pe_int (fun _ _ => rfl)))), ?_⟩
    exact ⟨_, rfl, a, _, dx, _, _, rfl, h1, T.cl_Span, T.n_Span_own_parts, rfl, t, _, _, .int o, rfl, rfl, SqT.of h2, rfl, q⟩
/-- one and another, or an int, g times -/
def spPlus (C : Addr) : Sp := fun vs H Q _ => ∃ (a : Addr) (h m o : Int) (y : V) (h' m' o' g : Int), vs = [.ref a, y, .int g] ∧ SpanAt C H a h m o ∧ (y = .int m' ∧ h' = 0 ∧ o' = 0 ∨ ∃ b, y = .ref b ∧ SpanAt C H b h' m' o') ∧
  (0 ≤ h + g * h' ∧ h + g * h' ≤ 8) ∧ (-60 ≤ m + g * m' ∧ m + g * m' ≤ 60) ∧ (-9 ≤ o + g * o' ∧ o + g * o' ≤ 9) ∧ (-2 ≤ g ∧ g ≤ 2) ∧
  ∀ x H', H x = none → L2.Same H H' → SpanAt C H' x (h + g * h') (m + g * m') (o + g * o') → Q (.ref x) H'
abbrev N_Span_plus : List Str := ["self", "other", "sign"]
theorem sc_Span_plus : FnScope N_Span_plus ["self", "other", "sign"] (defScope s_Span_plus) := ⟨rfl, rfl, rfl, by decide +kernel, rfl, by decide +kernel, by decide +kernel⟩
theorem ok_plus (F : FnA K d_Span_plus fd) (T : Tx K mg) (GS : Pm P w K mg base 3 (md "Span" "__init__" K) [] (spInit (gd "Span" K))) (GH : Pm P w K mg base 1 (propG "Span" "halves" K) [] (spProp (gd "Span" K) fun h _ _ => h))
    (GM : Pm P w K mg base 1 (propG "Span" "more" K) [] (spProp (gd "Span" K) fun _ m _ => m)) (GOd : Pm P w K mg base 1 (propG "Span" "odd" K) [] (spProp (gd "Span" K) fun _ _ o => o)) : FnOk P w K mg base CX0 5 (d_Span_plus.adr K) fd ["self", "other", "sign"] (spPlus (gd "Span" K)) := by
  refine fnO0 F sc_Span_plus (fun vs H Q E h => ?_) (fun cdv A outer s H vs Q E hr h => ?_)
  · obtain ⟨a, h, m, o, y, h', m', o', g, rfl, _⟩ := h
    rfl
  · obtain ⟨a, h, m, o, y, h', m', o', g, rfl, sa, hy, hh, hm, ho, hgg, q⟩ := h
    obtain ⟨dx, t, h1, h2⟩ := id sa
    refine ⟨_, (pss_cons (ps_if (pt_val (pe_callB (call_isiK1 (K := K) rfl) (by rfl) T.f_isinstance (by decide +kernel) (pa_cons (pv 1) (pa_cons (pe_glob (v := .ref _) rfl T.g_Span rfl) pa_nil))))
      (pss_one (ps_ret (pe_g (PromO.make T.mk_Span GS (hr.mono (by decide)) pass0) (by rfl) T.g_Span T.k_Span (pa_cons (pe_op op_add (pe_po (pv 0) T.cl_Span T.pr_Span_halves GH (hr.mono (by decide)) pass0) (pe_op op_mul (pv 2) (pe_po (pv 1) T.cl_Span T.pr_Span_halves GH (hr.mono (by decide)) pass0))) (pa_cons (pe_op op_add (pe_po (pv 0) T.cl_Span T.pr_Span_more GM (hr.mono (by decide)) pass0) (pe_op op_mul (pv 2) (pe_po (pv 1) T.cl_Span T.pr_Span_more GM (hr.mono (by decide)) pass0))) (pa_cons (pe_op op_add (pe_po (pv 0) T.cl_Span T.pr_Span_odd GOd (hr.mono (by decide)) pass0) (pe_op op_mul (pv 2) (pe_po (pv 1) T.cl_Span T.pr_Span_odd GOd (hr.mono (by decide)) pass0))) pa_nil)))))) pss_nil)
      (pss_one (ps_ret (pe_g (PromO.make T.mk_Span GS (hr.mono (by decide)) pass0) (by rfl) T.g_Span T.k_Span (pa_cons (pe_po (pv 0) T.cl_Span T.pr_Span_halves GH (hr.mono (by decide)) pass0) (pa_cons (pe_op op_add (pe_po (pv 0) T.cl_Span T.pr_Span_more GM (hr.mono (by decide)) pass0) (pe_op op_mul (pv 2) (pv 1))) (pa_cons (pe_po (pv 0) T.cl_Span T.pr_Span_odd GOd (hr.mono (by decide)) pass0) pa_nil))))))), ?_⟩
    rcases hy with ⟨rfl, rfl, rfl⟩ | ⟨b, rfl, sb⟩
    · refine ⟨_, rfl, _, _, _, _, false, rfl, .own _, .base (.int m'), T.ty_Span.no _ (by decide), _, rfl, iteF ?_⟩
      refine ⟨_, rfl, a, dx, _, rfl, h1, ⟨a, h, m, o, rfl, sa, ?_⟩⟩
      refine ⟨_, rfl, a, dx, _, rfl, h1, ⟨a, h, m, o, rfl, sa, ?_⟩⟩
      refine ⟨_, rfl, _, rfl, _, _, rfl, rfl, .inl ⟨by omega, by omega⟩, _, _, rfl, rfl, ?_⟩
      refine ⟨_, rfl, a, dx, _, rfl, h1, ⟨a, h, m, o, rfl, sa, ?_⟩⟩
      rw [Int.mul_zero, Int.add_zero] at hh ho q
      rw [Int.add_zero] at q
      exact mk_span hh hm ho q
    · obtain ⟨dy, u, k1, k2⟩ := id sb
      refine ⟨_, rfl, _, _, _, _, true, rfl, .own _, .base (.ins k1 T.cl_Span T.ty_Span.ha T.ty_Span.hn T.ty_Span.htk T.ty_Span.hm), T.ty_Span.yes, _, rfl, iteT ?_⟩
      refine ⟨_, rfl, a, dx, _, rfl, h1, ⟨a, h, m, o, rfl, sa, ?_⟩⟩
      refine ⟨_, rfl, _, rfl, b, dy, _, rfl, k1, ⟨b, h', m', o', rfl, sb, _, _, rfl, rfl, .inl ⟨by omega, by omega⟩, _, _, rfl, rfl, ?_⟩⟩
      refine ⟨_, rfl, a, dx, _, rfl, h1, ⟨a, h, m, o, rfl, sa, ?_⟩⟩
      refine ⟨_, rfl, _, rfl, b, dy, _, rfl, k1, ⟨b, h', m', o', rfl, sb, _, _, rfl, rfl, .inl ⟨by omega, by omega⟩, _, _, rfl, rfl, ?_⟩⟩
      refine ⟨_, rfl, a, dx, _, rfl, h1, ⟨a, h, m, o, rfl, sa, ?_⟩⟩
      refine ⟨_, rfl, _, rfl, b, dy, _, rfl, k1, ⟨b, h', m', o', rfl, sb, _, _, rfl, rfl, .inl ⟨by omega, by omega⟩, _, _, rfl, rfl, ?_⟩⟩
      exact mk_span hh hm ho q
/-- by __add__, by __sub__ -/
def spAdd (C : Addr) (g : Int) : Sp := fun vs H Q E => ∃ (x y : V), vs = [x, y] ∧ spPlus C [x, y, .int g] H Q E
abbrev N_Span___add__ : List Str := ["self", "other"]
theorem sc_Span___add__ : FnScope N_Span___add__ ["self", "other"] (defScope s_Span___add__) := ⟨rfl, rfl, rfl, by decide +kernel, rfl, by decide +kernel, by decide +kernel⟩
theorem ok_add (F : FnA K d_Span___add__ fd) (T : Tx K mg) (GPl : Pm P w K mg base 5 (md "Span" "plus" K) [] (spPlus (gd "Span" K))) : FnOk P w K mg base CX0 6 (d_Span___add__.adr K) fd ["self", "other"] (spAdd (gd "Span" K) 1) := by
  refine fnO0 F sc_Span___add__ (fun vs H Q E h => ?_) (fun cdv A outer s H vs Q E hr h => ?_)
  · obtain ⟨x, y, rfl, _⟩ := h
    rfl
  · obtain ⟨x, y, rfl, a, h, m, o, y', h', m', o', g, e, sa, z⟩ := h
    cases e
    obtain ⟨dx, t, h1, h2⟩ := id sa
    refine ⟨_, (pss_one (ps_ret (pe_m (pv 0) T.cl_Span T.mt_Span_plus (PromO.call GPl (hr.mono (by decide)) pass0) (pa_cons (pv 1) (pa_cons pe_int pa_nil))))), ?_⟩
    exact ⟨_, rfl, a, dx, _, rfl, h1, no_field (by decide +kernel), _, rfl, ⟨a, h, m, o, y, h', m', o', 1, rfl, sa, z⟩⟩
abbrev N_Span___sub__ : List Str := ["self", "other"]
theorem sc_Span___sub__ : FnScope N_Span___sub__ ["self", "other"] (defScope s_Span___sub__) := ⟨rfl, rfl, rfl, by decide +kernel, rfl, by decide +kernel, by decide +kernel⟩
theorem ok_sub (F : FnA K d_Span___sub__ fd) (T : Tx K mg) (GPl : Pm P w K mg base 5 (md "Span" "plus" K) [] (spPlus (gd "Span" K))) : FnOk P w K mg base CX0 6 (d_Span___sub__.adr K) fd ["self", "other"] (spAdd (gd "Span" K) (-1)) := by
  refine fnO0 F sc_Span___sub__ (fun vs H Q E h => ?_) (fun cdv A outer s H vs Q E hr h => ?_)
  · obtain ⟨x, y, rfl, _⟩ := h
    rfl
  · obtain ⟨x, y, rfl, a, h, m, o, y', h', m', o', g, e, sa, z⟩ := h
    cases e
    obtain ⟨dx, t, h1, h2⟩ := id sa
    refine ⟨_, (pss_one (ps_ret (pe_m (pv 0) T.cl_Span T.mt_Span_plus (PromO.call GPl (hr.mono (by decide)) pass0) (pa_cons (pv 1) (pa_cons (pe_un un_neg pe_int) pa_nil))))), ?_⟩
    exact ⟨_, rfl, a, dx, _, rfl, h1, no_field (by decide +kernel), _, rfl, _, rfl, ⟨a, h, m, o, y, h', m', o', -1, rfl, sa, z⟩⟩
/-- k times -/
def spTimes (C : Addr) : Sp := fun vs H Q _ => ∃ (a : Addr) (h m o k : Int), vs = [.ref a, .int k] ∧ SpanAt C H a h m o ∧ (0 ≤ h * k ∧ h * k ≤ 8) ∧ (-60 ≤ m * k ∧ m * k ≤ 60) ∧ (-9 ≤ o * k ∧ o * k ≤ 9) ∧ (-9 ≤ k ∧ k ≤ 9) ∧
  ∀ x H', H x = none → L2.Same H H' → SpanAt C H' x (h * k) (m * k) (o * k) → Q (.ref x) H'
abbrev N_Span___rmul__ : List Str := ["self", "other"]
theorem sc_Span___rmul__ : FnScope N_Span___rmul__ ["self", "other"] (defScope s_Span___rmul__) := ⟨rfl, rfl, rfl, by decide +kernel, rfl, by decide +kernel, by decide +kernel⟩
theorem ok_rmul (F : FnA K d_Span___rmul__ fd) (T : Tx K mg) (GS : Pm P w K mg base 3 (md "Span" "__init__" K) [] (spInit (gd "Span" K))) (GH : Pm P w K mg base 1 (propG "Span" "halves" K) [] (spProp (gd "Span" K) fun h _ _ => h))
    (GM : Pm P w K mg base 1 (propG "Span" "more" K) [] (spProp (gd "Span" K) fun _ m _ => m)) (GOd : Pm P w K mg base 1 (propG "Span" "odd" K) [] (spProp (gd "Span" K) fun _ _ o => o)) : FnOk P w K mg base CX0 5 (d_Span___rmul__.adr K) fd ["self", "other"] (spTimes (gd "Span" K)) := by
  refine fnO0 F sc_Span___rmul__ (fun vs H Q E h => ?_) (fun cdv A outer s H vs Q E hr h => ?_)
  · obtain ⟨a, h, m, o, k, rfl, _⟩ := h
    rfl
  · obtain ⟨a, h, m, o, k, rfl, sa, hh, hm, ho, hk, q⟩ := h
    obtain ⟨dx, t, h1, h2⟩ := id sa
    refine ⟨_, (pss_one (ps_ret (pe_g (PromO.make T.mk_Span GS (hr.mono (by decide)) pass0) (by rfl) T.g_Span T.k_Span (pa_cons (pe_op op_mul (pe_po (pv 0) T.cl_Span T.pr_Span_halves GH (hr.mono (by decide)) pass0) (pv 1)) (pa_cons (pe_op op_mul (pe_po (pv 0) T.cl_Span T.pr_Span_more GM (hr.mono (by decide)) pass0) (pv 1)) (pa_cons (pe_op op_mul (pe_po (pv 0) T.cl_Span T.pr_Span_odd GOd (hr.mono (by decide)) pass0) (pv 1)) pa_nil)))))), ?_⟩
    refine ⟨_, rfl, a, dx, _, rfl, h1, ⟨a, h, m, o, rfl, sa, _, rfl, _, _, rfl, rfl, .inr ⟨by omega, by omega⟩, ?_⟩⟩
    refine ⟨_, rfl, a, dx, _, rfl, h1, ⟨a, h, m, o, rfl, sa, _, rfl, _, _, rfl, rfl, .inr ⟨by omega, by omega⟩, ?_⟩⟩
    refine ⟨_, rfl, a, dx, _, rfl, h1, ⟨a, h, m, o, rfl, sa, _, rfl, _, _, rfl, rfl, .inr ⟨by omega, by omega⟩, ?_⟩⟩
    exact mk_span hh hm ho q
/-- Span.whole(k, m) -/
def spWhole (C : Addr) : Sp := fun vs H Q _ => ∃ k m : Int, vs = [.int k, .int m] ∧ (0 ≤ k ∧ k ≤ 4) ∧ (-60 ≤ m ∧ m ≤ 60) ∧ ∀ x H', H x = none → L2.Same H H' → SpanAt C H' x (2 * k) m k → Q (.ref x) H'
abbrev N_Span_whole : List Str := ["k", "more"]
theorem sc_Span_whole : FnScope N_Span_whole ["k", "more"] (defScope s_Span_whole) := ⟨rfl, rfl, rfl, by decide +kernel, rfl, by decide +kernel, by decide +kernel⟩
theorem ok_whole (F : FnA K d_Span_whole fd) (T : Tx K mg) (GW : Pm P w K mg base 2 (gd "is_within" K) [] spWithin) (GS : Pm P w K mg base 3 (md "Span" "__init__" K) [] (spInit (gd "Span" K))) : FnOk P w K mg base CX0 5 (d_Span_whole.adr K) fd ["k", "more"] (spWhole (gd "Span" K)) := by
  refine fnO0 F sc_Span_whole (fun vs H Q E h => ?_) (fun cdv A outer s H vs Q E hr h => ?_)
  · obtain ⟨k, m, rfl, _⟩ := h
    rfl
  · obtain ⟨k, m, rfl, hk, hm, q⟩ := h
    refine ⟨_, (pss_cons (ps_if (pt_not (pt_val (pe_g (PromO.call GW (hr.mono (by decide)) pass0) (by rfl) T.g_is_within T.k_is_within (pa_cons (pv 0) (pa_cons pe_int (pa_cons (pe_gi T.m_MOST_WHOLE (by rfl)) pa_nil))))))
      (pss_one ps_never) pss_nil)
      (pss_one (ps_ret (pe_g (PromO.make T.mk_Span GS (hr.mono (by decide)) pass0) (by rfl) T.g_Span T.k_Span (pa_cons (pe_op op_mul pe_int (pv 0)) (pa_cons (pv 1) (pa_cons (pv 0) pa_nil))))))), ?_⟩
    refine ⟨_, rfl, .int k, 0, 4, rfl, .int k, _, rfl, ?_⟩
    rw [within_yes hk]
    refine iteF ?_
    refine ⟨_, rfl, _, _, rfl, rfl, .inl ⟨by decide, by decide⟩, _, rfl, _, rfl, ?_⟩
    exact mk_span ⟨by omega, by omega⟩ hm ⟨by omega, by omega⟩ q
/-- the number at a length, as the program tells it -/
def numA (h m o n : Int) : Int := h * (n / 2) + o * (n % 2) + m
def spAt (C : Addr) : Sp := fun vs H Q _ => ∃ (a : Addr) (h m o n : Int), vs = [.ref a, .int n] ∧ SpanAt C H a h m o ∧ (-1000 ≤ h ∧ h ≤ 1000) ∧ (-1000 ≤ o ∧ o ≤ 1000) ∧ Q (.int (numA h m o n)) H
abbrev N_Span_number_at : List Str := ["self", "n"]
theorem sc_Span_number_at : FnScope N_Span_number_at ["self", "n"] (defScope s_Span_number_at) := ⟨rfl, rfl, rfl, by decide +kernel, rfl, by decide +kernel, by decide +kernel⟩
theorem ok_at (F : FnA K d_Span_number_at fd) (T : Tx K mg) (GH : Pm P w K mg base 1 (propG "Span" "halves" K) [] (spProp (gd "Span" K) fun h _ _ => h))
    (GM : Pm P w K mg base 1 (propG "Span" "more" K) [] (spProp (gd "Span" K) fun _ m _ => m)) (GOd : Pm P w K mg base 1 (propG "Span" "odd" K) [] (spProp (gd "Span" K) fun _ _ o => o)) : FnOk P w K mg base CX0 3 (d_Span_number_at.adr K) fd ["self", "n"] (spAt (gd "Span" K)) := by
  refine fnO0 F sc_Span_number_at (fun vs H Q E h => ?_) (fun cdv A outer s H vs Q E hr h => ?_)
  · obtain ⟨a, h, m, o, n, rfl, _⟩ := h
    rfl
  · obtain ⟨a, h, m, o, n, rfl, sa, hh, ho, q⟩ := h
    obtain ⟨dx, t, h1, h2⟩ := id sa
    refine ⟨_, (pss_one (ps_ret (pe_op op_add (pe_op op_add (pe_op op_mul (pe_po (pv 0) T.cl_Span T.pr_Span_halves GH (hr.mono (by decide)) pass0) (pe_op op_fdivW (pv 1) pe_int)) (pe_op op_mul (pe_po (pv 0) T.cl_Span T.pr_Span_odd GOd (hr.mono (by decide)) pass0) (pe_op op_mod (pv 1) pe_int))) (pe_po (pv 0) T.cl_Span T.pr_Span_more GM (hr.mono (by decide)) pass0)))), ?_⟩
    refine ⟨_, rfl, a, dx, _, rfl, h1, ⟨a, h, m, o, rfl, sa, _, rfl, _, _, rfl, rfl, ⟨by decide, by decide⟩, _, _, rfl, rfl, .inl ⟨(by show -(2 ^ 64) < h; omega), (by show h < 2 ^ 64; omega)⟩, ?_⟩⟩
    refine ⟨_, rfl, a, dx, _, rfl, h1, ⟨a, h, m, o, rfl, sa, _, rfl, _, _, rfl, rfl, (by show (0 : Int) < 2; decide), _, _, rfl, rfl, .inl ⟨(by show -(2 ^ 64) < o; omega), (by show o < 2 ^ 64; omega)⟩, _, _, rfl, rfl, ?_⟩⟩
    exact ⟨_, rfl, a, dx, _, rfl, h1, ⟨a, h, m, o, rfl, sa, _, _, rfl, rfl, q⟩⟩
/-- one(v) -/
def spCall (C B : Addr) : Sp := fun vs H Q E => ∃ (a : Addr) (h m o : Int) (v : V), vs = [.ref a, v] ∧ SpanAt C H a h m o ∧ (-1000 ≤ h ∧ h ≤ 1000) ∧ (-1000 ≤ o ∧ o ≤ 1000) ∧ Kd H v ∧ (∀ n, v = .int n → 1 ≤ n → n ≤ 10 ^ 40 → Q (.int (numA h m o n)) H) ∧
  (withinV v 1 (10 ^ 40) = false → ∀ d H', L2.Same H H' → H d = none → H' d = some (.xd [("value", v)]) → E (.ref B) (some d) H')
abbrev N_Span___call__ : List Str := ["self", "n"]
theorem sc_Span___call__ : FnScope N_Span___call__ ["self", "n"] (defScope s_Span___call__) := ⟨rfl, rfl, rfl, by decide +kernel, rfl, by decide +kernel, by decide +kernel⟩
theorem ok_call (F : FnA K d_Span___call__ fd) (T : Tx K mg) (GNL : Px P w K mg base 4 (gd "need_length" K) [] (spNeed (gd "BadLength" K) 1 (10 ^ 40))) (GAt : Pm P w K mg base 3 (md "Span" "number_at" K) [] (spAt (gd "Span" K))) : FnOk P w K mg base (L2.CX P w) 5 (d_Span___call__.adr K) fd ["self", "n"] (spCall (gd "Span" K) (gd "BadLength" K)) := by
  refine F.ok sc_Span___call__ (fun vs H Q E h => ?_) (fun cdv A outer s H vs Q E hr h => ?_)
  · obtain ⟨a, h, m, o, v, rfl, _⟩ := h
    rfl
  · obtain ⟨a, h, m, o, v, rfl, sa, hh, ho, kd, q, x⟩ := h
    obtain ⟨dx, t, h1, h2⟩ := id sa
    refine ⟨_, (pss_cons (ps_expr (pe_g (PromO.call GNL (hr.mono (by decide)) (pass_on rfl rfl rfl rfl)) (by rfl) T.g_need_length T.k_need_length (pa_cons (pv 1) pa_nil)))
      (pss_one (ps_ret (pe_m (pv 0) T.cl_Span T.mt_Span_number_at (PromO.call GAt (hr.mono (by decide)) pass0) (pa_cons (pv 1) pa_nil))))), ?_⟩
    refine ⟨_, rfl, v, rfl, kd, fun e => ?_, x⟩
    obtain ⟨n, rfl, n1, n2⟩ := within_int e
    exact ⟨_, rfl, a, dx, _, rfl, h1, no_field (by decide +kernel), _, rfl, ⟨a, h, m, o, n, rfl, sa, hh, ho, q n rfl n1 n2⟩⟩
/-- one.is_odd(v) -/
def spIsOdd (C B : Addr) : Sp := fun vs H Q E => ∃ (a : Addr) (h m o : Int) (v : V), vs = [.ref a, v] ∧ SpanAt C H a h m o ∧ (-1000 ≤ h ∧ h ≤ 1000) ∧ (-1000 ≤ o ∧ o ≤ 1000) ∧ Kd H v ∧ (∀ n, v = .int n → 0 ≤ n → n ≤ 3 → Q (.bl (decide (V.int (numA h m o (n + 4) % 2) = V.int 1))) H) ∧
  (withinV v 0 3 = false → ∀ d H', L2.Same H H' → H d = none → H' d = some (.xd [("value", v)]) → E (.ref B) (some d) H')
abbrev N_Span_is_odd : List Str := ["self", "rest"]
theorem sc_Span_is_odd : FnScope N_Span_is_odd ["self", "rest"] (defScope s_Span_is_odd) := ⟨rfl, rfl, rfl, by decide +kernel, rfl, by decide +kernel, by decide +kernel⟩
theorem ok_isodd (F : FnA K d_Span_is_odd fd) (T : Tx K mg) (GNR : Px P w K mg base 4 (gd "need_rest" K) [] (spNeed (gd "BadRest" K) 0 3)) (GAt : Pm P w K mg base 3 (md "Span" "number_at" K) [] (spAt (gd "Span" K))) : FnOk P w K mg base (L2.CX P w) 5 (d_Span_is_odd.adr K) fd ["self", "rest"] (spIsOdd (gd "Span" K) (gd "BadRest" K)) := by
  refine F.ok sc_Span_is_odd (fun vs H Q E h => ?_) (fun cdv A outer s H vs Q E hr h => ?_)
  · obtain ⟨a, h, m, o, v, rfl, _⟩ := h
    rfl
  · obtain ⟨a, h, m, o, v, rfl, sa, hh, ho, kd, q, x⟩ := h
    obtain ⟨dx, t, h1, h2⟩ := id sa
    refine ⟨_, (pss_cons (ps_expr (pe_g (PromO.call GNR (hr.mono (by decide)) (pass_on rfl rfl rfl rfl)) (by rfl) T.g_need_rest T.k_need_rest (pa_cons (pv 1) pa_nil)))
      (pss_one (ps_ret (pe_cmpR op_eq (pe_op op_mod (pe_m (pv 0) T.cl_Span T.mt_Span_number_at (PromO.call GAt (hr.mono (by decide)) pass0) (pa_cons (pe_op op_add (pv 1) (pe_gi T.m_CLASSES (by rfl))) pa_nil)) pe_int) pe_int (nomark _))))), ?_⟩
    refine ⟨_, rfl, v, rfl, kd, fun e => ?_, x⟩
    obtain ⟨n, rfl, n1, n2⟩ := within_int e
    refine ⟨_, rfl, a, dx, _, rfl, h1, no_field (by decide +kernel), _, rfl, _, _, rfl, rfl, ⟨a, h, m, o, n + 4, rfl, sa, hh, ho, _, _, rfl, rfl, (by show (0 : Int) < 2; decide), ?_⟩⟩
    exact ⟨rfl, q n rfl n1 n2⟩
end
end Lw

set_option Elab.async false
set_option linter.all false
set_option maxRecDepth 100000
set_option maxHeartbeats 4000000
namespace Lw
open PySem PySem.Spec PyProof.Rows L2 Gh
section
variable {P : Program} {w : World} {K : PySem.W.Frag} {mg : Str → Option Value} {base : Heap} {f : Addr} {fd : FuncData}
/-! ### the law's helpers -/
/-- the parts of a drawn span -/
def spSpan : Sp := fun vs H Q _ => ∃ (p : Addr) (b : Nat), vs = [.ref p] ∧ PenAt H p (b + 3) ∧ ∀ (l : Addr) (h m o : Int) (H' : Hp), H l = none → l ≠ p → (0 ≤ h ∧ h ≤ 4) → (-30 ≤ m ∧ m ≤ 30) → (-4 ≤ o ∧ o ≤ 4) → PenAt H' p b → Keep H H' p → H' l = some (.lst [.int h, .int m, .int o]) → Q (.ref l) H'
abbrev N__law_span : List Str := ["_law_pen_here"]
theorem sc__law_span : FnScope N__law_span ["_law_pen_here"] (defScope s__law_span) := ⟨rfl, rfl, rfl, by decide +kernel, rfl, by decide +kernel, by decide +kernel⟩
theorem ok_lspan (F : FnA K d__law_span fd) (T : Tx K mg) (GD : Pm P w K mg base 1 (gd "_law_draw" K) [] spDraw) : FnOk P w K mg base CX0 2 (d__law_span.adr K) fd ["_law_pen_here"] spSpan := by
  refine fnO0 F sc__law_span (fun vs H Q E h => ?_) (fun cdv A outer s H vs Q E hr h => ?_)
  · obtain ⟨p, b, rfl, _⟩ := h
    rfl
  · obtain ⟨p, b, rfl, pn1, q⟩ := h
    refine ⟨_, (pss_one (ps_ret (pe_lst (pa_cons (pe_g (PromO.call GD (hr.mono (by decide)) pass0) (by rfl) T.g__law_draw T.k__law_draw (pa_cons (pv 0) (pa_cons pe_int pa_nil))) (pa_cons (pe_op op_sub (pe_g (PromO.call GD (hr.mono (by decide)) pass0) (by rfl) T.g__law_draw T.k__law_draw (pa_cons (pv 0) (pa_cons pe_int pa_nil))) pe_int) (pa_cons (pe_op op_sub (pe_g (PromO.call GD (hr.mono (by decide)) pass0) (by rfl) T.g__law_draw T.k__law_draw (pa_cons (pv 0) (pa_cons pe_int pa_nil))) pe_int) pa_nil)))))), ?_⟩
    refine ⟨_, rfl, ⟨p, b + 2, 5, rfl, by decide, by decide, pn1, fun d1 H2 a1 b1 pn2 k2 => ?_⟩⟩
    refine ⟨_, rfl, ⟨p, b + 1, 61, rfl, by decide, by decide, pn2, fun d2 H3 a2 b2 pn3 k3 => ⟨_, _, rfl, rfl, ?_⟩⟩⟩
    refine ⟨_, rfl, ⟨p, b, 9, rfl, by decide, by decide, pn3, fun d3 H4 a3 b3 pn4 k4 => ⟨_, _, rfl, rfl, by show 3 ≤ sizeLine; decide, fun l nl => ?_⟩⟩⟩
    have kk := k2.trans (k3.trans k4)
    have nl0 : H l = none := by
      cases e : H l with
      | none => rfl
      | some o => rw [kk l o e (pn4.ne nl)] at nl; cases nl
    exact q l d1 (d2 - 30) (d3 - 4) _ nl0 (pn4.ne nl) ⟨by omega, by omega⟩ ⟨by omega, by omega⟩ ⟨by omega, by omega⟩ (pn4.new nl) (kk.new nl) upd_same
/-- a span's number at a length -/
def num (h m o n : Int) : Int := h * (n / 2) + m + o * (n % 2)
theorem numA_eq (h m o n : Int) : numA h m o n = num h m o n := by
  unfold numA num
  omega
def spNumber (K : PySem.W.Frag) : Sp := fun vs H Q _ => ∃ (l : Addr) (h m o n : Int), vs = [.ref l, .int n] ∧ H l = some (.lst [.int h, .int m, .int o]) ∧ (-1000 ≤ h ∧ h ≤ 1000) ∧ (-1000 ≤ o ∧ o ≤ 1000) ∧ Q (.int (num h m o n)) H
abbrev N__law_number : List Str := ["_law_parts", "_law_n"]
theorem sc__law_number : FnScope N__law_number ["_law_parts", "_law_n"] (defScope s__law_number) := ⟨rfl, rfl, rfl, by decide +kernel, rfl, by decide +kernel, by decide +kernel⟩
theorem ok_number (F : FnA K d__law_number fd) (T : Tx K mg) : FnOk P w K mg base CX0 1 (d__law_number.adr K) fd ["_law_parts", "_law_n"] (spNumber K) := by
  refine fnO0 F sc__law_number (fun vs H Q E h => ?_) (fun cdv A outer s H vs Q E hr h => ?_)
  · obtain ⟨l, h, m, o, n, rfl, _⟩ := h
    rfl
  · obtain ⟨l, h, m, o, n, rfl, hL, hh, ho, q⟩ := h
    refine ⟨_, (pss_one (ps_ret (pe_op op_add (pe_op op_add (pe_op op_mul (pe_ix (ix_listK (K := K) rfl) (pv 0) pe_int (fun _ _ => rfl)) (pe_op op_fdivW (pv 1) pe_int)) (pe_ix (ix_listK (K := K) rfl) (pv 0) pe_int (fun _ _ => rfl))) (pe_op op_mul (pe_ix (ix_listK (K := K) rfl) (pv 0) pe_int (fun _ _ => rfl)) (pe_op op_mod (pe_callTy call_int1 (by rfl) T.f_int (by decide +kernel) (pa_cons (pv 1) pa_nil)) pe_int))))), ?_⟩
    refine ⟨_, rfl, l, _, _, .int h, rfl, rfl, SqL.of hL, rfl, _, rfl, _, _, rfl, rfl, ⟨by decide, by decide⟩, _, _, rfl, rfl, .inl ⟨by omega, by omega⟩, ?_⟩
    refine ⟨_, rfl, l, _, _, .int m, rfl, rfl, SqL.of hL, rfl, _, _, rfl, rfl, ?_⟩
    refine ⟨_, rfl, l, _, _, .int o, rfl, rfl, SqL.of hL, rfl, _, rfl, .inl ⟨_, rfl, _, _, rfl, rfl, (by show (0 : Int) < 2; decide), _, _, rfl, rfl, .inl ⟨by omega, by omega⟩, _, _, rfl, rfl, ?_⟩⟩
    exact q
/-- drawn lengths -/
def spLengths : Sp := fun vs H Q _ => ∃ (p : Addr) (b : Nat), vs = [.ref p] ∧ PenAt H p (b + 2) ∧ ∀ (l : Addr) (ns : List Int) (H' : Hp), l ≠ p → (∀ n ∈ ns, 1 ≤ n ∧ n ≤ 10 ^ 40) → PenAt H' p b → Keep H H' p → H' l = some (.lst (ns.map V.int)) → Q (.ref l) H'
abbrev N__law_lengths : List Str := ["_law_pen_here", "_law_far"]
theorem sc__law_lengths : FnScope N__law_lengths ["_law_pen_here"] (defScope s__law_lengths) := ⟨rfl, rfl, rfl, by decide +kernel, rfl, by decide +kernel, by decide +kernel⟩
theorem ok_lengths (F : FnA K d__law_lengths fd) (T : Tx K mg) (GD : Pm P w K mg base 1 (gd "_law_draw" K) [] spDraw) : FnOk P w K mg base CX0 2 (d__law_lengths.adr K) fd ["_law_pen_here"] spLengths := by
  refine fnO0 F sc__law_lengths (fun vs H Q E h => ?_) (fun cdv A outer s H vs Q E hr h => ?_)
  · obtain ⟨p, b, rfl, _⟩ := h
    rfl
  · obtain ⟨p, b, rfl, pn1, q⟩ := h
    have e39 : (10 : Int) ^ (39 : Int).toNat = 1000000000000000000000000000000000000000 := by decide
    have e30 : (10 : Int) ^ (30 : Int).toNat = 1000000000000000000000000000000 := by decide
    have e40 : (10 : Int) ^ (40 : Int).toNat = 10000000000000000000000000000000000000000 := by decide
    have e40' : (10 : Int) ^ 40 = 10000000000000000000000000000000000000000 := by decide
    refine ⟨_, (pss_cons (ps_set (i := 1) sc__law_lengths.nd rfl (.inl rfl) (pe_op op_add (pe_op op_pow pe_int pe_int) (pe_g (PromO.call GD (hr.mono (by decide)) pass0) (by rfl) T.g__law_draw T.k__law_draw (pa_cons (pv 0) (pa_cons (pe_op op_pow pe_int pe_int) pa_nil)))))
      (pss_one (ps_ret (pe_lst (pa_cons pe_int (pa_cons pe_int (pa_cons pe_int (pa_cons (pe_op op_add pe_int (pe_g (PromO.call GD (hr.mono (by decide)) pass0) (by rfl) T.g__law_draw T.k__law_draw (pa_cons (pv 0) (pa_cons pe_int pa_nil)))) (pa_cons (pe_op op_pow pe_int pe_int) (pa_cons (pv 1) (pa_cons (pe_op op_add (pv 1) pe_int) pa_nil))))))))))), ?_⟩
    refine ⟨_, _, rfl, rfl, ⟨by decide, by decide, by decide⟩, _, rfl, _, _, rfl, rfl, ⟨by decide, by decide, by decide⟩, ⟨p, b + 1, _, rfl, by decide, by decide, pn1, fun d1 H2 a1 b1 pn2 k2 => ⟨_, _, rfl, rfl, ?_⟩⟩⟩
    refine ⟨_, rfl, ⟨p, b, 90, rfl, by decide, by decide, pn2, fun d2 H3 a2 b2 pn3 k3 => ⟨_, _, rfl, rfl, _, _, rfl, rfl, ⟨by decide, by decide, by decide⟩, _, rfl, _, rfl, _, _, rfl, rfl, by show 7 ≤ sizeLine; decide, fun l nl => ?_⟩⟩⟩
    refine q l [1, 2, 3, 4 + d2, 10 ^ (40 : Int).toNat, 10 ^ (39 : Int).toNat + d1, 10 ^ (39 : Int).toNat + d1 + 1] _ (pn3.ne nl) (fun n hn => ?_) (pn3.new nl) ((k2.trans k3).new nl) upd_same
    rw [e40', e40, e39] at *
    rw [e30] at b1
    simp only [List.mem_cons, List.mem_nil_iff, or_false] at hn
    rcases hn with rfl | rfl | rfl | rfl | rfl | rfl | rfl <;> constructor <;> omega
/-! ### what is heard -/
/-- of an error: its class's word and what its value shows -/
def THeard (K : PySem.W.Frag) (BL BR : Addr) : (XK → Hp → VK → Prop) → Hp → VK → Prop := fun tl H Q =>
  tl (fun cls d H' => ∃ (C dd : Addr) (v : V) (t k : Str), cls = .ref C ∧ d = some dd ∧ H' dd = some (.xd [("value", v)]) ∧ (C = BL ∧ k = "length" ∨ C = BR ∧ k = "rest") ∧ Shw K H' v t ∧ ∀ (x : Addr) (H'' : Hp), L2.Same H' H'' → H'' x = some (.tup [.str k, .str t]) → Q (.ref x) H'') H
    (fun v H' => 2 ≤ sizeLine ∧ ∀ x, H' x = none → Q (.ref x) (upd H' x (.tup [.str "told", v])))
abbrev N__law_heard : List Str := ["_law_ask", "_law_caught", "error"]
theorem sc__law_heard : FnScope N__law_heard ["_law_ask"] (defScope s__law_heard) := ⟨rfl, rfl, rfl, by decide +kernel, rfl, by decide +kernel, by decide +kernel⟩
theorem takes_len {X : Cx} {W : WX} (t : Takes X W) : Takes X (fun c d σ H => σ.length = X.N.length → W c d σ H) := fun u s' ⟨a, B, sI, pins, σ, H, cls, d, e, I, nb, up, sky, na, os, ag, w⟩ =>
  t u s' ⟨a, B, sI, pins, σ, H, cls, d, e, I, nb, up, sky, na, os, ag, w I.len⟩
theorem heard_gives {X : Cx} (T : Tx X.K X.mg) (hu : X.A.units + 105 < cLine) (hg : X.A.guards = some []) {g : Addr} {cdv : Value} {q : Str} :
    LamX.GivesTo X N__law_heard "_law_heard" (defScope s__law_heard) g cdv (defBody s__law_heard) "_law_ask" q (THeard X.K (gd "BadLength" X.K) (gd "BadRest" X.K)) := by
  intro f c' s H Q tl act hc h
  have hu' : X.A.units + 3 + 102 < cLine := by omega
  refine ⟨_, pss_cons (ps_set (i := 1) sc__law_heard.nd rfl (.inl rfl) pe_non) (pss_cons (ps_try_keep (X := (cxOf C8.CX0 X.prog X.w X.K X.mg X.base N__law_heard "_law_heard" (defScope s__law_heard) g cdv X.A X.stack s H C8.E0).nox) (i := 2) (c := .ref (gd "HuntError" X.K))
      (tb := fun W D σ H => ∃ Ech : XK, (∀ cls d σ' H', Ech cls d H' → σ'.length = 3 → W cls d σ' H') ∧ σ[0]? = some (some (.ref f)) ∧ H c' = some (LamX.CodeO c' q) ∧ tl Ech H (fun v H1 => 2 ≤ sizeLine ∧ ∀ t, H1 t = none → D.rt (.ref t) (upd H1 t (.tup [.str "told", v]))))
      rfl rfl rfl sc__law_heard.nd rfl rfl ⟨rfl, by decide, .inl T.g_HuntError⟩ LamX.takes0 (fun W pn xe tk _ => ?_) (fun a oe cls d pn _ _ => pss_one (ps_set (i := 1) sc__law_heard.nd rfl (.inl rfl) (pv 2))))
      (pss_cons (ps_if (pt_val (pe_callB (call_isiZ (K := X.K) rfl) (by rfl) T.f_isinstance (by decide +kernel) (pa_cons (pv 1) (pa_cons (pe_glob (v := .ref _) rfl T.g_BadLength rfl) pa_nil))))
        (pss_one (ps_ret (pe_tup (pa_cons pe_str (pa_cons (pe_callB (call_show (K := X.K) rfl hu' hg) (by rfl) T.f_repr (by decide +kernel) (pa_cons (pe_xa (K := X.K) rfl (pv 1)) pa_nil)) pa_nil))))) pss_nil)
      (pss_one (ps_ret (pe_ifExp (pt_val (pe_callB (call_isiZ (K := X.K) rfl) (by rfl) T.f_isinstance (by decide +kernel) (pa_cons (pv 1) (pa_cons (pe_glob (v := .ref _) rfl T.g_BadRest rfl) pa_nil))))
        (pe_tup (pa_cons pe_str (pa_cons (pe_callB (call_show (K := X.K) rfl hu' hg) (by rfl) T.f_repr (by decide +kernel) (pa_cons (pe_xa (K := X.K) rfl (pv 1)) pa_nil)) pa_nil))) pe_str))))), ?_⟩
  · refine ⟨fun pins s' σ H' D I h' => ?_⟩
    obtain ⟨Ech, hW, h1, h2, h3⟩ := h'
    exact (pss_one (ps_ret (pe_tup (pa_cons pe_str (pa_cons (act _ pn xe Ech _ _ (takes_len tk) (fun cls d σ' H' e l => hW cls d σ' H' e l)) pa_nil))))).run pins s' σ H' D I ⟨h1, h2, h3⟩
  · refine ⟨fun cls d H' => ∃ (C dd : Addr) (v : V) (t k : Str), cls = .ref C ∧ d = some dd ∧ H' dd = some (.xd [("value", v)]) ∧ (C = gd "BadLength" X.K ∧ k = "length" ∨ C = gd "BadRest" X.K ∧ k = "rest") ∧ Shw X.K H' v t ∧ ∀ (x : Addr) (H'' : Hp), L2.Same H' H'' → H'' x = some (.tup [.str k, .str t]) → Q (.ref x) H'', ?_, rfl, hc, ?_⟩
    · rintro cls d σ' H' ⟨C, dd, v, t, k, rfl, rfl, hd, hC, sh, q⟩ hl
      obtain ⟨x0, x1, x2, rfl⟩ : ∃ x0 x1 x2, σ' = [x0, x1, x2] := by
        match σ', hl with
        | [a, b, c], _ => exact ⟨a, b, c, rfl⟩
      have ex : PySem.W.exmOne X.K (.ref C) (.ref (gd "HuntError" X.K)) = some true := by
        rcases hC with ⟨rfl, _⟩ | ⟨rfl, _⟩
        · exact T.xh_BadLength
        · exact T.xh_BadRest
      refine ⟨true, ex, fun _ => ⟨C, dd, rfl, rfl, fun a na => ?_⟩, fun z => by cases z⟩
      refine ⟨_, rfl, fun na' => ?_⟩
      have nda : dd ≠ a := ne_of_none hd na
      have s1 : L2.Same H' (upd H' a (exk a C dd)) := same_new na
      have hd1 : (upd H' a (exk a C dd)) dd = some (.xd [("value", v)]) := s1 _ _ hd
      rcases hC with ⟨rfl, rfl⟩ | ⟨rfl, rfl⟩
      · refine ⟨_, rfl, .inr ⟨a, _, dd, _, _, _, true, rfl, .own _, upd_same, hd1, T.er_BadLength, T.ki_BadLength_BadLength, _, rfl, iteT ?_⟩⟩
        refine ⟨_, rfl, a, _, dd, _, v, rfl, upd_same, T.er_BadLength, T.n_BadLength_value, hd1, rfl, rShow_of (sh.same s1) ⟨by show 2 ≤ sizeLine; decide, fun x nx => ?_⟩⟩
        exact q x _ (s1.trans (same_new nx)) upd_same
      · refine ⟨_, rfl, .inr ⟨a, _, dd, _, _, _, false, rfl, .own _, upd_same, hd1, T.er_BadRest, T.ki_BadRest_BadLength, _, rfl, iteF ?_⟩⟩
        refine ⟨_, rfl, .inr ⟨a, _, dd, _, _, _, true, rfl, .own _, upd_same, hd1, T.er_BadRest, T.ki_BadRest_BadRest, _, rfl, iteT ?_⟩⟩
        refine ⟨_, rfl, a, _, dd, _, v, rfl, upd_same, T.er_BadRest, T.n_BadRest_value, hd1, rfl, rShow_of (sh.same s1) ⟨by show 2 ≤ sizeLine; decide, fun x nx => ?_⟩⟩
        exact q x _ (s1.trans (same_new nx)) upd_same
    · exact h
end
end Lw

set_option Elab.async false
set_option linter.all false
set_option maxRecDepth 100000
set_option maxHeartbeats 4000000
namespace Lw
open PySem PySem.Spec PyProof.Rows L2 Gh
/-! ### the numbers -/
theorem num_whole {k m n : Int} (h0 : 0 ≤ k) (h1 : k ≤ 2) : numA (2 * k) m k n = k * n + m := by
  unfold numA
  obtain rfl | rfl | rfl : k = 0 ∨ k = 1 ∨ k = 2 := by omega
  · omega
  · omega
  · omega
theorem num_sum (h m o h' m' o' n : Int) : numA (h + 1 * h') (m + 1 * m') (o + 1 * o') n = num h m o n + num h' m' o' n := by
  unfold numA num
  rw [Int.one_mul, Int.one_mul, Int.one_mul, Int.add_mul, Int.add_mul]
  omega
theorem num_diff (h m o h' m' o' n : Int) : numA (h + -1 * h') (m + -1 * m') (o + -1 * o') n = num h m o n - num h' m' o' n := by
  unfold numA num
  rw [Int.neg_mul, Int.neg_mul, Int.neg_mul, Int.one_mul, Int.one_mul, Int.one_mul, Int.add_mul, Int.add_mul, Int.neg_mul, Int.neg_mul]
  omega
theorem num_seven (h m o n : Int) : numA (h + 1 * 0) (m + 1 * 7) (o + 1 * 0) n = num h m o n + 7 := by
  unfold numA num
  rw [Int.mul_zero, Int.add_zero, Int.add_zero]
  omega
theorem num_times (h m o k n : Int) : numA (h * k) (m * k) (o * k) n = k * num h m o n := by
  unfold numA num
  rw [Int.mul_comm h k, Int.mul_comm o k, Int.mul_comm m k, Int.mul_assoc, Int.mul_assoc, Int.mul_add, Int.mul_add]
  omega
theorem num_odd (h m o n : Int) : numA h m o (n % 4 + 4) % 2 = num h m o n % 2 := by
  unfold numA num
  have e1 : n / 2 = 2 * (n / 4) + n % 4 / 2 := by omega
  have e2 : (n % 4 + 4) / 2 = 2 * 1 + n % 4 / 2 := by omega
  have e3 : (n % 4 + 4) % 2 = n % 2 := by omega
  rw [e1, e2, e3, Int.mul_add, Int.mul_add, Int.mul_left_comm, Int.mul_left_comm h 2 (n / 4)]
  omega
theorem num_lt {h m o n : Int} (h0 : 0 ≤ h) (h1 : h ≤ 8) (m0 : -60 ≤ m) (m1 : m ≤ 60) (o0 : -9 ≤ o) (o1 : o ≤ 9) (n0 : 1 ≤ n) (n1 : n ≤ 10 ^ 40) : -(10 ^ 45) < num h m o n ∧ num h m o n < 10 ^ 45 := by
  unfold num
  have q0 : 0 ≤ n / 2 := by omega
  have q1 : n / 2 ≤ 10 ^ 40 := by omega
  have p0 : 0 ≤ h * (n / 2) := Int.mul_nonneg h0 q0
  have p1 : h * (n / 2) ≤ 8 * 10 ^ 40 := Int.mul_le_mul h1 q1 q0 (by decide)
  have e : o * (n % 2) = 0 ∨ o * (n % 2) = o := by
    rcases Int.emod_two_eq n with e | e
    · rw [e]
      exact .inl (Int.mul_zero o)
    · rw [e]
      exact .inr (Int.mul_one o)
  constructor <;> omega
theorem eqv_pair (a b : Str) : PyData.eqv (.tuple [.str a, .str b]) (.tuple [.str a, .str b]) = true := by
  simp [PyData.eqv, PyData.eqvAll]
theorem shaped_pair {a b : Str} (ha : PyData.strOk a = true) (hb : PyData.strOk b = true) : SeqAt.shaped (.tuple [.str a, .str b]) = true := by
  show ((PyData.strOk a && (PyData.strOk b && true)) && _) = true
  rw [ha, hb]
  rfl
/-- what is passed and no length, no rest: its kind, what it shows -/
structure OddV (K : PySem.W.Frag) (H : Hp) (lo hi : Int) (x : V) (t : Str) : Prop where
  kd : Kd H x
  no : withinV x lo hi = false
  sh : Shw K H x t
  ok : PyData.strOk t = true
theorem OddV.extN {K : PySem.W.Frag} {H H' : Hp} {lo hi : Int} {x : V} {t : Str} (o : OddV K H lo hi x t) (s : LamX.ExtN H H') : OddV K H' lo hi x t := ⟨o.kd.extN s, o.no, o.sh.extN s, o.ok⟩
theorem SpanAt.extN {C : Addr} {H H' : Hp} {a : Addr} {h m o : Int} (k : SpanAt C H a h m o) (s : LamX.ExtN H H') : SpanAt C H' a h m o := by
  obtain ⟨dx, t, h1, h2⟩ := k
  exact ⟨dx, t, s _ _ h1 (fun _ z => by cases z), s _ _ h2 (fun _ z => by cases z)⟩
/-! ### steps of the law -/
theorem SpanAt.ins {C : Addr} {H : Hp} {a : Addr} {h m o : Int} (k : SpanAt C H a h m o) : ∃ dx fs, H a = some (.ins C dx fs) := by
  obtain ⟨dx, t, h1, h2⟩ := k
  exact ⟨dx, _, h1⟩
theorem call_yes {C B a : Addr} {h m o n z : Int} {H : Hp} {Q : VK} {E : XK} (sa : SpanAt C H a h m o) (hh : 0 ≤ h ∧ h ≤ 8) (ho : -9 ≤ o ∧ o ≤ 9) (n0 : 1 ≤ n) (n1 : n ≤ 10 ^ 40) (e : numA h m o n = z) (q : Q (.int z) H) : spCall C B [.ref a, .int n] H Q E := by
  refine ⟨a, h, m, o, .int n, rfl, sa, by omega, by omega, .int n, fun n' en _ _ => ?_, fun z => ?_⟩
  · cases en
    rw [e]
    exact q
  · rw [within_yes ⟨n0, n1⟩] at z
    cases z
theorem odd_yes {C B a : Addr} {h m o n z : Int} {H : Hp} {Q : VK} {E : XK} (sa : SpanAt C H a h m o) (hh : 0 ≤ h ∧ h ≤ 8) (ho : -9 ≤ o ∧ o ≤ 9) (n0 : 0 ≤ n) (n1 : n ≤ 3) (e : numA h m o (n + 4) % 2 = z) (q : Q (.bl (decide (V.int z = V.int 1))) H) : spIsOdd C B [.ref a, .int n] H Q E := by
  refine ⟨a, h, m, o, .int n, rfl, sa, by omega, by omega, .int n, fun n' en _ _ => ?_, fun z => ?_⟩
  · cases en
    rw [e]
    exact q
  · rw [within_yes ⟨n0, n1⟩] at z
    cases z
theorem add_yes {C a b : Addr} {g h m o h' m' o' : Int} {H : Hp} {Q : VK} {E : XK} (sa : SpanAt C H a h m o) (sb : SpanAt C H b h' m' o') (hh : 0 ≤ h + g * h' ∧ h + g * h' ≤ 8) (hm : -60 ≤ m + g * m' ∧ m + g * m' ≤ 60) (ho : -9 ≤ o + g * o' ∧ o + g * o' ≤ 9) (hg : -2 ≤ g ∧ g ≤ 2)
    (q : ∀ x H', H x = none → L2.Same H H' → SpanAt C H' x (h + g * h') (m + g * m') (o + g * o') → Q (.ref x) H') : rBin C (rSp (spAdd C g) [] E) (.ref a) (.ref b) H Q := by
  obtain ⟨dx, t, h1, _⟩ := id sa
  obtain ⟨dy, u, k1, _⟩ := id sb
  unfold rBin
  exact ⟨a, dx, _, b, dy, _, rfl, rfl, h1, k1, .ref a, .ref b, rfl, a, h, m, o, .ref b, h', m', o', g, rfl, sa, .inr ⟨b, rfl, sb⟩, hh, hm, ho, hg, q⟩
theorem addI_yes {C a : Addr} {h m o k : Int} {H : Hp} {Q : VK} {E : XK} (sa : SpanAt C H a h m o) (hh : 0 ≤ h + 1 * 0 ∧ h + 1 * 0 ≤ 8) (hm : -60 ≤ m + 1 * k ∧ m + 1 * k ≤ 60) (ho : -9 ≤ o + 1 * 0 ∧ o + 1 * 0 ≤ 9)
    (q : ∀ x H', H x = none → L2.Same H H' → SpanAt C H' x (h + 1 * 0) (m + 1 * k) (o + 1 * 0) → Q (.ref x) H') : rBinI C (rSp (spAdd C 1) [] E) (.ref a) (.int k) H Q := by
  obtain ⟨dx, t, h1, _⟩ := id sa
  unfold rBinI
  exact ⟨a, dx, _, k, rfl, rfl, h1, .ref a, .int k, rfl, a, h, m, o, .int k, 0, k, 0, 1, rfl, sa, .inl ⟨rfl, rfl, rfl⟩, hh, hm, ho, ⟨by decide, by decide⟩, q⟩
theorem mul_yes {C a : Addr} {h m o k : Int} {H : Hp} {Q : VK} {E : XK} (sa : SpanAt C H a h m o) (hh : 0 ≤ h * k ∧ h * k ≤ 8) (hm : -60 ≤ m * k ∧ m * k ≤ 60) (ho : -9 ≤ o * k ∧ o * k ≤ 9) (hk : -9 ≤ k ∧ k ≤ 9)
    (q : ∀ x H', H x = none → L2.Same H H' → SpanAt C H' x (h * k) (m * k) (o * k) → Q (.ref x) H') : rRmul C (rSp (spTimes C) [] E) (.int k) (.ref a) H Q := by
  obtain ⟨dx, t, h1, _⟩ := id sa
  unfold rRmul
  exact ⟨a, dx, _, k, rfl, rfl, h1, a, h, m, o, k, rfl, sa, hh, hm, ho, hk, q⟩
theorem times_in {h k a b : Int} (k0 : 0 ≤ k) (k2 : k ≤ 2) (h0 : -a ≤ h) (h1 : h ≤ b) (ha : 0 ≤ a) (hb : 0 ≤ b) : -(2 * a) ≤ h * k ∧ h * k ≤ 2 * b := by
  obtain rfl | rfl | rfl : k = 0 ∨ k = 1 ∨ k = 2 := by omega
  · omega
  · omega
  · omega
theorem ne_self (v : V) : (!decide (v = v)) = false := by simp
end Lw

set_option Elab.async false
set_option linter.all false
set_option maxRecDepth 100000
set_option maxHeartbeats 8000000
set_option pp.maxSteps 150
namespace Lw
open PySem PySem.Spec PyProof.Rows L2 Gh
section
variable {P : Program} {w : World} {K : PySem.W.Frag} {mg : Str → Option Value} {base : Heap} {f : Addr} {fd fdH : FuncData}
def spLaw (K : PySem.W.Frag) (Tb : Addr) : Sp := fun vs H Q _ => ∃ (a : Addr) (ns : List Int), vs = [.ref a] ∧ SqL K H a (ns.map V.int) ∧ ns.length ≤ 63 ∧ H Tb = some (.tbl #[]) ∧ ∀ H', Q (.bl true) H'
abbrev N_law : List Str := ["_law_script", "_law_pen_here", "_law_turn", "_law_k", "_law_one", "_law_other", "_law_whole", "_law_n", "_law_odd", "_law_parts", "_law_others", "_law_due", "_law_more", "_law_shown"]
theorem sc_law : FnScope N_law ["_law_script"] (defScope s_law) := ⟨rfl, rfl, rfl, by decide +kernel, rfl, by decide +kernel, by decide +kernel⟩
theorem ok_law (F : FnA K d_law fd) (FH : FnA K d__law_heard fdH) (hbH : L2.Binds K fdH ["_law_ask"] []) (T : Tx K mg) (TB : LamX.TabB base mg (He.cT K ("law", none)).1 (He.cT K ("law", none)).2)
    (GP : Pm P w K mg base 1 (gd "_law_pen" K) [] (spPen K)) (GD : Pm P w K mg base 1 (gd "_law_draw" K) [] spDraw) (GLs : Pm P w K mg base 2 (gd "_law_span" K) [] spSpan) (GLn : Pm P w K mg base 2 (gd "_law_lengths" K) [] spLengths) (GN : Pm P w K mg base 1 (gd "_law_number" K) [] (spNumber K))
    (GS : Pm P w K mg base 3 (md "Span" "__init__" K) [] (spInit (gd "Span" K))) (GWh : Pm P w K mg base 5 (staG "Span" "whole" K) [] (spWhole (gd "Span" K))) (GA : Pm P w K mg base 6 (md "Span" "__add__" K) [] (spAdd (gd "Span" K) 1)) (GB : Pm P w K mg base 6 (md "Span" "__sub__" K) [] (spAdd (gd "Span" K) (-1)))
    (GM2 : Pm P w K mg base 5 (md "Span" "__rmul__" K) [] (spTimes (gd "Span" K))) (GC : Px P w K mg base 5 (md "Span" "__call__" K) [] (spCall (gd "Span" K) (gd "BadLength" K))) (GIo : Px P w K mg base 5 (md "Span" "is_odd" K) [] (spIsOdd (gd "Span" K) (gd "BadRest" K))) :
    FnG P w K mg base CX0 10 (d_law.adr K) fd ["_law_script"] (spLaw K (He.cT K ("law", none)).2) := by
  obtain ⟨ocH, odH, dVH, kVH, docH, pmH, anH, cdvH, ctH, oslH, rfl, lkH, hcH, _, _⟩ := FH.ex
  have ecode : fd.code = .ref (He.cT K ("law", none)).1 := codeOf_fn (p := ("law", none)) F
  obtain ⟨TT, eTT⟩ : ∃ TT : List (Addr × Str), TT = [((He.cT K ("law", none)).2, (envOfC d_law.qual (defScope s_law) 0 (d_law.adr K) .none).qual ++ "<lambda>")] := ⟨_, rfl⟩
  have hTT : ∀ p ∈ TT, p.1 = (He.cT K ("law", none)).2 → p.2 = (envOfC d_law.qual (defScope s_law) 0 (d_law.adr K) .none).qual ++ "<lambda>" := fun p hp _ => by
    rw [eTT] at hp
    rw [List.mem_singleton.mp hp]
  have hmT : ((He.cT K ("law", none)).2, (envOfC d_law.qual (defScope s_law) 0 (d_law.adr K) .none).qual ++ "<lambda>") ∈ TT := by
    rw [eTT]
    exact List.mem_singleton.mpr rfl
  refine fnG1 F sc_law (fun vs H Q E h => ?_) (fun cdv A outer s H vs Q E hcdv hr hg h => ?_)
  · obtain ⟨a, ns, rfl, _⟩ := h
    rfl
  · obtain ⟨a, ns, rfl, hS, hl, htb, q⟩ := h
    have hcode : cdv = .ref (He.cT K ("law", none)).1 := hcdv.trans ecode
    have hu105 := Nat.lt_of_le_of_lt (Nat.add_le_add_left (show 105 ≤ 16 * 9 + 200 by decide) _) (show _ + (16 * 9 + 200) < cLine from hr.un)
    have hu100 := Nat.lt_of_le_of_lt (Nat.add_le_add_left (show 102 ≤ 16 * 9 + 200 by decide) _) (show _ + (16 * 9 + 200) < cLine from hr.un)
    obtain ⟨rc, erc, hrc⟩ := T.op_Span_Add.rc
    obtain ⟨fo, efo⟩ := T.op_Span_Add.fo
    obtain ⟨ro, ero⟩ := T.op_Span_Add.ro
    have tb0 : LamX.Tabs TT H := fun q hq => by
      rw [eTT] at hq
      rw [List.mem_singleton.mp hq]
      exact LamX.TabS.nil htb
    refine ⟨_, (pss_cons (ps_set (i := 1) sc_law.nd rfl (.inl rfl) (pe_g (PromO.call GP (hr.mono (by decide)) pass0) (by rfl) T.g__law_pen T.k__law_pen (pa_cons (pv 0) pa_nil)))
      (pss_cons (ps_for PassesOwn.never rfl (pi_range1 (by rfl) T.f_range (pa_cons pe_int pa_nil)) (pg_name (i := 2) sc_law.nd rfl (.inl rfl))
      (pss_cons (ps_par (i := 9) (j := 10) (by rfl) sc_law.nd rfl rfl (by decide) rfl rfl (pa_cons (pe_g (PromO.call GLs (hr.mono (by decide)) pass0) (by rfl) T.g__law_span T.k__law_span (pa_cons (pv 1) pa_nil)) (pa_cons (pe_g (PromO.call GLs (hr.mono (by decide)) pass0) (by rfl) T.g__law_span T.k__law_span (pa_cons (pv 1) pa_nil)) pa_nil)) (by rfl))
      (pss_cons (ps_set (i := 3) sc_law.nd rfl (.inl rfl) (pe_g (PromO.call GD (hr.mono (by decide)) pass0) (by rfl) T.g__law_draw T.k__law_draw (pa_cons (pv 1) (pa_cons pe_int pa_nil))))
      (pss_cons (ps_set (i := 4) sc_law.nd rfl (.inr rfl) (pe_g (PromO.make T.mk_Span GS (hr.mono (by decide)) pass0) (by rfl) T.g_Span T.k_Span (pa_cons (pe_ix (ix_listK (K := K) rfl) (pv 9) pe_int (fun _ _ => rfl)) (pa_cons (pe_ix (ix_listK (K := K) rfl) (pv 9) pe_int (fun _ _ => rfl)) (pa_cons (pe_ix (ix_listK (K := K) rfl) (pv 9) pe_int (fun _ _ => rfl)) pa_nil)))))
      (pss_cons (ps_set (i := 5) sc_law.nd rfl (.inl rfl) (pe_g (PromO.make T.mk_Span GS (hr.mono (by decide)) pass0) (by rfl) T.g_Span T.k_Span (pa_cons (pe_ix (ix_listK (K := K) rfl) (pv 10) pe_int (fun _ _ => rfl)) (pa_cons (pe_ix (ix_listK (K := K) rfl) (pv 10) pe_int (fun _ _ => rfl)) (pa_cons (pe_ix (ix_listK (K := K) rfl) (pv 10) pe_int (fun _ _ => rfl)) pa_nil)))))
      (pss_cons (ps_set (i := 6) sc_law.nd rfl (.inl rfl) (pe_sm (pe_glob (v := .ref _) rfl T.g_Span rfl) T.st_Span_whole (PromO.call GWh (hr.mono (by decide)) pass0) (pa_cons (pv 3) (pa_cons (pe_ix (ix_listK (K := K) rfl) (pv 9) pe_int (fun _ _ => rfl)) pa_nil))))
      (pss_cons (ps_for PassesOwn.never rfl (pi_list (pe_g (PromO.call GLn (hr.mono (by decide)) pass0) (by rfl) T.g__law_lengths T.k__law_lengths (pa_cons (pv 1) pa_nil))) (pg_name (i := 7) sc_law.nd rfl (.inl rfl))
      (pss_cons (ps_set (i := 11) sc_law.nd rfl (.inl rfl) (pe_g (PromO.call GN (hr.mono (by decide)) pass0) (by rfl) T.g__law_number T.k__law_number (pa_cons (pv 9) (pa_cons (pv 7) pa_nil))))
      (pss_cons (ps_set (i := 12) sc_law.nd rfl (.inl rfl) (pe_g (PromO.call GN (hr.mono (by decide)) pass0) (by rfl) T.g__law_number T.k__law_number (pa_cons (pv 10) (pa_cons (pv 7) pa_nil))))
      (pss_cons (ps_set (i := 13) sc_law.nd rfl (.inl rfl) (pe_lst (pa_cons (pe_callI (pv 4) T.co_Span GC (hr.mono (by decide)) passF (pa_cons (pv 7) pa_nil)) (pa_cons (pe_callI (pv 6) T.co_Span GC (hr.mono (by decide)) passF (pa_cons (pv 7) pa_nil)) (pa_cons (pe_callI (pe_op (op_bin T.ow_Span.first T.mt_Span___add__.at_ T.mt_Span___add__.fn (PromO.call GA (hr.mono (by decide)) pass0)) (pv 4) (pv 5)) T.co_Span GC (hr.mono (by decide)) passF (pa_cons (pv 7) pa_nil)) pa_nil)))))
      (pss_cons (ps_if (pt_cmpR op_ne (pe_callB (call_show (K := K) rfl hu100 hg) (by rfl) T.f_repr (by decide +kernel) (pa_cons (pv 13) pa_nil)) (pe_callB (call_show (K := K) rfl hu100 hg) (by rfl) T.f_repr (by decide +kernel) (pa_cons (pe_lst (pa_cons (pv 11) (pa_cons (pe_op op_add (pe_op op_mul (pv 3) (pv 7)) (pe_ix (ix_listK (K := K) rfl) (pv 9) pe_int (fun _ _ => rfl))) (pa_cons (pe_op op_add (pv 11) (pv 12)) pa_nil)))) pa_nil)) (nomark _))
      (pss_one (ps_ret pe_bl)) pss_nil)
      (pss_cons (ps_if (PW.pt (pw_or (pt_cmpR op_ne (pe_callI (pe_op (op_binI T.ow_Span.first T.mt_Span___add__.at_ T.mt_Span___add__.fn erc hrc efo ero T.ow_Span.sub (PromO.call GA (hr.mono (by decide)) pass0)) (pv 4) pe_int) T.co_Span GC (hr.mono (by decide)) passF (pa_cons (pv 7) pa_nil)) (pe_op op_add (pv 11) pe_int) (nomark _)) (pw_or1 (pt_cmpR op_ne (pe_callI (pe_op (op_rmul T.ow_Span.first T.mt_Span___mul__.at_ T.mt_Span___rmul__.at_ T.mt_Span___rmul__.fn T.si_Span (PromO.call GM2 (hr.mono (by decide)) pass0)) (pv 3) (pv 4)) T.co_Span GC (hr.mono (by decide)) passF (pa_cons (pv 7) pa_nil)) (pe_op op_mul (pv 3) (pv 11)) (nomark _)))))
      (pss_one (ps_ret pe_bl)) pss_nil)
      (pss_cons (ps_if (pt_cmpR op_ne (pe_callB (call_show (K := K) rfl hu100 hg) (by rfl) T.f_repr (by decide +kernel) (pa_cons (pe_m (pv 4) T.cl_Span T.mt_Span_is_odd (PromO.call GIo (hr.mono (by decide)) passF) (pa_cons (pe_op op_mod (pe_callTy call_int1 (by rfl) T.f_int (by decide +kernel) (pa_cons (pv 7) pa_nil)) pe_int) pa_nil)) pa_nil)) (pe_callB (call_show (K := K) rfl hu100 hg) (by rfl) T.f_repr (by decide +kernel) (pa_cons (pe_cmpR op_eq (pe_op op_mod (pe_callTy call_int1 (by rfl) T.f_int (by decide +kernel) (pa_cons (pv 11) pa_nil)) pe_int) pe_int (nomark _)) pa_nil)) (nomark _))
      (pss_one (ps_ret pe_bl)) pss_nil)
      (pss_one (ps_if (PW.pt (pw_and (pt_cmpR op_ge (pe_ix (ix_listK (K := K) rfl) (pv 9) pe_int (fun _ _ => rfl)) (pe_ix (ix_listK (K := K) rfl) (pv 10) pe_int (fun _ _ => rfl)) (nomark _)) (pw_and1 (pt_cmpR op_ne (pe_callI (pe_op (op_bin T.ow_Span.first T.mt_Span___sub__.at_ T.mt_Span___sub__.fn (PromO.call GB (hr.mono (by decide)) pass0)) (pv 4) (pv 5)) T.co_Span GC (hr.mono (by decide)) passF (pa_cons (pv 7) pa_nil)) (pe_op op_sub (pv 11) (pv 12)) (nomark _)))))
      (pss_one (ps_ret pe_bl)) pss_nil)))))))))
      (pss_cons (ps_for PassesOwn.never rfl (pi_list (pe_lst (pa_cons pe_int (pa_cons (pe_un un_neg pe_int) (pa_cons pe_non (pa_cons pe_bl (pa_cons pe_str (pa_cons (pe_op op_add (pe_op op_pow pe_int pe_int) pe_int) (pa_cons (pe_tup (pa_cons pe_int pa_nil)) (pa_cons (pe_lst pa_nil) pa_nil)))))))))) (pg_name (i := 8) sc_law.nd rfl (.inr rfl))
      (pss_one (ps_if (pt_cmpR (op_neD hr.units) (LamX.pe_lamcall (T := TT) (k := 7) (by rfl) T.g__law_heard T.k__law_heard lkH hcH hbH sc__law_heard rfl (.inl rfl) (heard_gives T hu105 hg) TB hcode hmT hTT (hr.mono (by decide)) (LamX.lamS_by (by show LamX.lamSB (defScope s_law) _ = true; decide +kernel)) rfl (fun _ _ _ _ _ => rfl) (fun A outer s H E f c' hr =>
        (pe_callI (pv 4) T.co_Span GC (hr.mono (by decide)) (pass_on rfl rfl rfl rfl) (pa_cons (pv 8) pa_nil)))) (pe_tup (pa_cons pe_str (pa_cons (pe_callB (call_show (K := K) rfl hu100 hg) (by rfl) T.f_repr (by decide +kernel) (pa_cons (pv 8) pa_nil)) pa_nil))) (nomark _))
      (pss_one (ps_ret pe_bl)) pss_nil)))
      (pss_one (ps_for PassesOwn.never rfl (pi_list (pe_lst (pa_cons pe_int (pa_cons (pe_un un_neg pe_int) (pa_cons pe_non (pa_cons pe_bl (pa_cons pe_bl (pa_cons pe_str (pa_cons (pe_op op_pow pe_int pe_int) (pa_cons (pe_lst (pa_cons pe_int pa_nil)) pa_nil)))))))))) (pg_name (i := 8) sc_law.nd rfl (.inr rfl))
      (pss_one (ps_if (pt_cmpR (op_neD hr.units) (LamX.pe_lamcall (T := TT) (k := 7) (by rfl) T.g__law_heard T.k__law_heard lkH hcH hbH sc__law_heard rfl (.inl rfl) (heard_gives T hu105 hg) TB hcode hmT hTT (hr.mono (by decide)) (LamX.lamS_by (by show LamX.lamSB (defScope s_law) _ = true; decide +kernel)) rfl (fun _ _ _ _ _ => rfl) (fun A outer s H E f c' hr =>
        (pe_m (pv 4) T.cl_Span T.mt_Span_is_odd (PromO.call GIo (hr.mono (by decide)) (pass_on rfl rfl rfl rfl)) (pa_cons (pv 8) pa_nil)))) (pe_tup (pa_cons pe_str (pa_cons (pe_callB (call_show (K := K) rfl hu100 hg) (by rfl) T.f_repr (by decide +kernel) (pa_cons (pv 8) pa_nil)) pa_nil))) (nomark _))
      (pss_one (ps_ret pe_bl)) pss_nil))))))))))))
      (pss_one (ps_ret (pe_cmpR op_eq (pe_callB (call_show (K := K) rfl hu100 hg) (by rfl) T.f_repr (by decide +kernel) (pa_cons (pe_m (pv 4) T.cl_Span T.mt_Span_is_odd (PromO.call GIo (hr.mono (by decide)) passF) (pa_cons pe_int pa_nil)) pa_nil)) (pe_callB (call_show (K := K) rfl hu100 hg) (by rfl) T.f_repr (by decide +kernel) (pa_cons (pe_cmpR op_eq (pe_op op_mod (pe_callTy call_int1 (by rfl) T.f_int (by decide +kernel) (pa_cons (pe_g (PromO.call GN (hr.mono (by decide)) pass0) (by rfl) T.g__law_number T.k__law_number (pa_cons (pv 9) (pa_cons pe_int pa_nil))) pa_nil)) pe_int) pe_int (nomark _)) pa_nil)) (nomark _)))))), ?_⟩
    -- the pen
    refine ⟨_, rfl, ⟨a, ns, rfl, hS, hl, fun p H0 np pn0 s0 => ?_⟩⟩
    -- six turns
    refine ⟨6, rfl, by decide, by decide, for_range (n := 6) (fun i σ H1 => ∃ y2 y3 y4 y5 y6 y7 y8 y9 y10 y11 y12 y13, σ = [some (.ref a), some (.ref p), y2, y3, y4, y5, y6, y7, y8, y9, y10, y11, y12, y13] ∧ PenAt H1 p (1000 - 10 * i) ∧ LamX.Tabs TT H1 ∧
        (0 < i → ∃ (one l : Addr) (h m o : Int), y4 = some (.ref one) ∧ y9 = some (.ref l) ∧ SpanAt (gd "Span" K) H1 one h m o ∧ H1 l = some (.lst [.int h, .int m, .int o]) ∧ (0 ≤ h ∧ h ≤ 8) ∧ (-9 ≤ o ∧ o ≤ 9)))
      ⟨none, none, none, none, none, none, none, none, none, none, none, none, rfl, pn0.le (by decide), tb0.ext s0, fun z => absurd z (by decide)⟩ ?_ ?_⟩
    · rintro i σ H1 hi ⟨y2, y3, y4, y5, y6, y7, y8, y9, y10, y11, y12, y13, rfl, pn, tb1, _⟩
      obtain ⟨B, hB⟩ : ∃ B, B = 1000 - 10 * (i + 1) := ⟨_, rfl⟩
      have pn1 : PenAt H1 p (B + 9) := pn.le (by omega)
      -- parts, others
      refine ⟨_, rfl, ⟨p, B + 6, rfl, pn1, fun l h m o H2 nl lp hh hm ho pn2 k2 hl2 => ?_⟩⟩
      refine ⟨_, rfl, ⟨p, B + 3, rfl, pn2, fun r h' m' o' H3 nr rp hh' hm' ho' pn3 k3 hr3 => ⟨_, _, rfl, ?_⟩⟩⟩
      have hl3 := k3 _ _ hl2 lp
      have tb3 : LamX.Tabs TT H3 := tabs_keep (tabs_keep tb1 pn1 k2) pn2 k3
      -- k
      refine ⟨_, rfl, ⟨p, B + 2, 3, rfl, by decide, by decide, pn3, fun k H4 k0 k1 pn4 k4 => ?_⟩⟩
      have hl4 := k4 _ _ hl3 lp
      have hr4 := k4 _ _ hr3 rp
      have tb4 : LamX.Tabs TT H4 := tabs_keep tb3 pn3 k4
      have hk2 : k ≤ 2 := by omega
      clear pn1 pn2 pn3 tb1 tb3 hl2 hl3 hr3 k2 k3 k4 nl nr
      -- one
      refine ⟨_, rfl, l, _, _, .int h, rfl, rfl, SqL.of hl4, rfl, _, rfl, l, _, _, .int m, rfl, rfl, SqL.of hl4, rfl, _, rfl, l, _, _, .int o, rfl, rfl, SqL.of hl4, rfl, ?_⟩
      refine mk_span (by omega) (by omega) (by omega) fun one H5 n5 s5 sp5 => ?_
      -- other
      refine ⟨_, rfl, r, _, _, .int h', rfl, rfl, SqL.of (s5 _ _ hr4), rfl, _, rfl, r, _, _, .int m', rfl, rfl, SqL.of (s5 _ _ hr4), rfl, _, rfl, r, _, _, .int o', rfl, rfl, SqL.of (s5 _ _ hr4), rfl, ?_⟩
      refine mk_span (by omega) (by omega) (by omega) fun oth H6 n6 s6 sp6 => ?_
      -- whole
      refine ⟨rfl, _, rfl, _, rfl, l, _, _, .int m, rfl, rfl, SqL.of (s6 _ _ (s5 _ _ hl4)), rfl, ⟨k, m, rfl, by omega, by omega, fun who H7 n7 s7 sp7 => ?_⟩⟩
      have s67 := s6.trans s7
      have s47 := s5.trans s67
      have hl7 := s47 _ _ hl4
      have hr7 := s47 _ _ hr4
      have so := sp5.same s67
      have st := sp6.same s7
      have pn7 := pn4.same s47
      have tb7 := tb4.ext s47
      clear sp5 sp6 pn4 tb4 hl4 hr4 n5 n6 n7
      -- the lengths
      refine ⟨_, rfl, ⟨p, B, rfl, pn7, fun L nsL H8 Lp hL pn8 k8 hL8 => ?_⟩⟩
      have hl8 := k8 _ _ hl7 lp
      have hr8 := k8 _ _ hr7 rp
      have so8 := so.keep pn7 k8
      have st8 := st.keep pn7 k8
      have sw8 := sp7.keep pn7 k8
      have tb8 : LamX.Tabs TT H8 := tabs_keep tb7 pn7 k8
      clear so st sp7 hl7 hr7 tb7 s5 s6 s7 s67 s47
      refine ⟨L, rfl, ⟨_, SqL.of hL8⟩, for_list (xs := nsL.map V.int) (fun j σ H9 => ∃ z7 z11 z12 z13, σ = [some (.ref a), some (.ref p), some (.int (0 + (i : Int))), some (.int k), some (.ref one), some (.ref oth), some (.ref who), z7, y8, some (.ref l), some (.ref r), z11, z12, z13] ∧ L2.Same H8 H9) ⟨y7, y11, y12, y13, rfl, fun _ _ e => e⟩ (fun j σ H9 _ hh => ?_) (fun j x σ H9 hx hh => ?_) (fun σ H9 hh => ?_)⟩
      · obtain ⟨_, _, _, _, _, s9⟩ := hh
        exact SqL.of (s9 _ _ hL8)
      · obtain ⟨z7, z11, z12, z13, rfl, s9⟩ := hh
        obtain ⟨n, hn, rfl⟩ : ∃ n, n ∈ nsL ∧ x = .int n := by
          obtain ⟨n, hn, e⟩ := List.mem_map.mp (List.mem_of_getElem? hx)
          exact ⟨n, hn, e.symm⟩
        obtain ⟨n0, n1⟩ := hL n hn
        have hl9 := s9 _ _ hl8
        have hr9 := s9 _ _ hr8
        have so9 := so8.same s9
        have st9 := st8.same s9
        have sw9 := sw8.same s9
        -- due, more
        refine ⟨_, rfl, _, rfl, ⟨l, h, m, o, n, rfl, hl9, by omega, by omega, ?_⟩⟩
        refine ⟨_, rfl, _, rfl, ⟨r, h', m', o', n, rfl, hr9, by omega, by omega, ?_⟩⟩
        -- shown
        refine ⟨_, rfl, one, rfl, _, rfl, so9.ins, call_yes so9 (by omega) (by omega) n0 n1 (numA_eq h m o n) ?_⟩
        refine ⟨_, rfl, who, rfl, _, rfl, sw9.ins, call_yes sw9 (by omega) (by omega) n0 n1 (num_whole k0 hk2) ?_⟩
        refine ⟨_, rfl, _, rfl, add_yes so9 st9 (by omega) (by omega) (by omega) ⟨by decide, by decide⟩ fun x1 Ha nx1 sa spa => ?_⟩
        refine ⟨x1, rfl, _, rfl, spa.ins, call_yes spa (by omega) (by omega) n0 n1 (num_sum h m o h' m' o' n) ⟨by show 3 ≤ sizeLine; decide, fun l1 nl1 => ?_⟩⟩
        obtain ⟨u1, u2⟩ := num_lt (h := h) (m := m) (o := o) (n := n) (by omega) (by omega) (by omega) (by omega) (by omega) (by omega) n0 n1
        obtain ⟨v1, v2⟩ := num_lt (h := h') (m := m') (o := o') (n := n) (by omega) (by omega) (by omega) (by omega) (by omega) (by omega) n0 n1
        have w1 := times_in (h := n) (k := k) (a := 0) (b := 10 ^ 40) k0 hk2 (by omega) n1 (by decide) (by decide)
        rw [Int.mul_comm n k] at w1
        have sl := sa.trans (same_new (o := .lst [.int (num h m o n), .int (k * n + m), .int (num h m o n + num h' m' o' n)]) nl1)
        -- repr
        refine ⟨_, rfl, rShow_of (shw3 (SqL.of upd_same) (by omega) (by omega) (by omega) (by omega) (by omega) (by omega)) ?_⟩
        refine ⟨_, rfl, _, rfl, _, rfl, _, _, rfl, rfl, .inl ⟨by omega, by omega⟩, _, rfl, l, _, _, .int m, rfl, rfl, SqL.of (sl _ _ hl9), rfl, _, _, rfl, rfl, _, rfl, _, rfl, _, _, rfl, rfl, by show 3 ≤ sizeLine; decide, fun l2 nl2 => ?_⟩
        refine rShow_of (shw3 (SqL.of upd_same) (by omega) (by omega) (by omega) (by omega) (by omega) (by omega)) ⟨rfl, _, rfl, ?_⟩
        rw [ne_self]
        refine iteF ?_
        have sb := sl.trans (same_new (o := .lst [.int (num h m o n), .int (k * n + m), .int (num h m o n + num h' m' o' n)]) nl2)
        generalize hHb : upd _ l2 _ = Hb at sb ⊢
        have sob := so9.same sb
        have stb := st9.same sb
        -- one + 7, k * one
        refine ⟨_, rfl, addI_yes sob (by omega) (by omega) (by omega) fun x2 Hc nx2 sc spc => ?_⟩
        refine ⟨x2, rfl, _, rfl, spc.ins, call_yes spc (by omega) (by omega) n0 n1 (num_seven h m o n) ⟨_, rfl, _, _, rfl, rfl, rfl, _, rfl, ?_⟩⟩
        rw [ne_self]
        refine iteF ?_
        have soc := sob.same sc
        have tk := times_in (h := h) (k := k) (a := 0) (b := 4) k0 hk2 (by omega) (by omega) (by decide) (by decide)
        have tm := times_in (h := m) (k := k) (a := 30) (b := 30) k0 hk2 (by omega) (by omega) (by decide) (by decide)
        have to_ := times_in (h := o) (k := k) (a := 4) (b := 4) k0 hk2 (by omega) (by omega) (by decide) (by decide)
        refine ⟨_, rfl, _, rfl, mul_yes soc (by omega) (by omega) (by omega) (by omega) fun x3 Hd nx3 sd spd => ?_⟩
        refine ⟨x3, rfl, _, rfl, spd.ins, call_yes spd (by omega) (by omega) n0 n1 (num_times h m o k n) ⟨_, rfl, _, rfl, _, _, rfl, rfl, .inl ⟨by omega, by omega⟩, rfl, _, rfl, ?_⟩⟩
        rw [ne_self]
        refine iteF ?_
        have sod := soc.same sd
        obtain ⟨dx, tp, d1, d2⟩ := id sod
        -- odd
        refine ⟨_, rfl, one, dx, _, rfl, d1, no_field (by decide +kernel), _, rfl, .inl ⟨_, rfl, _, _, rfl, rfl, (by show (0 : Int) < 4; decide), ?_⟩⟩
        refine ⟨one, h, m, o, .int (n % 4), rfl, sod, by omega, by omega, .int _, fun n' en _ _ => ?_, fun z => by rw [within_yes ⟨by omega, by omega⟩] at z; cases z⟩
        cases en
        rw [num_odd]
        refine rShow_of (.bl _) ?_
        refine ⟨_, rfl, .inl ⟨_, rfl, _, _, rfl, rfl, (by show (0 : Int) < 2; decide), rfl, ?_⟩⟩
        refine rShow_of (.bl _) ⟨rfl, _, rfl, ?_⟩
        rw [ne_self]
        refine iteF ?_
        -- one - other
        have s8d : L2.Same H8 Hd := s9.trans (sb.trans (sc.trans sd))
        refine ⟨_, rfl, l, _, _, .int h, rfl, rfl, SqL.of (s8d _ _ hl8), rfl, _, rfl, r, _, _, .int h', rfl, rfl, SqL.of (s8d _ _ hr8), rfl, _, _, rfl, rfl, _, rfl, ite2 (fun hge => ?_) (fun _ => ?_)⟩
        · have hge' : h ≥ h' := by simpa using hge
          refine ⟨_, rfl, _, rfl, add_yes sod ((stb.same sc).same sd) (by omega) (by omega) (by omega) ⟨by decide, by decide⟩ fun x4 He nx4 se spe => ?_⟩
          refine ⟨x4, rfl, _, rfl, spe.ins, call_yes spe (by omega) (by omega) n0 n1 (num_diff h m o h' m' o' n) ⟨_, rfl, _, rfl, _, _, rfl, rfl, rfl, _, rfl, ?_⟩⟩
          rw [ne_self]
          refine iteF ?_
          exact ⟨_, _, _, _, rfl, s8d.trans se⟩
        · exact iteF ⟨_, _, _, _, rfl, s8d⟩
      · obtain ⟨z7, z11, z12, z13, rfl, s9⟩ := hh
        have so9 := so8.same s9
        have hl9 := s9 _ _ hl8
        have pn9 := pn8.same s9
        have tb9 := tb8.ext s9
        clear so8 st8 sw8 hl8 hr8 pn8 tb8
        -- no lengths
        refine ⟨_, rfl, _, _, rfl, rfl, ⟨by decide, by decide, by decide⟩, _, _, rfl, rfl, by show 1 ≤ sizeLine; decide, fun t1 nt1 => ⟨Nat.zero_le _, fun t2 nt2 => ⟨by show 8 ≤ sizeLine; decide, fun t3 nt3 => ?_⟩⟩⟩
        have e1 := same_new (o := .tup [.int 4]) nt1
        have e2 := same_new (o := .lst []) nt2
        have hT1 := e2 _ _ (show (upd H9 t1 (.tup [.int 4])) t1 = some (.tup [.int 4]) from upd_same)
        have hT2 : (upd (upd H9 t1 (.tup [.int 4])) t2 (.lst [])) t2 = some (.lst []) := upd_same
        obtain ⟨xs, exs⟩ : ∃ xs : List V, xs = [.int 0, .int (-4), .non, .bl true, .str "4", .int (10 ^ (40 : Int).toNat + 1), .ref t1, .ref t2] := ⟨_, rfl⟩
        have e3 : L2.Same (upd (upd H9 t1 (.tup [.int 4])) t2 (.lst [])) (upd (upd (upd H9 t1 (.tup [.int 4])) t2 (.lst [])) t3 (.lst xs)) := same_new nt3
        have hT3 : (upd (upd (upd H9 t1 (.tup [.int 4])) t2 (.lst [])) t3 (.lst xs)) t3 = some (.lst xs) := upd_same
        rw [← exs]
        have sA := e1.trans (e2.trans e3)
        have hT1 := e3 _ _ hT1
        have hT2 := e3 _ _ hT2
        clear e1 e2 e3 nt1 nt2 nt3
        generalize upd (upd (upd H9 t1 (.tup [.int 4])) t2 (.lst [])) t3 (.lst xs) = HA at sA hT1 hT2 hT3 ⊢
        have odA : ∀ x ∈ xs, ∃ t, OddV K HA 1 (10 ^ 40) x t := by
          intro x hx
          rw [exs] at hx
          simp only [List.mem_cons, List.mem_nil_iff, or_false] at hx
          rcases hx with rfl | rfl | rfl | rfl | rfl | rfl | rfl | rfl
          · exact ⟨_, .int _, by decide, .int _ (by decide), by decide +kernel⟩
          · exact ⟨_, .int _, by decide, .int _ (by decide), by decide +kernel⟩
          · exact ⟨_, .non, rfl, .non, by decide +kernel⟩
          · exact ⟨_, .bl _, rfl, .bl _, by decide +kernel⟩
          · exact ⟨_, .str _, rfl, .str _ (by decide +kernel), by decide +kernel⟩
          · exact ⟨_, .int _, by decide, .int _ (by decide +kernel), by decide +kernel⟩
          · exact ⟨_, .tup hT1, rfl, .dp (.tup (SqT.of hT1) (.cons (.int 4) .nil)) (by decide +kernel) rfl (by decide +kernel) (by decide +kernel), by decide +kernel⟩
          · exact ⟨_, .lst hT2, rfl, .dp (.lst (SqL.of hT2) .nil) (by decide +kernel) rfl (by decide +kernel) (by decide +kernel), by decide +kernel⟩
        have soA := so9.same sA
        have hlA := sA _ _ hl9
        have pnA := pn9.same sA
        have tbA := tb9.ext sA
        clear so9 hl9 pn9 tb9 hT1 hT2
        refine ⟨t3, rfl, ⟨_, SqL.of hT3⟩, for_list (xs := xs) (fun j σ Hx => ∃ z8, σ = [some (.ref a), some (.ref p), some (.int (0 + (i : Int))), some (.int k), some (.ref one), some (.ref oth), some (.ref who), z7, z8, some (.ref l), some (.ref r), z11, z12, z13] ∧ LamX.ExtN HA Hx ∧ LamX.Tabs TT Hx) ⟨_, rfl, LamX.ExtN.refl _, tbA⟩ (fun j σ Hx _ hh => ?_) (fun j x σ Hx hx hh => ?_) (fun σ Hx hh => ?_)⟩
        · obtain ⟨_, _, sx, _⟩ := hh
          exact sqL_extN (SqL.of hT3) sx
        · obtain ⟨z8, rfl, sx, tbx⟩ := hh
          obtain ⟨t, ov⟩ := odA x (List.mem_of_getElem? hx)
          refine ⟨tbx, fun H11 e11 tb11 => ?_⟩
          have s11 := sx.trans e11
          have ov11 := ov.extN s11
          have so11 := soA.extN s11
          refine ⟨_, rfl, one, rfl, _, rfl, so11.ins, ⟨one, h, m, o, x, rfl, so11, by omega, by omega, ov11.kd, fun n en n0 n1 => ?_, fun z d H12 s12 nd hd => ?_⟩⟩
          · have z := ov.no
            rw [en, within_yes ⟨n0, n1⟩] at z
            cases z
          · refine ⟨_, d, x, t, "length", rfl, rfl, hd, .inl ⟨rfl, rfl⟩, ov11.sh.same s12, fun y H13 s13 hy => ?_⟩
            refine ⟨_, rfl, rShow_of ((ov11.sh.same s12).same s13) ⟨by show 2 ≤ sizeLine; decide, fun y2 ny2 => ?_⟩⟩
            have s14 := same_new (o := .tup [.str "length", .str t]) ny2
            refine ⟨.tuple [.str "length", .str t], .tuple [.str "length", .str t], .tup (SqT.of (s14 _ _ hy)) (.cons (.str _) (.cons (.str _) .nil)), .tup (SqT.of upd_same) (.cons (.str _) (.cons (.str _) .nil)), shaped_pair (by decide +kernel) ov.ok, shaped_pair (by decide +kernel) ov.ok, _, rfl, ?_⟩
            rw [eqv_pair]
            refine iteF ?_
            have ss := s12.trans (s13.trans s14)
            exact ⟨_, rfl, s11.trans (extN_same ss), tb11.ext ss⟩
        obtain ⟨z8, rfl, sx, tbx⟩ := hh
        have so9 := soA.extN sx
        have hl9 := sx _ _ hlA (fun _ z => by cases z)
        have pn9 := pnA.extN sx
        clear soA hlA pnA tbA odA hT3 sA sx exs xs
        -- no rests
        refine ⟨_, rfl, _, _, rfl, rfl, ⟨by decide, by decide, by decide⟩, by show 1 ≤ sizeLine; decide, fun t2 nt2 => ⟨by show 8 ≤ sizeLine; decide, fun t3 nt3 => ?_⟩⟩
        have e2 := same_new (o := .lst [.int 0]) nt2
        have hT2 : (upd Hx t2 (.lst [.int 0])) t2 = some (.lst [.int 0]) := upd_same
        obtain ⟨xs, exs⟩ : ∃ xs : List V, xs = [.int 4, .int (-1), .non, .bl true, .bl false, .str "0", .int (10 ^ (40 : Int).toNat), .ref t2] := ⟨_, rfl⟩
        have e3 : L2.Same (upd Hx t2 (.lst [.int 0])) (upd (upd Hx t2 (.lst [.int 0])) t3 (.lst xs)) := same_new nt3
        have hT3 : (upd (upd Hx t2 (.lst [.int 0])) t3 (.lst xs)) t3 = some (.lst xs) := upd_same
        rw [← exs]
        have sA := e2.trans e3
        have hT2 := e3 _ _ hT2
        clear e2 e3 nt2 nt3
        generalize upd (upd Hx t2 (.lst [.int 0])) t3 (.lst xs) = HA at sA hT2 hT3 ⊢
        have odA : ∀ x ∈ xs, ∃ t, OddV K HA 0 3 x t := by
          intro x hx
          rw [exs] at hx
          simp only [List.mem_cons, List.mem_nil_iff, or_false] at hx
          rcases hx with rfl | rfl | rfl | rfl | rfl | rfl | rfl | rfl
          · exact ⟨_, .int _, by decide, .int _ (by decide), by decide +kernel⟩
          · exact ⟨_, .int _, by decide, .int _ (by decide), by decide +kernel⟩
          · exact ⟨_, .non, rfl, .non, by decide +kernel⟩
          · exact ⟨_, .bl _, rfl, .bl _, by decide +kernel⟩
          · exact ⟨_, .bl _, rfl, .bl _, by decide +kernel⟩
          · exact ⟨_, .str _, rfl, .str _ (by decide +kernel), by decide +kernel⟩
          · exact ⟨_, .int _, by decide, .int _ (by decide +kernel), by decide +kernel⟩
          · exact ⟨_, .lst hT2, rfl, .dp (.lst (SqL.of hT2) (.cons (.int 0) .nil)) (by decide +kernel) rfl (by decide +kernel) (by decide +kernel), by decide +kernel⟩
        have soA := so9.same sA
        have hlA := sA _ _ hl9
        have pnA := pn9.same sA
        have tbA := tbx.ext sA
        clear so9 hl9 pn9 hT2
        refine ⟨t3, rfl, ⟨_, SqL.of hT3⟩, for_list (xs := xs) (fun j σ Hx => ∃ z8, σ = [some (.ref a), some (.ref p), some (.int (0 + (i : Int))), some (.int k), some (.ref one), some (.ref oth), some (.ref who), z7, z8, some (.ref l), some (.ref r), z11, z12, z13] ∧ LamX.ExtN HA Hx ∧ LamX.Tabs TT Hx) ⟨_, rfl, LamX.ExtN.refl _, tbA⟩ (fun j σ Hx _ hh => ?_) (fun j x σ Hx hx hh => ?_) (fun σ Hx hh => ?_)⟩
        · obtain ⟨_, _, sx, _⟩ := hh
          exact sqL_extN (SqL.of hT3) sx
        · obtain ⟨z8, rfl, sx, tbx⟩ := hh
          obtain ⟨t, ov⟩ := odA x (List.mem_of_getElem? hx)
          refine ⟨tbx, fun H11 e11 tb11 => ?_⟩
          have s11 := sx.trans e11
          have ov11 := ov.extN s11
          have so11 := soA.extN s11
          obtain ⟨dx, tp, d1, d2⟩ := id so11
          refine ⟨_, rfl, one, dx, _, rfl, d1, no_field (by decide +kernel), _, rfl, ⟨one, h, m, o, x, rfl, so11, by omega, by omega, ov11.kd, fun n en n0 n1 => ?_, fun z d H12 s12 nd hd => ?_⟩⟩
          · have z := ov.no
            rw [en, within_yes ⟨n0, n1⟩] at z
            cases z
          · refine ⟨_, d, x, t, "rest", rfl, rfl, hd, .inr ⟨rfl, rfl⟩, ov11.sh.same s12, fun y H13 s13 hy => ?_⟩
            refine ⟨_, rfl, rShow_of ((ov11.sh.same s12).same s13) ⟨by show 2 ≤ sizeLine; decide, fun y2 ny2 => ?_⟩⟩
            have s14 := same_new (o := .tup [.str "rest", .str t]) ny2
            refine ⟨.tuple [.str "rest", .str t], .tuple [.str "rest", .str t], .tup (SqT.of (s14 _ _ hy)) (.cons (.str _) (.cons (.str _) .nil)), .tup (SqT.of upd_same) (.cons (.str _) (.cons (.str _) .nil)), shaped_pair (by decide +kernel) ov.ok, shaped_pair (by decide +kernel) ov.ok, _, rfl, ?_⟩
            rw [eqv_pair]
            refine iteF ?_
            have ss := s12.trans (s13.trans s14)
            exact ⟨_, rfl, s11.trans (extN_same ss), tb11.ext ss⟩
        obtain ⟨z8', rfl, sx, tbx'⟩ := hh
        exact ⟨_, _, _, _, _, _, _, _, _, _, _, _, rfl, (pnA.extN sx).le (by omega), tbx', fun _ => ⟨one, l, h, m, o, rfl, rfl, soA.extN sx, sx _ _ hlA (fun _ z => by cases z), by omega, by omega⟩⟩
    · rintro σ H1 ⟨y2, y3, y4, y5, y6, y7, y8, y9, y10, y11, y12, y13, rfl, pn, tb, z⟩
      obtain ⟨one, l, h, m, o, rfl, rfl, so, hl1, hh, ho⟩ := z (by decide)
      obtain ⟨dx, t, h1, h2⟩ := id so
      refine ⟨_, rfl, one, dx, _, rfl, h1, no_field (by decide +kernel), ⟨one, h, m, o, .int 2, rfl, so, by omega, by omega, .int 2, fun n en n0 n1 => ?_, fun z => by cases z⟩⟩
      cases en
      refine rShow_of (.bl _) ?_
      refine ⟨_, rfl, ⟨l, h, m, o, 6, rfl, hl1, by omega, by omega, .inl ⟨_, rfl, _, _, rfl, rfl, (by show (0 : Int) < 2; decide), rfl, rShow_of (.bl _) ⟨rfl, ?_⟩⟩⟩⟩
      have e : (numA h m o (2 + 4) % 2) = (num h m o 6 % 2) := by rw [numA_eq] <;> rfl
      rw [e]
      have z : ∀ v : V, decide (v = v) = true := fun v => decide_eq_true rfl
      have qq := q H1
      rw [← z (V.str (if decide (V.int (num h m o 6 % 2) = V.int 1) = true then "True" else "False"))] at qq
      exact qq
end
end Lw

set_option Elab.async false
set_option linter.all false
set_option maxRecDepth 100000
set_option maxHeartbeats 8000000
namespace Lw
open PySem PySem.Spec PyProof.Rows L2 Gh
theorem pm0 {P : Program} {w : World} {K : PySem.W.Frag} {mg : Str → Option Value} {base : Heap} {CX : CXT} {k : Nat} {f : Addr} {fd : FuncData} {ps : List Str} {sp : Sp} (G : FnOk P w K mg base CX k f fd ps sp) (b : Binds K fd ps []) : PromO P w K mg base CX k f [] sp := ⟨fd, ps, [], G, b, .nil⟩
theorem facts {P : Program} {w : World} {K : PySem.W.Frag} {h : Heap} {mg : Str → Option Value} {f : Addr} (X : K.In h) (G : h.Ns mainGlobals mg) (hfa : mg ("law" : Str) = some (.ref f)) (c : Says exs fns K) (gl : (He.Fa.glo "law").ok K = true) :
    ∃ fd : FuncData, (∀ (s : Shared) (v : Value), BindsTo s fd ⟨[v], []⟩ [("_law_script", v)]) ∧ ∀ base : Heap, K.In base → base.Ns mainGlobals mg → LamX.TabB base mg (He.cT K ("law", none)).1 (He.cT K ("law", none)).2 → FnG P w K mg base CX0 10 f fd ["_law_script"] (spLaw K (He.cT K ("law", none)).2) := by
  have T : Tx K mg := tx_of X G c
  have e := hfa.symm.trans (He.glo_ok X G gl)
  cases e
  obtain ⟨f0, F0⟩ := c.def_ 0 (d := d_is_integer) rfl
  obtain ⟨f1, F1⟩ := c.def_ 1 (d := d_is_within) rfl
  obtain ⟨f2, F2⟩ := c.def_ 2 (d := d_is_length) rfl
  obtain ⟨f3, F3⟩ := c.def_ 3 (d := d_is_rest) rfl
  obtain ⟨f4, F4⟩ := c.def_ 4 (d := d_need_length) rfl
  obtain ⟨f5, F5⟩ := c.def_ 5 (d := d_need_rest) rfl
  obtain ⟨f6, F6⟩ := c.def_ 6 (d := d_BadLength___init__) rfl
  obtain ⟨f7, F7⟩ := c.def_ 7 (d := d_BadRest___init__) rfl
  obtain ⟨f8, F8⟩ := c.def_ 8 (d := d_Span___init__) rfl
  obtain ⟨f9, F9⟩ := c.def_ 9 (d := d_Span_whole) rfl
  obtain ⟨f10, F10⟩ := c.def_ 10 (d := d_Span_halves) rfl
  obtain ⟨f11, F11⟩ := c.def_ 11 (d := d_Span_more) rfl
  obtain ⟨f12, F12⟩ := c.def_ 12 (d := d_Span_odd) rfl
  obtain ⟨f13, F13⟩ := c.def_ 13 (d := d_Span___call__) rfl
  obtain ⟨f14, F14⟩ := c.def_ 14 (d := d_Span_number_at) rfl
  obtain ⟨f15, F15⟩ := c.def_ 15 (d := d_Span_is_odd) rfl
  obtain ⟨f16, F16⟩ := c.def_ 16 (d := d_Span_plus) rfl
  obtain ⟨f17, F17⟩ := c.def_ 17 (d := d_Span___add__) rfl
  obtain ⟨f18, F18⟩ := c.def_ 18 (d := d_Span___sub__) rfl
  obtain ⟨f19, F19⟩ := c.def_ 19 (d := d_Span___rmul__) rfl
  obtain ⟨f20, F20⟩ := c.def_ 20 (d := d__law_pen) rfl
  obtain ⟨f21, F21⟩ := c.def_ 21 (d := d__law_draw) rfl
  obtain ⟨f22, F22⟩ := c.def_ 22 (d := d__law_heard) rfl
  obtain ⟨f23, F23⟩ := c.def_ 23 (d := d__law_span) rfl
  obtain ⟨f24, F24⟩ := c.def_ 24 (d := d__law_number) rfl
  obtain ⟨f25, F25⟩ := c.def_ 25 (d := d__law_lengths) rfl
  obtain ⟨f26, F26⟩ := c.def_ 26 (d := d_law) rfl
  have b26 := FunD.bindsA (ps := ["_law_script"]) F26 fun _ _ _ _ _ _ us hl => match us, hl with | [_], _ => rfl
  refine ⟨f26, fun s v => b26 s [v] rfl, fun base _ _ TB => ?_⟩
  have p20 : Pm P w K mg base 1 (gd "_law_pen" K) [] (spPen K) := pm0 (ok_pen F20 T ) (F20.bindsN fun _ _ _ _ _ _ us hl => match us, hl with | [_], _ => rfl)
  have p21 : Pm P w K mg base 1 (gd "_law_draw" K) [] spDraw := pm0 (ok_draw F21 T ) (F21.bindsN fun _ _ _ _ _ _ us hl => match us, hl with | [_, _], _ => rfl)
  have p23 : Pm P w K mg base 2 (gd "_law_span" K) [] spSpan := pm0 (ok_lspan F23 T p21) (F23.bindsN fun _ _ _ _ _ _ us hl => match us, hl with | [_], _ => rfl)
  have p25 : Pm P w K mg base 2 (gd "_law_lengths" K) [] spLengths := pm0 (ok_lengths F25 T p21) (F25.bindsN fun _ _ _ _ _ _ us hl => match us, hl with | [_], _ => rfl)
  have p24 : Pm P w K mg base 1 (gd "_law_number" K) [] (spNumber K) := pm0 (ok_number F24 T ) (F24.bindsN fun _ _ _ _ _ _ us hl => match us, hl with | [_, _], _ => rfl)
  have p0 : Pm P w K mg base 1 (gd "is_integer" K) [] spInteger := pm0 (ok_integer F0 T ) (F0.bindsN fun _ _ _ _ _ _ us hl => match us, hl with | [_], _ => rfl)
  have p1 : Pm P w K mg base 2 (gd "is_within" K) [] spWithin := pm0 (ok_within F1 T p0) (F1.bindsN fun _ _ _ _ _ _ us hl => match us, hl with | [_, _, _], _ => rfl)
  have p8 : Pm P w K mg base 3 (md "Span" "__init__" K) [] (spInit (gd "Span" K)) := by
    obtain ⟨ds, hv, hb⟩ := FunD.binds1 (ps := ["self", "halves", "more", "odd"]) F8 4 2 (by intro z; cases z) rfl fun _ _ _ _ _ _ _ us its hu hi => match us, hu, its, hi with | [_, _, _, _], _, [_, _], _ => ⟨_, rfl, rfl⟩
    cases hv
    exact pm0 (ok_init F8 T p1) hb
  have p9 : Pm P w K mg base 5 (staG "Span" "whole" K) [] (spWhole (gd "Span" K)) := by
    obtain ⟨ds, hv, hb⟩ := FunD.binds1 (ps := ["k", "more"]) F9 2 2 (by intro z; cases z) rfl fun _ _ _ _ _ _ _ us its hu hi => match us, hu, its, hi with | [_, _], _, [_, _], _ => ⟨_, rfl, rfl⟩
    cases hv
    exact pm0 (ok_whole F9 T p1 p8) hb
  have p10 : Pm P w K mg base 1 (propG "Span" "halves" K) [] (spProp (gd "Span" K) fun h _ _ => h) := pm0 (ok_halves F10 T ) (F10.bindsN fun _ _ _ _ _ _ us hl => match us, hl with | [_], _ => rfl)
  have p11 : Pm P w K mg base 1 (propG "Span" "more" K) [] (spProp (gd "Span" K) fun _ m _ => m) := pm0 (ok_more F11 T ) (F11.bindsN fun _ _ _ _ _ _ us hl => match us, hl with | [_], _ => rfl)
  have p12 : Pm P w K mg base 1 (propG "Span" "odd" K) [] (spProp (gd "Span" K) fun _ _ o => o) := pm0 (ok_odd F12 T ) (F12.bindsN fun _ _ _ _ _ _ us hl => match us, hl with | [_], _ => rfl)
  have p16 : Pm P w K mg base 5 (md "Span" "plus" K) [] (spPlus (gd "Span" K)) := pm0 (ok_plus F16 T p8 p10 p11 p12) (F16.bindsN fun _ _ _ _ _ _ us hl => match us, hl with | [_, _, _], _ => rfl)
  have p17 : Pm P w K mg base 6 (md "Span" "__add__" K) [] (spAdd (gd "Span" K) 1) := pm0 (ok_add F17 T p16) (F17.bindsN fun _ _ _ _ _ _ us hl => match us, hl with | [_, _], _ => rfl)
  have p18 : Pm P w K mg base 6 (md "Span" "__sub__" K) [] (spAdd (gd "Span" K) (-1)) := pm0 (ok_sub F18 T p16) (F18.bindsN fun _ _ _ _ _ _ us hl => match us, hl with | [_, _], _ => rfl)
  have p19 : Pm P w K mg base 5 (md "Span" "__rmul__" K) [] (spTimes (gd "Span" K)) := pm0 (ok_rmul F19 T p8 p10 p11 p12) (F19.bindsN fun _ _ _ _ _ _ us hl => match us, hl with | [_, _], _ => rfl)
  have p2 : Pm P w K mg base 3 (gd "is_length" K) [] (spIn 1 (10 ^ 40)) := pm0 (ok_length F2 T p1) (F2.bindsN fun _ _ _ _ _ _ us hl => match us, hl with | [_], _ => rfl)
  have p6 : Pm P w K mg base 1 (md "BadLength" "__init__" K) [] (spErr1 (gd "BadLength" K) "value") := pm0 (ok_badlength F6 T ) (F6.bindsN fun _ _ _ _ _ _ us hl => match us, hl with | [_, _], _ => rfl)
  have p4 : Px P w K mg base 4 (gd "need_length" K) [] (spNeed (gd "BadLength" K) 1 (10 ^ 40)) := pm0 (ok_nlength F4 T p2 p6) (F4.bindsN fun _ _ _ _ _ _ us hl => match us, hl with | [_], _ => rfl)
  have p14 : Pm P w K mg base 3 (md "Span" "number_at" K) [] (spAt (gd "Span" K)) := pm0 (ok_at F14 T p10 p11 p12) (F14.bindsN fun _ _ _ _ _ _ us hl => match us, hl with | [_, _], _ => rfl)
  have p13 : Px P w K mg base 5 (md "Span" "__call__" K) [] (spCall (gd "Span" K) (gd "BadLength" K)) := pm0 (ok_call F13 T p4 p14) (F13.bindsN fun _ _ _ _ _ _ us hl => match us, hl with | [_, _], _ => rfl)
  have p3 : Pm P w K mg base 3 (gd "is_rest" K) [] (spIn 0 3) := pm0 (ok_rest F3 T p1) (F3.bindsN fun _ _ _ _ _ _ us hl => match us, hl with | [_], _ => rfl)
  have p7 : Pm P w K mg base 1 (md "BadRest" "__init__" K) [] (spErr1 (gd "BadRest" K) "value") := pm0 (ok_badrest F7 T ) (F7.bindsN fun _ _ _ _ _ _ us hl => match us, hl with | [_, _], _ => rfl)
  have p5 : Px P w K mg base 4 (gd "need_rest" K) [] (spNeed (gd "BadRest" K) 0 3) := pm0 (ok_nrest F5 T p3 p7) (F5.bindsN fun _ _ _ _ _ _ us hl => match us, hl with | [_], _ => rfl)
  have p15 : Px P w K mg base 5 (md "Span" "is_odd" K) [] (spIsOdd (gd "Span" K) (gd "BadRest" K)) := pm0 (ok_isodd F15 T p5 p14) (F15.bindsN fun _ _ _ _ _ _ us hl => match us, hl with | [_, _], _ => rfl)
  have bH := F22.bindsN (ps := ["_law_ask"]) fun _ _ _ _ _ _ us hl => match us, hl with | [_], _ => rfl
  exact ok_law F26 F22 bH T TB p20 p21 p23 p25 p24 p8 p9 p17 p18 p19 p13 p15
end Lw
open PySem PySem.W PySem.Calls PyProof.Rows
set_option maxRecDepth 100000 in
set_option maxHeartbeats 0 in
theorem PySem.Challenge.cw_everyhunt_k03_spans_at_lengths_holds : PySem.Challenge.rw_everyhunt_k03_spans_at_lengths.Holds := by
  w_on; o_law
  refine HandSHeadRun.head_any (r := OpenLaw.row PySem.Challenge.rw_everyhunt_k03_spans_at_lengths) (q := view (OpenLaw.row PySem.Challenge.rw_everyhunt_k03_spans_at_lengths).prog [31]) (H := Lw.hk) (ob := Lw.ob) (M := 8000) (loose := Lw.loose) (d := HandSHeadRun.topDef (OpenLaw.row PySem.Challenge.rw_everyhunt_k03_spans_at_lengths).prog 31) (kwd := []) Lw.ob_eq
    (by kernel_rfl) (fun s => by kernel_rfl) Lw.run (by kernel_rfl) (by kernel_rfl) (by kernel_rfl) (by rfl) (by first | assumption | decide +kernel) (by decide +kernel) ⟨rfl, rfl, rfl, rfl, rfl, by decide +kernel⟩ ?hw ?hc
  case hw => w_witness2
  case hc =>
    refine Gh.walk_ofTsG (l := PySem.Challenge.rw_everyhunt_k03_spans_at_lengths) (n := 63) (k := 10) (x := "_law_script") (CX := fun _ => L2.CX0) rfl (by decide) (by kernel_rfl) ⟨rfl, by decide, by decide⟩ ?F (fun _ _ _ _ _ z => z)
    intro w mg fa h Y G hmg0
    obtain ⟨K, KX, c⟩ := Y
    have hmg : mg ("law" : PySem.Str) = some (.ref fa) := by
      have e : (HandSHeadRun.topDef (OpenLaw.row PySem.Challenge.rw_everyhunt_k03_spans_at_lengths).prog 31).name = ("law" : PySem.Str) := by kernel_rfl
      rw [← e]
      exact hmg0
    have mem : ∀ p ∈ [He.cT K (("law" : PySem.Str), none)], p = He.cT K (("law" : PySem.Str), none) := fun p hp => List.mem_singleton.mp hp
    have i0 : ((("law" : PySem.Str), none) : He.Defn) ∈ Lw.tfs := List.mem_singleton.mpr rfl
    obtain ⟨fd, hb, hF⟩ := Lw.facts (P := (PySem.Challenge.rw_everyhunt_k03_spans_at_lengths).prog) (w := w) KX G hmg c.t (c.t.fact 78 rfl)
    refine ⟨K, fd, [He.cT K (("law" : PySem.Str), none)], Lw.spLaw K (He.cT K (("law" : PySem.Str), none)).2, KX, fun p hp => ?_, fun p hp => ?_, fun p hp => ?_, hb, fun H a ns hl hT hS => ⟨a, ns, rfl, hS, hl, hT _ (List.mem_singleton.mpr rfl), fun _ => rfl⟩, fun base h1 h2 h3 => hF base h1 h2 (h3 _ (List.mem_singleton.mpr rfl))⟩
    · rw [mem p hp]
      exact c.empty _ i0
    · rw [mem p hp]
      exact c.out _ i0
    · rw [mem p hp]
      exact PySem.W.codeHd_of_K KX (c.hd _ i0)
#print axioms PySem.Challenge.cw_everyhunt_k03_spans_at_lengths_holds

