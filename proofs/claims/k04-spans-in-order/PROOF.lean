import PyProof.Rows.All
import Wide.All
import OpenK.AllK
import Wide.FinOn
import KE.KStateDown
import KE.KOpsOwn
import HandS.ForMost
import HandS.More
import HandS.Exc
import HandS.WordsExc
import HandS.Defaults
import HandS.Property
import HandS.IsInst
import HandS.Wide
import HandS.Head0
import HandS.Head1
import HandS.Head2
import HandS.HeadEnd
import HandS.HeadHook1
import HandS.HeadHook2
import PyProof.ReprRoads
import PySem.Challenge.RW_everyhunt_k04_spans_in_order
set_option Elab.async false
set_option linter.all false
set_option maxRecDepth 100000
/-! Gh: a head's Hook by addresses: each def by where the written part has it, and one Bool more. -/
namespace Gh
open PySem PySem.Spec PyProof.Rows L2
/-- a def: where it stands (by the written part), its names, parameters, body, scope, defaults -/
structure Df where
  adr : PySem.W.Frag → Addr
  name : Str
  qual : Str
  st : Stmt
  dfl : List He.Dv := []
def Df.val (d : Df) : He.FnW := some (d.name, d.qual, defArgs d.st, .stmts (defBody d.st), defScope d.st, mainGlobals, [], builtinsNs)
def Df.dvs (K : PySem.W.Frag) (d : Df) : List V := d.dfl.map (He.Dv.v K)
def fnAt (K : PySem.W.Frag) (a : Addr) : He.FnW := match K.lookup a with
  | some ⟨_, _, .func fd, _⟩ => some (fd.name, fd.qualname, fd.params, fd.body, fd.scope, fd.globals, fd.closure, fd.builtins)
  | _ => none
def Df.ok (K : PySem.W.Frag) (d : Df) : Bool := PySem.W.keepIn K (.ref (d.adr K)) && (match K.lookup (d.adr K) with
  | some ⟨_, _, .func fd, _⟩ => PySem.W.codeIn K fd.code d.qual && (He.dflB K fd.defaults (d.dvs K) && He.kwdB K fd.kwdefaults [])
  | _ => false)
/-- what a def's fact is worth -/
abbrev FnA (K : PySem.W.Frag) (d : Df) (fd : FuncData) : Prop := FunD K d.name d.qual (defArgs d.st) (defBody d.st) (defScope d.st) (d.dvs K) [] (d.adr K) fd
theorem Df.funD {K : PySem.W.Frag} {d : Df} (e : fnAt K (d.adr K) = d.val) (c : d.ok K = true) : ∃ fd, FnA K d fd := by
  obtain ⟨kp, c2⟩ := He.ba c
  unfold fnAt at e
  cases q : K.lookup (d.adr K) with
  | none =>
    rw [q] at c2
    cases c2
  | some o =>
    obtain ⟨oc, od, dt, osl⟩ := o
    rw [q] at c2 e
    cases dt with
    | func fd =>
      obtain ⟨n1, n2, n3, n4, n5, n6, n7, n8, n9, n10, n11, n12, n13, n14, n15⟩ := fd
      have e2 : (some (n1, n2, n3, n4, n5, n6, n7, n15) : He.FnW) = some (d.name, d.qual, defArgs d.st, .stmts (defBody d.st), defScope d.st, mainGlobals, [], builtinsNs) := e
      simp only [Option.some.injEq, Prod.mk.injEq] at e2
      obtain ⟨h1, h2, h3, h4, h5, h6, h7, h8⟩ := e2
      subst h1 h2 h3 h4 h5 h6 h7 h8
      have c3 : (PySem.W.codeIn K n13 d.qual && (He.dflB K n8 (d.dvs K) && He.kwdB K n9 [])) = true := c2
      obtain ⟨k1, k2⟩ := He.ba c3
      obtain ⟨k3, k4⟩ := He.ba k2
      exact ⟨_, ⟨oc, od, n8, n9, n10, n11, n12, n13, n14, osl, rfl, q, k1, He.dflB_ok k3, He.kwdB_ok k4⟩, kp⟩
    | _ => cases c2
abbrev Al : Type := Bool × List He.FnW
def obs (ex : List (PySem.W.Frag → Bool)) (fn : List Df) (K : PySem.W.Frag) : Al := ((ex.all fun f => f K) && fn.all fun d => d.ok K, fn.map fun d => fnAt K (d.adr K))
def val (fn : List Df) : Al := (true, fn.map Df.val)
def Says (ex : List (PySem.W.Frag → Bool)) (fn : List Df) (K : PySem.W.Frag) : Prop := obs ex fn K = val fn
def obsG (n : Nat) (ex : List (PySem.W.Frag → Bool)) (fn : List Df) (g : Addr → Option Obj) : Al := obs ex fn (He.frG g (He.asD g n))
def hook (n : Nat) (ex : List (PySem.W.Frag → Bool)) (fn : List Df) : PySem.W.Hook where
  α := Al
  obs := fun s => obsG n ex fn s.heap.get?
  val := fun _ => val fn
  says := fun _ h => ∃ K : PySem.W.Frag, K.In h ∧ Says ex fn K
  of := fun _ _ e => ⟨_, He.frG_in, e⟩
  keeps := fun _ _ _ ⟨K, hK, c⟩ k => ⟨K, PySem.W.Frag.In.keeps hK k, c⟩
theorem obsG_eq {n : Nat} {ex : List (PySem.W.Frag → Bool)} {fn : List Df} {g : Addr → Option Obj} {s : Shared} (h : ∀ a, g a = s.heap.get? a) : obsG n ex fn g = (hook n ex fn).obs s := by
  have e : g = s.heap.get? := funext h
  rw [e] <;> rfl
theorem Says.fact {ex : List (PySem.W.Frag → Bool)} {fn : List Df} {K : PySem.W.Frag} (c : Says ex fn K) (i : Nat) {f : PySem.W.Frag → Bool} (h : ex[i]? = some f := by rfl) : f K = true := by
  have c1 := (He.ba (show ((ex.all fun f => f K) && fn.all fun d => d.ok K) = true from congrArg (fun z : Al => z.1) c)).1
  exact List.all_eq_true.mp c1 f (List.mem_of_getElem? h)
theorem Says.def_ {ex : List (PySem.W.Frag → Bool)} {fn : List Df} {K : PySem.W.Frag} (c : Says ex fn K) (i : Nat) {d : Df} (h : fn[i]? = some d := by rfl) : ∃ fd, FnA K d fd := by
  have c2 := (He.ba (show ((ex.all fun f => f K) && fn.all fun d => d.ok K) = true from congrArg (fun z : Al => z.1) c)).2
  have e : fn.map (fun d => fnAt K (d.adr K)) = fn.map Df.val := congrArg (fun z : Al => z.2) c
  have e2 : (fn.map fun d => fnAt K (d.adr K))[i]? = (fn.map Df.val)[i]? := by rw [e]
  rw [List.getElem?_map, List.getElem?_map, h] at e2
  exact Df.funD (Option.some.inj e2) (List.all_eq_true.mp c2 d (List.mem_of_getElem? h))
/-! addresses -/
/-- a property's getter -/
def propG (x m : Str) (K : PySem.W.Frag) : Addr := match PySem.W.recIn K (He.ma K (He.ga K x) m) "property" with
  | some (.ref g :: _) => g
  | _ => 0
def propB (x m : Str) (K : PySem.W.Frag) : Bool := He.eqO (PySem.W.findIn K (.ref (He.ga K x)) m) (some (some (.ref (He.ma K (He.ga K x) m)))) &&
  (He.eqO (PySem.W.specialIn K (.ref (He.ma K (He.ga K x) m)) "__get__") (some (some (.builtin "property.__get__"))) &&
  (decide (PySem.W.takesIn K (.ref (He.ma K (He.ga K x) m)) = some true) && (match PySem.W.recIn K (He.ma K (He.ga K x) m) "property" with
    | some (.ref _ :: _) => true
    | _ => false)))
theorem propB_ok {x m : Str} {K : PySem.W.Frag} (h : propB x m K = true) : PropOf K (He.ga K x) m (He.ma K (He.ga K x) m) (propG x m K) := by
  obtain ⟨h1, h2⟩ := He.ba h
  obtain ⟨h3, h4⟩ := He.ba h2
  obtain ⟨h5, h6⟩ := He.ba h4
  refine ⟨He.eqO_ok h1, He.eqO_ok h3, of_decide_eq_true h5, ?_⟩
  unfold propG
  cases q : PySem.W.recIn K (He.ma K (He.ga K x) m) "property" with
  | none =>
    rw [q] at h6
    cases h6
  | some l =>
    rw [q] at h6
    cases l with
    | nil => cases h6
    | cons v r =>
      cases v with
      | ref g => exact ⟨r, rfl⟩
      | _ => cases h6
/-- a top's def, a class's method, a property's getter -/
def gd (x : Str) : PySem.W.Frag → Addr := fun K => He.ga K x
def md (x m : Str) : PySem.W.Frag → Addr := fun K => He.ma K (He.ga K x) m
def fa (f : He.Fa) : PySem.W.Frag → Bool := fun K => f.ok K
/-- isinstance of an own class's instance and of built-in values against it -/
structure InsT (K : PySem.W.Frag) (C : Addr) : Prop where
  ha : PySem.W.findIn K (.ref C) "__class__" = some (some (.builtin "object.__class__"))
  hn : PySem.W.specialIn K (.builtin "object.__class__") "__get__" = some (some (.builtin "getset_descriptor.__get__"))
  htk : PySem.W.takesIn K (.builtin "object.__class__") = some true
  hm : PySem.W.mroIn K C (.type "object") = some true
  yes : PySem.W.kitOne K (.ref C) (.ref C) = some true
  no : ∀ n ∈ (["NoneType", "bool", "int", "str", "list", "tuple", "dict"] : List String), PySem.W.kitOne K (.type n) (.ref C) = some false
  out : ∀ n ∈ (["NoneType", "bool", "int", "str", "list", "tuple", "dict"] : List String), PySem.W.kitOne K (.ref C) (.type n) = some false
def insB (x : Str) (K : PySem.W.Frag) : Bool := He.eqO (PySem.W.findIn K (.ref (gd x K)) "__class__") (some (some (.builtin "object.__class__"))) &&
  (He.eqO (PySem.W.specialIn K (.builtin "object.__class__") "__get__") (some (some (.builtin "getset_descriptor.__get__"))) &&
  (decide (PySem.W.takesIn K (.builtin "object.__class__") = some true) && (decide (PySem.W.mroIn K (gd x K) (.type "object") = some true) &&
  (decide (PySem.W.kitOne K (.ref (gd x K)) (.ref (gd x K)) = some true) && (((["NoneType", "bool", "int", "str", "list", "tuple", "dict"] : List String).all fun n => decide (PySem.W.kitOne K (.type n) (.ref (gd x K)) = some false)) &&
  ((["NoneType", "bool", "int", "str", "list", "tuple", "dict"] : List String).all fun n => decide (PySem.W.kitOne K (.ref (gd x K)) (.type n) = some false)))))))
theorem insB_ok {x : Str} {K : PySem.W.Frag} (h : insB x K = true) : InsT K (gd x K) := by
  obtain ⟨h1, h⟩ := He.ba h
  obtain ⟨h2, h⟩ := He.ba h
  obtain ⟨h3, h⟩ := He.ba h
  obtain ⟨h4, h⟩ := He.ba h
  obtain ⟨h5, h⟩ := He.ba h
  obtain ⟨h6, h7⟩ := He.ba h
  exact ⟨He.eqO_ok h1, He.eqO_ok h2, of_decide_eq_true h3, of_decide_eq_true h4, of_decide_eq_true h5, fun n hn => of_decide_eq_true (List.all_eq_true.mp h6 n hn), fun n hn => of_decide_eq_true (List.all_eq_true.mp h7 n hn)⟩
/-- the class comes first of its line -/
structure OwnT (K : PySem.W.Frag) (C : Addr) : Prop where
  first : PySem.W.selfFirst K C = true
  nf : PySem.W.notFirst K C (.ref C) = true
  sub : PySem.W.subIn K (.type "int") (.ref C) = some false
def ownB (x : Str) (K : PySem.W.Frag) : Bool := PySem.W.selfFirst K (gd x K) && (PySem.W.notFirst K (gd x K) (.ref (gd x K)) && decide (PySem.W.subIn K (.type "int") (.ref (gd x K)) = some false))
theorem ownB_ok {x : Str} {K : PySem.W.Frag} (h : ownB x K = true) : OwnT K (gd x K) := by
  obtain ⟨h1, h⟩ := He.ba h
  obtain ⟨h2, h3⟩ := He.ba h
  exact ⟨h1, h2, of_decide_eq_true h3⟩
/-- an operator between the class and an int -/
structure OpT (K : PySem.W.Frag) (C : Addr) (op : Operator) : Prop where
  rc : ∃ rc, PySem.W.findIn K (.ref C) (dunderR op.info.2) = some rc ∧ (rc = none ∨ ∃ g : Addr, rc = some (.ref g))
  fo : ∃ fo, PySem.W.findIn K (.type "int") (PySem.dunder op.info.2) = some fo
  ro : ∃ ro, PySem.W.findIn K (.type "int") (dunderR op.info.2) = some ro
def opB (x : Str) (op : Operator) (K : PySem.W.Frag) : Bool := (match PySem.W.findIn K (.ref (gd x K)) (dunderR op.info.2) with
    | some none => true
    | some (some (.ref _)) => true
    | _ => false) && ((PySem.W.findIn K (.type "int") (PySem.dunder op.info.2)).isSome && (PySem.W.findIn K (.type "int") (dunderR op.info.2)).isSome)
theorem opB_ok {x : Str} {op : Operator} {K : PySem.W.Frag} (h : opB x op K = true) : OpT K (gd x K) op := by
  obtain ⟨h1, h⟩ := He.ba h
  obtain ⟨h2, h3⟩ := He.ba h
  refine ⟨?_, Option.isSome_iff_exists.mp h2, Option.isSome_iff_exists.mp h3⟩
  cases q : PySem.W.findIn K (.ref (gd x K)) (dunderR op.info.2) with
  | none =>
    rw [q] at h1
    cases h1
  | some o =>
    cases o with
    | none => exact ⟨none, rfl, .inl rfl⟩
    | some v =>
      cases v with
      | ref g => exact ⟨_, rfl, .inr ⟨g, rfl⟩⟩
      | _ =>
        rw [q] at h1
        cases h1
/-- a module's int -/
theorem pe_gi {X : Cx} {x : Str} {i : Int} {pos : Pos} (h : ∃ t, X.mg x = some (.int i t)) (hg : Gl X x) (hd : (x == ("__debug__" : Str)) = false := by decide) : PE X (.Name x pos) (tC (.int i)) := by
  obtain ⟨t, e⟩ := h
  exact pe_glob hg e ⟨t, rfl⟩ hd
end Gh

set_option Elab.async false
set_option linter.all false
set_option maxRecDepth 100000
set_option maxHeartbeats 4000000
/-! Rl: promises of defs that also know that nothing is being shown around them (so that repr can be told); the rules that call them. -/
namespace Gh
open PySem PySem.Spec PyProof.Rows L2
/-- the def at f keeps the promise sp where nothing is being shown around it -/
structure FnG (P : Program) (w : World) (K : PySem.W.Frag) (mg : Str → Option Value) (base : Heap) (CX : CXT) (k : Nat) (f : Addr) (fd : FuncData) (ps : List Str) (sp : Sp) : Prop where
  len : ∀ vs H Q E, sp vs H Q E → vs.length = ps.length
  run : ∀ (A : Around) (outer : List Env) (s : Shared) (H : Hp) (args : Args) (us : List Value) (vs : List V) (Q : VK) (E : XK), Room k A → A.guards = some [] → Env0 P w K mg base A outer s H → BindsTo s fd args (ps.zip us) → Vals vs us → sp vs H Q E →
    codeAny (model P w) A (.call (.ref f) args) (CR CX outer P w H s Q E) s
/-- a def, called with some arguments, the defaults dvs behind them -/
def Prom (P : Program) (w : World) (K : PySem.W.Frag) (mg : Str → Option Value) (base : Heap) (CX : CXT) (k : Nat) (f : Addr) (dvs : List V) (sp : Sp) : Prop :=
  ∃ (fd : FuncData) (ps : List Str) (ds : List Value), FnG P w K mg base CX k f fd ps sp ∧ Binds K fd ps ds ∧ Vals dvs ds
section
variable {P : Program} {w : World} {K : PySem.W.Frag} {mg : Str → Option Value} {base : Heap} {CX : CXT} {j k : Nat} {f : Addr} {fd : FuncData} {ps : List Str} {sp : Sp} {dvs : List V}
theorem FnG.mono (F : FnG P w K mg base CX j f fd ps sp) (h : j ≤ k) : FnG P w K mg base CX k f fd ps sp := ⟨F.len, fun A o s H a us vs Q E hr => F.run A o s H a us vs Q E (hr.mono h)⟩
theorem Prom.mono (F : Prom P w K mg base CX j f dvs sp) (h : j ≤ k) : Prom P w K mg base CX k f dvs sp := by
  obtain ⟨fd, ps, ds, G, b, v⟩ := F
  exact ⟨fd, ps, ds, G.mono h, b, v⟩
/-- a def's body -/
theorem fnG_of {x qual : Str} {params : Arguments} {body : List Stmt} {scope : Scope} {kws : List (Str × V)} {N : List Str} (F : FunD K x qual params body scope dvs kws f fd) (S : FnScope N ps scope) (len : ∀ vs H Q E, sp vs H Q E → vs.length = ps.length)
    (hbody : ∀ (cdv : Value) (A : Around) (outer : List Env) (s : Shared) (H : Hp) (vs : List V) (Q : VK) (E : XK), Room k (A.deeper (envOfC qual scope s.heap.objs.size f cdv)) → (A.deeper (envOfC qual scope s.heap.objs.size f cdv)).guards = some [] → sp vs H Q E →
      ∃ t, PSs (cxOf CX P w K mg base N qual scope f cdv A outer s H E) body t ∧ t { nx := fun _ H' => Q .non H', rt := Q } (start N vs) H) : FnG P w K mg base CX (k + 1) f fd ps sp := by
  obtain ⟨oc, od, dV, kV, doc, pm, an, cdv, ct, osl, rfl, lk, hcd, _, _⟩ := F.ex
  refine ⟨len, fun A outer s H args us vs Q E hr hg e0 hb r hsp => ?_⟩
  have hl := len _ _ _ _ hsp
  have KX : K.In s.heap := e0.mod.kin.keeps fun b o e => (e0.bs b o e).1
  have lim : s.heap.NoLimit := e0.mod.nolimit.keeps fun b o e => (e0.bs b o e).1
  have hkind : ∀ y ∈ ps.zip us, scope.names.lookup y.1 = some .local ∨ (scope.names.lookup y.1 = some .cell ∧ ((cellsFrom (s.heap.objs.size + 1) scope.names []).lookup y.1).isSome = true) := fun ⟨n, v⟩ hy => by
    rcases S.par n (List.of_mem_zip hy).1 with q | q
    · exact .inl q
    · exact .inr ⟨q, PySem.W.cellsFrom_some _ _ _ (.inl q)⟩
  refine codeAny_call_function hr.depth (KX _ _ lk) rfl S.co S.gen rfl (PySem.W.codeRec_of KX hcd) (hb _ _ _ _ ?_)
  refine wpAny_newFunctionEnv_cells S.kind hkind fun env he s1 x => ?_
  subst he
  refine ⟨lim.keeps x.toInCall.keep, codeAny_func ?_⟩
  obtain ⟨t, ht, hq⟩ := hbody cdv A outer s H vs Q E (hr.deeper _) hg hsp
  have I : Inv (cxOf CX P w K mg base N qual scope f cdv A outer s H E) [] (start N vs) H s1 := inv_start S hr.hd e0 hl r x
  refine wpAny_mono (ht.run [] s1 (start N vs) H _ I hq) (fun fl s' hs => ?_) fun e s' hs => hs
  cases fl with
  | ret u =>
    obtain ⟨v, σ', H', J, rv, q⟩ := hs
    exact ⟨v, H', J.os, J.bare, J.base, J.hok, rv, q⟩
  | next =>
    obtain ⟨σ', H', J, q⟩ := hs
    exact ⟨V.non, H', J.os, J.bare, J.base, J.hok, rfl, q⟩
  | brk =>
    obtain ⟨_, _, _, q⟩ := hs
    exact False.elim q
  | cont =>
    obtain ⟨_, _, _, q⟩ := hs
    exact False.elim q
end
/-! ### calls -/
section
variable {X : Cx} {CX : CXT} {k : Nat} {f g C : Addr} {sp : Sp} {dvs : List V} {E : XK} {x m : Str} {p pos apos : Pos} {e o : Expr} {es : List Expr} {ta tb : TE} {t : TA} {r : List V → Hp → VK → Prop}
abbrev PromX (X : Cx) (CX : CXT) (k : Nat) (f : Addr) (dvs : List V) (sp : Sp) : Prop := Prom X.prog X.w X.K X.mg X.base CX k f dvs sp
/-- what is asked at a call -/
def rSp (sp : Sp) (dvs : List V) (E : XK) : List V → Hp → VK → Prop := fun xs H Q => sp (xs ++ dvs) H Q E
theorem Prom.call (F : PromX X CX k f dvs sp) (hr : Room k X.A) (hg : X.A.guards = some []) (hx : Passes CX X E) : CallR X (.ref f) (rSp sp dvs E) := by
  intro pins s σ H xs us Q I r h
  obtain ⟨fd, ps, ds, G, b, hd⟩ := F
  have r2 : Vals (xs ++ dvs) (us ++ ds) := r.append hd
  have hl : (us ++ ds).length = ps.length := by rw [← r2.length]; exact G.len _ _ _ _ h
  refine wpAny_call (codeAny_mono (G.run X.A X.stack s H ⟨us, []⟩ (us ++ ds) (xs ++ dvs) Q E hr hg I.env0 (b s us I.kIn hl) r2 h) fun r s' hq => ?_)
  cases r with
  | error e => exact hx pins σ H s e s' I hq
  | ok fl =>
    cases fl with
    | ret u => exact I.after hq
    | next => exact False.elim hq
    | brk => exact False.elim hq
    | cont => exact False.elim hq
/-- what is asked where an instance is made -/
@[irreducible] def rMk (C : Addr) (sp : Sp) (dvs : List V) (E : XK) : List V → Hp → VK → Prop := fun vs H Q =>
  ∀ x dx, H x = none → H dx = none → dx ≠ x → sp (.ref x :: (vs ++ dvs)) (upd (upd H dx (.own x)) x (.ins C dx [])) (fun v H2 => v = .non ∧ Q (.ref x) H2) E
theorem guards_make {A : Around} {us : List Value} {kw : List (Str × Value)} (h : A.guards = some []) : (A.under (.builtin "type.__call__" ⟨.ref C :: us, kw⟩)).guards = some [] := by
  show pushGuards (Code.guards (.builtin "type.__call__" ⟨.ref C :: us, kw⟩)) A.guards = some []
  have e : Code.guards (.builtin "type.__call__" ⟨.ref C :: us, kw⟩) = [] := by
    unfold Code.guards
    rw [if_neg (by show ¬ (guardIds.contains "type.__call__" = true); decide)]
  rw [e]
  exact h
theorem Prom.make (M : Mk X.K C f) (F : PromX X CX k f dvs sp) (hr : Room (k + 1) X.A) (hg : X.A.guards = some []) (hx : Passes CX X E) : CallR X (.ref C) (rMk C sp dvs E) := by
  intro pins s σ H vs us Q I r h
  unfold rMk at h
  obtain ⟨fd, ps, ds, G, b, hd⟩ := F
  have hq := h (s.heap.objs.size + 1) s.heap.objs.size (I.hok.fresh (Nat.le_succ _)) (I.hok.fresh (Nat.le_refl _)) (Nat.ne_of_lt (Nat.lt_succ_self _))
  have I2 := Inv.made (C := C) I
  have r2 : Vals (V.ref (s.heap.objs.size + 1) :: (vs ++ dvs)) (Value.ref (s.heap.objs.size + 1) :: (us ++ ds)) := .cons rfl (r.append hd)
  have hl : (Value.ref (s.heap.objs.size + 1) :: us ++ ds).length = ps.length := by
    have e := r2.length
    rw [G.len _ _ _ _ hq] at e
    exact e.symm
  refine wpAny_call (make_map (f := f) I.kIn M.makes M.init (beq_iff_eq.mp M.fn) (codeAny_mono (G.run _ X.stack _ _ ⟨Value.ref (s.heap.objs.size + 1) :: us, []⟩ (Value.ref (s.heap.objs.size + 1) :: (us ++ ds)) _ _ E (hr.make C us []) (guards_make hg)
    (I2.env0.make C us []) (b _ (Value.ref (s.heap.objs.size + 1) :: us) I2.kIn hl) r2 hq) fun r s' hq' => ?_))
  cases r with
  | error e => exact hx pins σ _ _ e s' I2 hq'
  | ok fl =>
    cases fl with
    | ret u =>
      obtain ⟨v, H', I3, rv, ev, q3⟩ := I2.after hq'
      subst ev
      exact ⟨rv, ⟨V.ref (s.heap.objs.size + 1), H', I3, rfl, q3⟩⟩
    | next => exact False.elim hq'
    | brk => exact False.elim hq'
    | cont => exact False.elim hq'
def tCl (r : List V → Hp → VK → Prop) (t : TA) : TE := fun σ H Q => t σ H fun vs H1 => r vs H1 Q
/-- x(e, ..), x a name of the module that holds a def or a class -/
theorem pe_g (R : CallR X (.ref f) r) (hg : Gl X x) (hm : X.mg x = some (.ref f)) (hk : PySem.W.keepIn X.K (.ref f) = true)
    (ha : PA X (e :: es) t) (hdb : (x == ("__debug__" : Str)) = false := by decide) (he : starEach (e :: es) X.env = (false, eval e X.env) :: starEach es X.env := by rfl) (hpl : (backTo pos (starEach es X.env)).any (·.1) = false := by rfl) :
    PE X (.Call (.Name x p) (e :: es) [] pos) (tCl r t) := by
  refine ⟨fun pins s σ H Q I h => ?_⟩
  refine wpAny_Call_Name_kw (ld_glob I hg hm ?_ hdb)
  refine PySem.W.callWith_K (h₀ := X.base) I.ok.mod.kin hk (thn (ha.run pos pins s σ H _ I h) fun us s1 ⟨vs, H1, I1, r, q⟩ => ⟨I1.kIn, ?_⟩) he hpl
  exact R pins s1 σ H1 vs us Q I1 r q
/-- x() -/
theorem pe_g0 (R : CallR X (.ref f) r) (hg : Gl X x) (hm : X.mg x = some (.ref f)) (hk : PySem.W.keepIn X.K (.ref f) = true) (hdb : (x == ("__debug__" : Str)) = false := by decide) : PE X (.Call (.Name x p) [] [] pos) (tCl r tNil) := by
  refine ⟨fun pins s σ H Q I h => ?_⟩
  refine wpAny_Call_Name_kw (ld_glob I hg hm ?_ hdb)
  exact PySem.W.callWith_K0 I.kIn hk (R pins s σ H [] [] Q I .nil h)
/-- o.m(e, ..) -/
def tMt (C : Addr) (m : Str) (r : List V → Hp → VK → Prop) (ta : TE) (t : TA) : TE := fun σ H Q => ta σ H fun x H1 => ∃ a dx fs, x = .ref a ∧ H1 a = some (.ins C dx fs) ∧ fs.lookup m = none ∧ t σ H1 fun vs H2 => r (x :: vs) H2 Q
theorem pe_m {pl : Sem Bool} (he : PE X o ta) (c : Cls X.K C) (hm : Meth X.K C m f) (R : CallR X (.ref f) r) (ha : PA X (e :: es) t)
    (hst : starEach (e :: es) X.env = (false, eval e X.env) :: starEach es X.env := by rfl) (hpl : (backTo pos (starEach es X.env)).any (·.1) = false := by rfl)
    (ht : eval (.Call (.Attribute o m apos) (e :: es) [] pos) X.env = (do
      let ov ← eval o X.env
      standAt apos.atName
      let (f, first) ← holding [ov] (getMethod ov m pl)
      callWith pos f first (backTo pos (starEach (e :: es) X.env)) (backToKw pos (keywordEach [] X.env))) := by rfl) :
    PE X (.Call (.Attribute o m apos) (e :: es) [] pos) (tMt C m r ta t) := by
  refine ⟨fun pins s σ H Q I h => ?_⟩
  refine PySem.W.methodCall_KW (pl := pl) (thn (he.run pins s σ H _ I h) fun u s1 ⟨x, H1, I1, rx, a, dx, fs, ex, ea, l, q⟩ => ?_) ht
  subst ex
  obtain rfl : u = Value.ref a := rx
  refine getmeth_ok I1 ea c hm l ?_
  refine PySem.W.callWith_K (first := [.ref a]) (h₀ := X.base) I.ok.mod.kin hm.kp (thn (ha.run pos pins s1 σ H1 _ I1 q) fun us s2 ⟨vs, H2, I2, r, q2⟩ => ⟨I2.kIn, ?_⟩) hst hpl
  exact R pins s2 σ H2 (.ref a :: vs) (.ref a :: us) Q I2 (.cons rfl r) q2
theorem pe_m0 {pl : Sem Bool} (he : PE X o ta) (c : Cls X.K C) (hm : Meth X.K C m f) (R : CallR X (.ref f) r)
    (ht : eval (.Call (.Attribute o m apos) [] [] pos) X.env = (do
      let ov ← eval o X.env
      standAt apos.atName
      let (f, first) ← holding [ov] (getMethod ov m pl)
      callWith pos f first (backTo pos (starEach [] X.env)) (backToKw pos (keywordEach [] X.env))) := by rfl) :
    PE X (.Call (.Attribute o m apos) [] [] pos) (tMt C m r ta tNil) := by
  refine ⟨fun pins s σ H Q I h => ?_⟩
  refine PySem.W.methodCall_KW (pl := pl) (thn (he.run pins s σ H _ I h) fun u s1 ⟨x, H1, I1, rx, a, dx, fs, ex, ea, l, q⟩ => ?_) ht
  subst ex
  obtain rfl : u = Value.ref a := rx
  refine getmeth_ok I1 ea c hm l ?_
  exact PySem.W.callWith_K0 (first := [.ref a]) I1.kIn hm.kp (R pins s1 σ H1 [.ref a] [.ref a] Q I1 (.cons rfl .nil) q)
/-- o.f, a property -/
def tPr (C : Addr) (sp : Sp) (dvs : List V) (E : XK) (ta : TE) : TE := fun σ H Q => ta σ H fun x H1 => ∃ a dx fs, x = .ref a ∧ H1 a = some (.ins C dx fs) ∧ sp (.ref a :: dvs) H1 Q E
theorem pe_p {pp : Addr} (he : PE X o ta) (c : Cls X.K C) (hp : PropOf X.K C m pp g) (F : PromX X CX k g dvs sp) (hr : Room (k + 1) X.A) (hg : X.A.guards = some []) (hx : Passes CX X.nox E)
    (hab : attributeBase o m X.env (eval o X.env) = eval o X.env := by rfl) : PE X (.Attribute o m pos) (tPr C sp dvs E ta) := by
  refine ⟨fun pins s σ H Q I0 h => ?_⟩
  refine attr_of hab (thn (he.run pins s σ H _ I0 h) fun u s1 ⟨x, H1, I, rx, a, dx, fs, ex, ea, q⟩ => ?_)
  subst ex
  obtain rfl : u = Value.ref a := rx
  obtain ⟨fd, ps, ds, G, b, hd⟩ := F
  obtain ⟨mA, O, _, _, _, _⟩ := ins_get I.hok ea
  obtain ⟨od, J, _⟩ := O.look
  obtain ⟨rest, hrec⟩ := hp.rec_
  have I1 := I.tok (s1.toks + 1)
  have hl : ([Value.ref a] ++ ds).length = ps.length := by
    rw [← G.len _ _ _ _ q]
    show ds.length + 1 = dvs.length + 1
    rw [hd.length]
  have hc : (PySem.W.clsIn X.K C).isSome = true := by
    obtain ⟨cd, hc, _⟩ := PySem.W.any_some c.hd
    rw [hc]
    rfl
  refine PySem.W.get_bind I.kIn J (PySem.W.plainGet_of (c.get m)).1 (PySem.W.findObj_data hc hp.at_ hp.get hp.tak) (PySem.W.plainGet_of (c.get m)).2 (wpAny_call (PySem.W.prop_get (s := { s1 with toks := s1.toks + 1 }) I.kIn hrec ?_))
  refine codeAny_mono (G.run X.A.in1 X.stack { s1 with toks := s1.toks + 1 } H1 ⟨[.ref a], []⟩ (.ref a :: ds) (.ref a :: dvs) Q E hr.in1 hg I1.env0.in1 (b _ [.ref a] I1.kIn hl) (.cons rfl hd) q) fun r s' hq => ?_
  cases r with
  | error er => exact False.elim (hx pins σ H1 { s1 with toks := s1.toks + 1 } er s' (I1.wish _) hq)
  | ok fl =>
    cases fl with
    | ret u =>
      obtain ⟨v, H', I3, rv, q3⟩ := I1.after hq
      show wpAny _ _ (handedOut u) _ _ _
      rw [PySem.W.handedOut_of (handed_of rv)]
      exact wpAny_pure ⟨v, H', I3, rv, q3⟩
    | next => exact False.elim hq
    | brk => exact False.elim hq
    | cont => exact False.elim hq
/-! ### operators of one's own -/
/-- a comparison of two instances by the left one's method -/
@[irreducible] def rCmp (K : PySem.W.Frag) (C : Addr) (r : List V → Hp → VK → Prop) : R2 := fun x y H Q => ∃ a dx fs b C' dy gs, x = .ref a ∧ y = .ref b ∧ H a = some (.ins C dx fs) ∧ H b = some (.ins C' dy gs) ∧ PySem.W.notFirst K C (.ref C') = true ∧ r [x, y] H Q
theorem ins_look {pins : List (Addr × Obj)} {σ : L2.St} {H : Hp} {s : Shared} {a dx : Addr} {fs : List (Str × V)} (I : Inv X pins σ H s) (h : H a = some (.ins C dx fs)) : ∃ ox od, PySem.W.InstAt s.heap a ox C od := by
  obtain ⟨mA, O, _, _, _, _⟩ := ins_get I.hok h
  obtain ⟨od, J, _⟩ := O.look
  exact ⟨_, _, J⟩
theorem cmp_back {pins : List (Addr × Obj)} {σ : L2.St} {Q : VK} {u : Value} {s' : Shared} (h : EP X pins σ Q u s') : PySem.W.CmpBack (EP X pins σ Q) u s' := by
  obtain ⟨v, H', I', rv, q⟩ := h
  cases v with
  | non => cases (show u = Value.none from rv); exact ⟨.non, H', I', rfl, q⟩
  | bl b => cases (show u = Value.bool b from rv); exact ⟨.bl b, H', I', rfl, q⟩
  | int i => obtain ⟨t, z⟩ := (show ∃ t, u = Value.int i t from rv); subst z; exact ⟨.int i, H', I', ⟨t, rfl⟩, q⟩
  | str i => obtain ⟨t, z⟩ := (show ∃ t, u = Value.str i t from rv); subst z; exact ⟨.str i, H', I', ⟨t, rfl⟩, q⟩
  | byt i => obtain ⟨t, z⟩ := (show ∃ t, u = Value.bytes i t from rv); subst z; exact ⟨.byt i, H', I', ⟨t, rfl⟩, q⟩
  | flt i => obtain ⟨t, z⟩ := (show ∃ t, u = Value.float i t from rv); subst z; exact ⟨.flt i, H', I', ⟨t, rfl⟩, q⟩
  | ref a => cases (show u = Value.ref a from rv); exact ⟨.ref a, H', I', rfl, q⟩
  | ty n => cases (show u = Value.type n from rv); exact ⟨.ty n, H', I', rfl, q⟩
theorem op_cmp {op : CmpOp} (hop : ∀ a b, compareOp op a b = richCompare op a b) (hs : PySem.W.findIn X.K (.ref C) (cmpInfo op).2.1 = some (some (.ref g))) (hf : PySem.W.isFn X.K (.ref g) = true) (hu : X.A.units < cLine)
    (R : CallR X (.ref g) r) : OpR X (compareOp op) (rCmp X.K C r) := by
  intro pins s σ H x y v u Q I rx ry h
  unfold rCmp at h
  obtain ⟨a, dx, fs, b, C', dy, gs, rfl, rfl, ha, hb, hn, q⟩ := h
  cases (show v = Value.ref a from rx)
  cases (show u = Value.ref b from ry)
  obtain ⟨ox, od, J⟩ := ins_look I ha
  obtain ⟨ox', od', J'⟩ := ins_look I hb
  obtain ⟨m, hF⟩ := I.fr
  rw [hop]
  refine PySem.W.cmp_K (op := op) (tb := .ref C') hu hF I.ok.mod.kin J J'.type hn hs hf ?_
  exact wpAny_mono (R pins s σ H [.ref a, .ref b] [.ref a, .ref b] Q I (.cons rfl (.cons rfl .nil)) q) (fun w s' z => cmp_back z) fun _ _ x => x
/-- an operator of one's own class, the right one an instance of the same class -/
@[irreducible] def rBin (C : Addr) (r : List V → Hp → VK → Prop) : R2 := fun x y H Q => ∃ a dx fs b dy gs, x = .ref a ∧ y = .ref b ∧ H a = some (.ins C dx fs) ∧ H b = some (.ins C dy gs) ∧ r [x, y] H Q
theorem op_bin {op : Operator} (hc : PySem.W.selfFirst X.K C = true) (hs : PySem.W.findIn X.K (.ref C) (PySem.dunder op.info.2) = some (some (.ref g))) (hf : PySem.W.isFn X.K (.ref g) = true)
    (R : CallR X (.ref g) r) : OpR X (binaryOp op) (rBin C r) := by
  intro pins s σ H x y v u Q I rx ry h
  unfold rBin at h
  obtain ⟨a, dx, fs, b, dy, gs, rfl, rfl, ha, hb, q⟩ := h
  cases (show v = Value.ref a from rx)
  cases (show u = Value.ref b from ry)
  obtain ⟨ox, od, J⟩ := ins_look I ha
  obtain ⟨ox', od', J'⟩ := ins_look I hb
  obtain ⟨m, hF⟩ := I.fr
  refine PySem.W.binop_K hF I.ok.mod.kin J J'.type hc hs hf ?_
  exact wpAny_mono (R pins s σ H [.ref a, .ref b] [.ref a, .ref b] Q I (.cons rfl (.cons rfl .nil)) q) (fun w s' z => cmp_back z) fun _ _ x => x
/-- .. the right one an int -/
@[irreducible] def rBinI (C : Addr) (r : List V → Hp → VK → Prop) : R2 := fun x y H Q => ∃ a dx fs i, x = .ref a ∧ y = .int i ∧ H a = some (.ins C dx fs) ∧ r [x, y] H Q
theorem op_binI {op : Operator} {fo ro rc : Option Value} (hc : PySem.W.selfFirst X.K C = true) (hs : PySem.W.findIn X.K (.ref C) (PySem.dunder op.info.2) = some (some (.ref g))) (hf : PySem.W.isFn X.K (.ref g) = true)
    (hr : PySem.W.findIn X.K (.ref C) (dunderR op.info.2) = some rc) (hp : rc = none ∨ ∃ g : Addr, rc = some (.ref g))
    (h1 : PySem.W.findIn X.K (.type "int") (PySem.dunder op.info.2) = some fo) (h2 : PySem.W.findIn X.K (.type "int") (dunderR op.info.2) = some ro) (hsub : PySem.W.subIn X.K (.type "int") (.ref C) = some false)
    (R : CallR X (.ref g) r) : OpR X (binaryOp op) (rBinI C r) := by
  intro pins s σ H x y v u Q I rx ry h
  unfold rBinI at h
  obtain ⟨a, dx, fs, i, rfl, rfl, ha, q⟩ := h
  cases (show v = Value.ref a from rx)
  obtain ⟨t, z⟩ := (show ∃ t, u = Value.int i t from ry)
  subst z
  obtain ⟨ox, od, J⟩ := ins_look I ha
  obtain ⟨m, hF⟩ := I.fr
  refine PySem.W.ksp_binT (T := "int") hF I.ok.mod.kin J rfl hc hs hf hr hp h1 h2 hsub ?_
  exact wpAny_mono (R pins s σ H [.ref a, .int i] [.ref a, .int i t] Q I (.cons rfl (.cons ⟨t, rfl⟩ .nil)) q) (fun w s' z => cmp_back z) fun _ _ x => x
/-! ### repr -/
/-- repr(x), x told as data -/
@[irreducible] def rRepr (K : PySem.W.Frag) : List V → Hp → VK → Prop := fun xs H Q => ∃ a d, xs = [.ref a] ∧ Dp K H (.ref a) d ∧ d.showable = true ∧ d.hasDict = false ∧ d.depth ≤ 100 ∧ d.shown.length ≤ sizeLine ∧ Q (.str d.shown) H
theorem call_reprD (hu : X.A.units + 102 < cLine) (hg : X.A.guards = some []) : CallR X (.builtin "repr") (rRepr X.K) := by
  intro pins s σ H xs us Q I r h
  unfold rRepr at h
  obtain ⟨a, d, rfl, hd, h1, h2, h3, h4, q⟩ := h
  cases r with
  | cons r1 r2 =>
    cases r2
    rename_i u
    cases (show u = Value.ref a from r1)
    obtain ⟨as, rd⟩ := Dp.reads I d _ _ hd rfl
    refine repr_of_reads' rd h1 (fun z => by rw [h2] at z; cases z) hg (by omega) (fun _ _ e => e) (fun h' u tk k => ⟨.str d.shown, H, I.kept k, ⟨u, rfl⟩, q⟩) h4
end
end Gh

set_option Elab.async false
set_option linter.all false
set_option maxRecDepth 100000
set_option maxHeartbeats 4000000
/-! En: the end of a law's row over promises that know that nothing is being shown. -/
namespace Gh
open PySem PySem.Spec PyProof.Rows L2
theorem law_callG {P : Program} {w : World} {K : PySem.W.Frag} {mg mb : Str → Option Value} {CX : CXT} {k : Nat} {fa a : Addr} {fd : FuncData} {x : Str} {sp : Sp} {s₁ : Shared} {vs : List Value} {ns : List Int}
    (KX : K.In s₁.heap) (hns : s₁.heap.Ns mainGlobals mg) (hb : s₁.heap.Ns builtinsNs mb) (hbb : ∀ x : Str, x ≠ "__name__" → mb x = bootBuiltins x) (hlim : s₁.heap.NoLimit) (hg : s₁.gens = #[])
    (ha : s₁.heap.get? a = some { cls := .type "list", data := .seq vs.toArray }) (hi : IntsAre vs ns) (hl : ns.length ≤ sizeLine) (hr : Room k callerA)
    (F : ∀ base : Heap, K.In base → base.Ns mainGlobals mg → FnG P w K mg base CX k fa fd [x] sp) (hbind : ∀ (s : Shared) (u : Value), BindsTo s fd ⟨[u], []⟩ [(x, u)])
    (hsp : ∀ H : Hp, Only H → SqL K H a (ns.map V.int) → sp [.ref a] H (fun v _ => v = .bl true) fun _ _ _ => False)
    (hCX : ∀ H e s', CX [] H s₁ (fun _ _ _ => False) e s' → False) :
    codeAny (model P w) callerA (.call (.ref fa) ⟨[.ref a], []⟩) (fun r s' => r = .ok (.ret (.bool true)) ∧ OldK s₁.heap s'.heap ∧ s'.os = s₁.os ∧ AllBare s'.gens) s₁ := by
  have rv := vals_ints hi
  have lenV := hi.length
  -- from an abstract heap in which nothing but the script may be tracked
  have core : ∀ H : Hp, Only H → SqL K H a (ns.map V.int) → HOk P w H s₁.heap → (∀ b, H b ≠ none → b = a) → (H a ≠ none → K.lookup a = none) →
      codeAny (model P w) callerA (.call (.ref fa) ⟨[.ref a], []⟩) (fun r s' => r = .ok (.ret (.bool true)) ∧ OldK s₁.heap s'.heap ∧ s'.os = s₁.os ∧ AllBare s'.gens) s₁ := by
    intro H hO hS hok hA hK
    have base_of : ∀ {b : Addr} {o : Obj}, s₁.heap.get? b = some o → H b = none → (hidT s₁.heap H).get? b = some o := fun e n => hidT_get e n
    have noA : ∀ {b : Addr} {o : Obj} {es : Array DictEntry} {ep : Nat}, s₁.heap.get? b = some o → o.data = .dict es ep → H b = none := fun {b o es ep} e d => by
      cases q : H b with
      | none => rfl
      | some u =>
        have e' : b = a := hA b (by rw [q]; simp)
        subst e'
        rw [ha] at e; cases e
        have d' : Data.seq vs.toArray _ = Data.dict es ep := d
        cases d'
    have nsK : ∀ {b : Addr} {m : Str → Option Value}, s₁.heap.Ns b m → (hidT s₁.heap H).Ns b m := fun {b m} ⟨o, es, ep, e, d, r⟩ => ⟨o, es, ep, base_of e (noA e d), d, r⟩
    have hKb : K.In (hidT s₁.heap H) := fun b o e => base_of (KX b o e) (by
      cases q : H b with
      | none => rfl
      | some u =>
        have e' : b = a := hA b (by rw [q]; simp)
        subst e'
        rw [hK (by rw [q]; simp)] at e; cases e)
    have hM : Mod K mg (hidT s₁.heap H) := ⟨hKb, nsK hns, ⟨mb, nsK hb, hbb⟩, let ⟨mc, h1, h2⟩ := hlim; ⟨mc, nsK h1, h2⟩⟩
    have e0 : Env0 P w K mg (hidT s₁.heap H) callerA [] s₁ H := ⟨rfl, hM, fun b o e => of_hidT e, Nat.le_of_eq (hidT_size _ _), trivial, fun b hb => absurd (show b ∈ ([] : List Addr) from hb) (by simp), hok, .of_eq hg⟩
    refine codeAny_mono ((F _ hKb (nsK hns)).run callerA [] s₁ H ⟨[.ref a], []⟩ [.ref a] [.ref a] _ _ hr rfl e0 (hbind s₁ (.ref a)) (.cons rfl .nil) (hsp H hO hS)) fun r s' h => ?_
    cases r with
    | error e => exact (hCX H e s' h).elim
    | ok fl =>
      cases fl with
      | next => exact False.elim h
      | brk => exact False.elim h
      | cont => exact False.elim h
      | ret u =>
        obtain ⟨v, H', os, bare, un, hok', r', q⟩ := h
        have q' : v = .bl true := q
        subst q'
        obtain rfl : u = Value.bool true := r'
        refine ⟨rfl, OldK.of_keep fun b o e => ?_, os, bare⟩
        cases q : H b with
        | none => exact un.keep b o e q (by intro z; exact absurd (show b ∈ ([] : List Addr) from z) (by simp)) (by simp)
        | some u =>
          rcases hO b with z | ⟨ob, xs, z⟩
          · rw [q] at z; cases z
          · have z2 := un.frzs b ob _ z
            obtain ⟨e1, _⟩ := hok b _ z
            obtain ⟨e2, _⟩ := hok' b _ z2
            rw [e] at e1; cases e1
            exact e2
  cases hk : K.lookup a with
  | some o =>
    -- the script is one of the module's own objects
    have e := KX a o hk
    rw [ha] at e
    cases e
    refine core (fun _ => none) (fun _ => .inl rfl) (.inr ⟨_, vs.toArray, _, hk, rfl, rfl, rfl, by rw [List.size_toArray, lenV]; exact hl, by simpa using rv⟩) (fun b u z => by have z' : (none : Option HO) = some u := z; cases z') (fun b z => absurd rfl z) fun z => absurd rfl z
  | none =>
    refine core (fun b => if b = a then some (.frz { cls := .type "list", data := .seq vs.toArray } (.lst (ns.map V.int))) else none) (fun b => ?_) (.inl (.inr ⟨{ cls := .type "list", data := .seq vs.toArray }, if_pos rfl⟩)) (fun b u z => ?_) (fun b z => ?_) fun _ => hk
    · by_cases hb : b = a
      · exact .inr ⟨_, _, if_pos hb⟩
      · exact .inl (if_neg hb)
    · by_cases hb : b = a
      · have z' := (if_pos hb).symm.trans z
        cases z'
        subst hb
        exact ⟨ha, by rw [List.length_map]; exact hl, vs, _, rv, ha⟩
      · have z' := (if_neg hb).symm.trans z
        cases z'
    · by_cases hb : b = a
      · exact hb
      · exact absurd (if_neg hb) z
theorem walk_ofG {l : PySem.W.OpenLaw} {n k : Nat} {q : Program} {loose : List Str} {XP : (Str → Option Value) → Heap → Prop} {YP : World → Heap → Prop} {d : DefRec} {CX : World → CXT} {x : Str}
    (hn : l.most = some n) (hn2 : n ≤ sizeLine) (hdf : d.params.defaults = []) (hr : Room k callerA)
    (F : ∀ (w : World) (mg : Str → Option Value) (fa : Addr) (h : Heap), YP w h → h.Ns mainGlobals mg → mg d.name = some (.ref fa) →
      ∃ (K : PySem.W.Frag) (fd : FuncData) (sp : Sp), K.In h ∧ (∀ (s : Shared) (u : Value), BindsTo s fd ⟨[u], []⟩ [(x, u)]) ∧
        (∀ (H : Hp) (a : Addr) (ns : List Int), ns.length ≤ n → Only H → SqL K H a (ns.map V.int) → sp [.ref a] H (fun v _ => v = .bl true) fun _ _ _ => False) ∧
        ∀ base : Heap, K.In base → base.Ns mainGlobals mg → FnG l.prog w K mg base (CX w) k fa fd [x] sp)
    (hCX : ∀ (w : World) (H : Hp) (s : Shared) (e : Value) (s' : Shared), CX w [] H s (fun _ _ _ => False) e s' → False) :
    PySem.W.WalkO q loose XP YP l.row.toRowW d [] (fun f vs => PySem.call f vs) := by
  refine Att.attach_call hn hdf fun w s₀ s₁ mg mb fa o pm cd doc a vs ns G Y ho hd hcd hmg hobj hints hlen hg => ?_
  obtain ⟨K, fd, sp, KX, hb, hsp, hF⟩ := F w mg fa _ Y G.T.g hmg
  exact law_callG KX G.T.g G.T.b G.T.builtins G.T.nolimit hg hobj hints (Nat.le_trans hlen hn2) hr hF hb (fun H hO hS => hsp H a ns hlen hO hS) fun H e s' => hCX w H s₁ e s'
end Gh

set_option Elab.async false
set_option linter.all false
set_option maxRecDepth 100000
set_option maxHeartbeats 4000000
/-! Pn: the pen that draws, its promise; small facts of heaps, lists of ints and what they show. -/
namespace Gh
open PySem PySem.Spec PyProof.Rows L2
/-- what stood stands, but at p -/
def Keep (H H' : Hp) (p : Addr) : Prop := ∀ a o, H a = some o → a ≠ p → H' a = some o
theorem Keep.refl {H : Hp} {p : Addr} : Keep H H p := fun _ _ h _ => h
theorem Keep.trans {H H' H'' : Hp} {p : Addr} (h : Keep H H' p) (k : Keep H' H'' p) : Keep H H'' p := fun a o e n => k a o (h a o e n) n
theorem Keep.new {H H' : Hp} {p q : Addr} {o : HO} (h : Keep H H' p) (n : H' q = none) : Keep H (upd H' q o) p := fun a u e ne => by
  rw [upd_ne (ne_of_none (h a u e ne) n)]
  exact h a u e ne
theorem Keep.put {H H' : Hp} {p : Addr} {o : HO} (h : Keep H H' p) : Keep H (upd H' p o) p := fun a u e ne => by
  rw [upd_ne ne]
  exact h a u e ne
/-- a pen: its cells, the index of the next one, what is left of a great one; b draws may still be made -/
def PenAt (H : Hp) (p : Addr) (b : Nat) : Prop := ∃ (c : Addr) (ns : List Int) (i z : Int), H p = some (.lst [.ref c, .int i, .int z]) ∧ H c = some (.lst (ns.map V.int)) ∧ ns.length ≤ 63 ∧ 0 ≤ i ∧ i + b ≤ 1000000 ∧ 0 ≤ z
theorem PenAt.le {H : Hp} {p : Addr} {a b : Nat} (h : PenAt H p b) (k : a ≤ b) : PenAt H p a := by
  obtain ⟨c, ns, i, z, h1, h2, h3, h4, h5, h6⟩ := h
  exact ⟨c, ns, i, z, h1, h2, h3, h4, by omega, h6⟩
theorem pen_ne {H : Hp} {p c : Addr} {ns : List Int} {i z : Int} (h : H p = some (.lst [.ref c, .int i, .int z])) (k : H c = some (.lst (ns.map V.int))) : c ≠ p := by
  refine ne_of k h fun e => ?_
  have e2 : ns.map V.int = [.ref c, .int i, .int z] := HO.lst.inj e
  cases ns with
  | nil => cases e2
  | cons n r => cases (List.cons.inj e2).1
/-- an object that is no pen, at a new place -/
theorem PenAt.new {H : Hp} {p q : Addr} {b : Nat} {o : HO} (h : PenAt H p b) (n : H q = none) : PenAt (upd H q o) p b := by
  obtain ⟨c, ns, i, z, h1, h2, h3⟩ := h
  exact ⟨c, ns, i, z, by rw [upd_ne (ne_of_none h1 n)]; exact h1, by rw [upd_ne (ne_of_none h2 n)]; exact h2, h3⟩
theorem PenAt.same {H H' : Hp} {p : Addr} {b : Nat} (h : PenAt H p b) (n : L2.Same H H') : PenAt H' p b := by
  obtain ⟨c, ns, i, z, h1, h2, h3⟩ := h
  exact ⟨c, ns, i, z, n _ _ h1, n _ _ h2, h3⟩
/-- the promise of the def that draws -/
def spDraw : Sp := fun vs H Q _ => ∃ (p : Addr) (b : Nat) (m : Int), vs = [.ref p, .int m] ∧ 0 < m ∧ m.natAbs.log2 < 9000 ∧ PenAt H p (b + 1) ∧
  ∀ (d : Int) (H' : Hp), 0 ≤ d → d < m → PenAt H' p b → Keep H H' p → Q (.int d) H'
/-- the promise of the def that makes a pen -/
def spPen (K : PySem.W.Frag) : Sp := fun vs H Q _ => ∃ (a : Addr) (ns : List Int), vs = [.ref a] ∧ SqL K H a (ns.map V.int) ∧ ns.length ≤ 63 ∧ ∀ (p : Addr) (H' : Hp), H p = none → PenAt H' p 1000000 → L2.Same H H' → Q (.ref p) H'
theorem dp_ints (K : PySem.W.Frag) (H : Hp) : ∀ ns : List Int, DpAll K H (ns.map V.int) (ns.map PyData.int)
  | [] => .nil
  | n :: r => .cons (.int n) (dp_ints K H r)
theorem eqv_nil (ds : List PyData) : PyData.eqv (.list ds) (.list []) = ds.isEmpty := by
  cases ds <;> rfl
theorem same_new {H : Hp} {q : Addr} {o : HO} (n : H q = none) : L2.Same H (upd H q o) := fun a u e => by
  rw [upd_ne (ne_of_none e n)]
  exact e
theorem atI_int {ns : List Int} {i : Int} (h0 : 0 ≤ i) (h1 : i < ns.length) : ∃ v, atI (ns.map V.int) i = some (.int v) ∧ v ∈ ns := by
  obtain ⟨j, rfl⟩ : ∃ j : Nat, i = j := ⟨i.toNat, by omega⟩
  have hl : j < ns.length := by omega
  refine ⟨ns[j], atI_nat ?_, List.getElem_mem hl⟩
  rw [List.getElem?_map, List.getElem?_eq_getElem hl]
  rfl
theorem pow_lt {i : Int} (h0 : 0 ≤ i) (h1 : i < 18446744073709551616) : i.natAbs < 2 ^ 64 := by
  have e : (2 : Nat) ^ 64 = 18446744073709551616 := by decide
  rw [e]
  omega
theorem mix_ok {x i a b c : Int} (h0 : 0 ≤ x) (h1 : x < 4294967296) (h2 : 0 ≤ i) (h3 : i ≤ 1000000) (ha : 0 ≤ a ∧ a ≤ 1000000) (hb : 0 ≤ b ∧ b ≤ 1000000) (hc : 0 ≤ c ∧ c ≤ 1000000) : (x * (2 * i + a) + b * i * i + c).natAbs < 2 ^ 64 := by
  have hii : 0 ≤ i * i ∧ i * i ≤ 1000000 * 1000000 := ⟨Int.mul_nonneg h2 h2, Int.mul_le_mul h3 h3 h2 (by decide)⟩
  have hxi : 0 ≤ x * (2 * i + a) ∧ x * (2 * i + a) ≤ 4294967296 * 4000000 := ⟨Int.mul_nonneg h0 (by omega), Int.mul_le_mul (by omega) (by omega) (by omega) (by decide)⟩
  have hbi : 0 ≤ b * (i * i) ∧ b * (i * i) ≤ 1000000 * (1000000 * 1000000) := ⟨Int.mul_nonneg hb.1 hii.1, Int.mul_le_mul hb.2 hii.2 hii.1 (by decide)⟩
  have e : b * i * i = b * (i * i) := Int.mul_assoc _ _ _
  refine pow_lt ?_ ?_ <;> (rw [e]; omega)
/-- 10 ** 18, a number's last part -/
theorem mod_lt (x : Int) {m : Int} (h : 0 < m) : 0 ≤ x % m ∧ x % m < m := ⟨Int.emod_nonneg _ (by omega), Int.emod_lt_of_pos _ h⟩
theorem log_small {m : Int} {n : Nat} (h0 : 0 < m) (h : m < 2 ^ n) (hn : 0 < n) (h9 : n ≤ 9000) : m.natAbs.log2 < 9000 := by
  refine Nat.lt_of_lt_of_le (PySem.Flt.log2_lt_of hn ?_) h9
  have e : ((m.natAbs : Nat) : Int) = m := by omega
  have h2 : ((m.natAbs : Nat) : Int) < ((2 ^ n : Nat) : Int) := by rw [e]; exact_mod_cast h
  exact_mod_cast h2
theorem cut_all {xs : List V} {n : Nat} (h : xs.length ≤ n) : cutV xs none (some (n : Int)) = xs := by
  unfold cutV
  rw [HT.sIx_none, HT.sIx_nat, Nat.min_eq_right h, List.drop_zero, Nat.sub_zero]
  exact List.take_length
theorem no_field {x y : Str} {v : V} (h : (y == x) = false) : ([(x, v)] : List (Str × V)).lookup y = none := by
  show (match y == x with
    | true => some v
    | false => ([] : List (Str × V)).lookup y) = none
  rw [h]
  rfl
/-- the promise of the def that picks -/
def spPick : Sp := fun vs H Q _ => ∃ (p : Addr) (b : Nat) (l : Addr) (xs : List V), vs = [.ref p, .ref l] ∧ H l = some (.lst xs) ∧ 0 < xs.length ∧ xs.length ≤ 1000 ∧ l ≠ p ∧ PenAt H p (b + 1) ∧
  ∀ (j : Nat) (v : V) (H' : Hp), xs[j]? = some v → PenAt H' p b → Keep H H' p → Q v H'
theorem yes_ite {σ : L2.St} {H : Hp} {F G : Hp → Prop} (h : F H) : tYes σ H (fun b H3 => if b = true then F H3 else G H3) := by
  show (if true = true then F H else G H)
  rw [if_pos rfl]
  exact h
/-- what int(x) of an int or a truth asks -/
abbrev rInt1 : List V → Hp → VK → Prop := fun xs H Q => (∃ i, xs = [V.int i] ∧ Q (V.int i) H) ∨ ∃ k, xs = [V.bl k] ∧ Q (V.int (if k = true then 1 else 0)) H
/-- [int(x) for x in xs], xs a list of ints: a new list of the same ints -/
theorem lc_int {K : PySem.W.Frag} {a : Addr} {ns : List Int} {i : Nat} {σ : L2.St} {H : Hp} {Q : Addr → Hp → Prop} (hS : SqL K H a (ns.map V.int)) (hl : ns.length ≤ 1000000) (hw : ∀ x, wipe ((wipe σ [i]).set i (some x)) [i] = wipe σ [i]) (hv : ∀ x, ((wipe σ [i]).set i (some x))[i]? = some (some x))
    (q : ∀ G H', L2.Same H H' → H G = none → H' G = some (.lst (ns.map V.int)) → Q G H') :
    ∀ D, H D = none → ∃ W : Nat → Nat → Hp → Prop, (∃ m, W 0 m (upd H D (.lst []))) ∧ ∀ j m H1, W j m H1 →
      ((Itl K a).stop j H1 ∧ Q D H1) ∨ ((Itl K a).go j H1 ∧ ∃ Nx : Hp → Prop, (∀ H', Nx H' → ∃ m', m' < m ∧ W (j + 1) m' H') ∧ ∀ x H', (Itl K a).yld j H1 x H' → gName i x (wipe σ [i]) H' fun σ2 H2 => wipe σ2 [i] = wipe σ [i] ∧ tYes σ2 H2 fun b H3 =>
        if b = true then tCB rInt1 (tCons (tVar i) tNil) σ2 H3 fun y H4 => ∃ acc, H4 D = some (.lst acc) ∧ acc.length < sizeLine ∧ Nx (upd H4 D (.lst (acc ++ [y]))) else Nx H3) := by
  intro D nD
  refine lc_list (K := K) (a := a) (xs := ns.map V.int) (fun j H2 => L2.Same H H2 ∧ H2 D = some (.lst ((ns.map V.int).take j))) ⟨same_new nD, upd_same⟩ (fun j H2 _ z => z.1.seq hS) (fun j x H2 hx z => ?_) (fun H2 z => ?_)
  · obtain ⟨n, rfl⟩ : ∃ n, x = V.int n := by
      rw [List.getElem?_map] at hx
      cases e : ns[j]? with
      | none => rw [e] at hx; cases hx
      | some n => rw [e] at hx; exact ⟨n, (Option.some.inj hx).symm⟩
    refine ⟨hw _, yes_ite ?_⟩
    refine ⟨_, hv _, .inl ⟨n, rfl, _, z.2, ?_, ?_, ?_⟩⟩
    · rw [List.length_take, List.length_map]
      exact Nat.lt_of_le_of_lt (Nat.min_le_right _ _) (Nat.lt_of_le_of_lt hl (by decide))
    · exact fun b u e => by
        rw [upd_ne (ne_of_none e nD)]
        exact z.1 _ _ e
    · rw [upd_same, List.take_add_one, hx]
      rfl
  · refine q D H2 z.1 nD ?_
    rw [z.2, List.take_of_length_le (Nat.le_refl _)]
/-- a statement, then the rest, with a word M between them -/
def tCut (t u : TS) : TS := fun D σ H => ∃ M : L2.St → Hp → Prop, t { D with nx := M } σ H ∧ ∀ σ' H', M σ' H' → u D σ' H'
theorem pss_cut {X : Cx} {st : Stmt} {rest : List Stmt} {t u : TS} (h1 : PS X st t) (h2 : PSs X rest u) : PSs X (st :: rest) (tCut t u) := by
  refine ⟨fun pins s σ H D I h => ?_⟩
  obtain ⟨M, hm, hu⟩ := h
  refine wpAny_execs_cons (thn (h1.run pins s σ H { D with nx := M } I hm) fun f s1 q => ?_)
  cases f with
  | next =>
    obtain ⟨σ1, H1, I1, q1⟩ := q
    exact h2.run pins s1 σ1 H1 D I1 (hu σ1 H1 q1)
  | ret v => exact q
  | brk => exact q
  | cont => exact q
end Gh

set_option Elab.async false
set_option linter.all false
set_option maxRecDepth 100000
set_option maxHeartbeats 4000000
/-! Rk: rules that name the written part (so that they serve inside comprehensions too). -/
namespace Gh
open PySem PySem.Spec PyProof.Rows L2
theorem PenAt.ne {H : Hp} {p c : Addr} {b : Nat} (h : PenAt H p b) (n : H c = none) : c ≠ p := by
  obtain ⟨d, ns, i, z, h1, _⟩ := h
  exact (ne_of_none h1 n).symm
/-- a def that lets no error out -/
theorem fnG0 {P : Program} {w : World} {K : PySem.W.Frag} {mg : Str → Option Value} {base : Heap} {CX : CXT} {k : Nat} {f : Addr} {fd : FuncData} {ps : List Str} {sp : Sp} {dvs : List V} {x qual : Str} {params : Arguments} {body : List Stmt} {scope : Scope} {kws : List (Str × V)} {N : List Str}
    (F : FunD K x qual params body scope dvs kws f fd) (S : FnScope N ps scope) (len : ∀ vs H Q E, sp vs H Q E → vs.length = ps.length)
    (hbody : ∀ (cdv : Value) (A : Around) (outer : List Env) (s : Shared) (H : Hp) (vs : List V) (Q : VK) (E : XK), Room k (A.deeper (envOfC qual scope s.heap.objs.size f cdv)) → (A.deeper (envOfC qual scope s.heap.objs.size f cdv)).guards = some [] → sp vs H Q E →
      ∃ t, PSs (cxOf CX P w K mg base N qual scope f cdv A outer s H E).nox body t ∧ t { nx := fun _ H' => Q .non H', rt := Q } (start N vs) H) : FnG P w K mg base CX (k + 1) f fd ps sp :=
  fnG_of F S len fun cdv A outer s H vs Q E hr hg h => by
    obtain ⟨t, ht, q⟩ := hbody cdv A outer s H vs Q E hr hg h
    exact ⟨t, PSs.nox ht, q⟩
section
variable {X : Cx} {K : PySem.W.Frag}
theorem ix_listK (h : X.K = K) : IxR X (rIxL K) := h ▸ ix_list
theorem ix_tupK (h : X.K = K) : IxR X (rIxT K) := h ▸ ix_tup
theorem call_lenK (h : X.K = K) : CallR X (.builtin "len") (fun xs H Q => ∃ x n, xs = [x] ∧ LenV K x H n ∧ Q (.int n) H) := h ▸ call_len
theorem call_isiK1 (h : X.K = K) : CallR X (.builtin "isinstance") (rIsi K) := h ▸ call_isi
theorem call_reprK (h : X.K = K) (hu : X.A.units + 102 < cLine) (hg : X.A.guards = some []) : CallR X (.builtin "repr") (rRepr K) := h ▸ call_reprD hu hg
end
end Gh

set_option Elab.async false
set_option linter.all false
set_option maxRecDepth 100000
set_option maxHeartbeats 0
namespace Lw
open PySem PySem.Spec PyProof.Rows L2 Gh
def top (i : Nat) : Stmt := PySem.Challenge.pw_everyhunt_k04_spans_in_order.main.body.getD i (.Pass ⟨0, 0, 0, 0⟩)
abbrev s_is_integer : Stmt := top 8
def d_is_integer : Df := ⟨gd "is_integer", "is_integer", "is_integer", s_is_integer, []⟩
abbrev s_is_within : Stmt := top 9
def d_is_within : Df := ⟨gd "is_within", "is_within", "is_within", s_is_within, []⟩
abbrev s_Span___init__ : Stmt := inClass (top 16) 1
def d_Span___init__ : Df := ⟨md "Span" "__init__", "__init__", "Span.__init__", s_Span___init__, [.int 0, .int 0]⟩
abbrev s_Span_halves : Stmt := inClass (top 16) 4
def d_Span_halves : Df := ⟨propG "Span" "halves", "halves", "Span.halves", s_Span_halves, []⟩
abbrev s_Span_more : Stmt := inClass (top 16) 5
def d_Span_more : Df := ⟨propG "Span" "more", "more", "Span.more", s_Span_more, []⟩
abbrev s_Span_odd : Stmt := inClass (top 16) 6
def d_Span_odd : Df := ⟨propG "Span" "odd", "odd", "Span.odd", s_Span_odd, []⟩
abbrev s_Span_plus : Stmt := inClass (top 16) 10
def d_Span_plus : Df := ⟨md "Span" "plus", "plus", "Span.plus", s_Span_plus, []⟩
abbrev s_Span___add__ : Stmt := inClass (top 16) 11
def d_Span___add__ : Df := ⟨md "Span" "__add__", "__add__", "Span.__add__", s_Span___add__, []⟩
abbrev s_Span_is_below : Stmt := inClass (top 16) 17
def d_Span_is_below : Df := ⟨md "Span" "is_below", "is_below", "Span.is_below", s_Span_is_below, []⟩
abbrev s_Span___le__ : Stmt := inClass (top 16) 18
def d_Span___le__ : Df := ⟨md "Span" "__le__", "__le__", "Span.__le__", s_Span___le__, []⟩
abbrev s_Span___lt__ : Stmt := inClass (top 16) 19
def d_Span___lt__ : Df := ⟨md "Span" "__lt__", "__lt__", "Span.__lt__", s_Span___lt__, []⟩
abbrev s_Span___ge__ : Stmt := inClass (top 16) 20
def d_Span___ge__ : Df := ⟨md "Span" "__ge__", "__ge__", "Span.__ge__", s_Span___ge__, []⟩
abbrev s_Span___gt__ : Stmt := inClass (top 16) 21
def d_Span___gt__ : Df := ⟨md "Span" "__gt__", "__gt__", "Span.__gt__", s_Span___gt__, []⟩
abbrev s__law_pen : Stmt := top 20
def d__law_pen : Df := ⟨gd "_law_pen", "_law_pen", "_law_pen", s__law_pen, []⟩
abbrev s__law_draw : Stmt := top 21
def d__law_draw : Df := ⟨gd "_law_draw", "_law_draw", "_law_draw", s__law_draw, []⟩
abbrev s__law_pick : Stmt := top 22
def d__law_pick : Df := ⟨gd "_law_pick", "_law_pick", "_law_pick", s__law_pick, []⟩
abbrev s__law_number : Stmt := top 23
def d__law_number : Df := ⟨gd "_law_number", "_law_number", "_law_number", s__law_number, []⟩
abbrev s__law_orders : Stmt := top 24
def d__law_orders : Df := ⟨gd "_law_orders", "_law_orders", "_law_orders", s__law_orders, []⟩
abbrev s_law : Stmt := top 25
def d_law : Df := ⟨gd "law", "law", "law", s_law, []⟩
def fns : List Df := [d_is_integer, d_is_within, d_Span___init__, d_Span_halves, d_Span_more, d_Span_odd, d_Span_plus, d_Span___add__, d_Span_is_below, d_Span___le__, d_Span___lt__, d_Span___ge__, d_Span___gt__, d__law_pen, d__law_draw, d__law_pick, d__law_number, d__law_orders, d_law]
-- GLAW 45
def exs : List (PySem.W.Frag → Bool) := [fa (.free "isinstance"), fa (.free "int"), fa (.free "bool"), fa (.free "len"), fa (.free "list"), fa (.free "abs"), fa (.free "min"), fa (.free "max"), fa (.free "range"), fa (.free "repr"), fa (.glo "is_integer"), fa (.keep "is_integer"), fa (.glo "is_within"), fa (.keep "is_within"), fa (.glo "_law_pen"), fa (.keep "_law_pen"), fa (.glo "_law_draw"), fa (.keep "_law_draw"), fa (.glo "_law_pick"), fa (.keep "_law_pick"), fa (.glo "_law_number"), fa (.keep "_law_number"), fa (.glo "_law_orders"), fa (.keep "_law_orders"), fa (.glo "Span"), fa (.keep "Span"), fa (.int "MOST_HALVES" 8), fa (.int "MOST_MORE" 60), fa (.int "MOST_ODD" 9), fa (.cls "Span"),
  fa (.mkr "Span"), fa (.noat "Span" "own_parts"), fa (.meth "Span" "plus"), fa (.meth "Span" "is_below"), fa (.meth "Span" "__add__"), fa (.meth "Span" "__le__"), fa (.meth "Span" "__lt__"), fa (.meth "Span" "__ge__"), fa (.meth "Span" "__gt__"), propB "Span" "halves", propB "Span" "more", propB "Span" "odd", insB "Span", ownB "Span", opB "Span" .Add, fa (.glo "law")]
def loose0 : List Str := ["_wall", "__name__", "HuntError", "BadLength", "BadSpan", "BadText", "GREATEST_LENGTH", "is_integer", "is_within", "is_length", "need_length", "MOST_HALVES", "MOST_MORE", "MOST_ODD", "Span", "number_in", "are_parts", "_law_pen", "_law_draw", "_law_pick", "_law_number", "_law_orders"]
def loose : List Str := loose0
abbrev R : PySem.W.OpenRow := PySem.W.OpenLaw.row PySem.Challenge.rw_everyhunt_k04_spans_in_order
abbrev hk : PySem.W.Hook := hook 6 exs fns
def ob (s : PySem.W.SharedT) : Al := obsG 6 exs fns (HandSHeadRun.getT s)
theorem ob_eq (s : PySem.W.SharedT) : ob s = hk.obs s.abs := obsG_eq (HandSHeadRun.getT_eq s)
theorem run (w : World) : HandSHeadRun.RunEq R (PySem.W.view R.prog [25]) hk ob 8000 loose w := by
  intro os
  kernel_rfl
/-- what the top has left -/
structure Tx (K : PySem.W.Frag) (mg : Str → Option Value) : Prop where
  f_isinstance : mg "isinstance" = none
  f_int : mg "int" = none
  f_bool : mg "bool" = none
  f_len : mg "len" = none
  f_list : mg "list" = none
  f_abs : mg "abs" = none
  f_min : mg "min" = none
  f_max : mg "max" = none
  f_range : mg "range" = none
  f_repr : mg "repr" = none
  g_is_integer : mg "is_integer" = some (.ref (gd "is_integer" K))
  k_is_integer : PySem.W.keepIn K (.ref (gd "is_integer" K)) = true
  g_is_within : mg "is_within" = some (.ref (gd "is_within" K))
  k_is_within : PySem.W.keepIn K (.ref (gd "is_within" K)) = true
  g__law_pen : mg "_law_pen" = some (.ref (gd "_law_pen" K))
  k__law_pen : PySem.W.keepIn K (.ref (gd "_law_pen" K)) = true
  g__law_draw : mg "_law_draw" = some (.ref (gd "_law_draw" K))
  k__law_draw : PySem.W.keepIn K (.ref (gd "_law_draw" K)) = true
  g__law_pick : mg "_law_pick" = some (.ref (gd "_law_pick" K))
  k__law_pick : PySem.W.keepIn K (.ref (gd "_law_pick" K)) = true
  g__law_number : mg "_law_number" = some (.ref (gd "_law_number" K))
  k__law_number : PySem.W.keepIn K (.ref (gd "_law_number" K)) = true
  g__law_orders : mg "_law_orders" = some (.ref (gd "_law_orders" K))
  k__law_orders : PySem.W.keepIn K (.ref (gd "_law_orders" K)) = true
  g_Span : mg "Span" = some (.ref (gd "Span" K))
  k_Span : PySem.W.keepIn K (.ref (gd "Span" K)) = true
  m_MOST_HALVES : ∃ t, mg "MOST_HALVES" = some (.int 8 t)
  m_MOST_MORE : ∃ t, mg "MOST_MORE" = some (.int 60 t)
  m_MOST_ODD : ∃ t, mg "MOST_ODD" = some (.int 9 t)
  cl_Span : Cls K (gd "Span" K)
  mk_Span : Mk K (gd "Span" K) (md "Span" "__init__" K)
  n_Span_own_parts : NoAttr K (gd "Span" K) "own_parts"
  mt_Span_plus : Meth K (gd "Span" K) "plus" (md "Span" "plus" K)
  mt_Span_is_below : Meth K (gd "Span" K) "is_below" (md "Span" "is_below" K)
  mt_Span___add__ : Meth K (gd "Span" K) "__add__" (md "Span" "__add__" K)
  mt_Span___le__ : Meth K (gd "Span" K) "__le__" (md "Span" "__le__" K)
  mt_Span___lt__ : Meth K (gd "Span" K) "__lt__" (md "Span" "__lt__" K)
  mt_Span___ge__ : Meth K (gd "Span" K) "__ge__" (md "Span" "__ge__" K)
  mt_Span___gt__ : Meth K (gd "Span" K) "__gt__" (md "Span" "__gt__" K)
  pr_Span_halves : PropOf K (gd "Span" K) "halves" (He.ma K (He.ga K "Span") "halves") (propG "Span" "halves" K)
  pr_Span_more : PropOf K (gd "Span" K) "more" (He.ma K (He.ga K "Span") "more") (propG "Span" "more" K)
  pr_Span_odd : PropOf K (gd "Span" K) "odd" (He.ma K (He.ga K "Span") "odd") (propG "Span" "odd" K)
  ty_Span : InsT K (gd "Span" K)
  ow_Span : OwnT K (gd "Span" K)
  op_Span_Add : OpT K (gd "Span" K) .Add
theorem tx_of {K : PySem.W.Frag} {h : Heap} {mg : Str → Option Value} (X : K.In h) (G : h.Ns mainGlobals mg) (c : Says exs fns K) : Tx K mg :=
  ⟨(He.free_ok X G (c.fact 0 rfl)), (He.free_ok X G (c.fact 1 rfl)), (He.free_ok X G (c.fact 2 rfl)), (He.free_ok X G (c.fact 3 rfl)), (He.free_ok X G (c.fact 4 rfl)), (He.free_ok X G (c.fact 5 rfl)), (He.free_ok X G (c.fact 6 rfl)), (He.free_ok X G (c.fact 7 rfl)), (He.free_ok X G (c.fact 8 rfl)), (He.free_ok X G (c.fact 9 rfl)), (He.glo_ok X G (c.fact 10 rfl)), ((c.fact 11 rfl)), (He.glo_ok X G (c.fact 12 rfl)), ((c.fact 13 rfl)), (He.glo_ok X G (c.fact 14 rfl)), ((c.fact 15 rfl)), (He.glo_ok X G (c.fact 16 rfl)), ((c.fact 17 rfl)), (He.glo_ok X G (c.fact 18 rfl)), ((c.fact 19 rfl)), (He.glo_ok X G (c.fact 20 rfl)), ((c.fact 21 rfl)), (He.glo_ok X G (c.fact 22 rfl)), ((c.fact 23 rfl)), (He.glo_ok X G (c.fact 24 rfl)), ((c.fact 25 rfl)), (He.int_ok X G (c.fact 26 rfl)), (He.int_ok X G (c.fact 27 rfl)), (He.int_ok X G (c.fact 28 rfl)), (He.cls_ok (c.fact 29 rfl)), (He.mkr_ok (c.fact 30 rfl)), (He.eqO_ok (c.fact 31 rfl)), (He.meth_ok (c.fact 32 rfl)), (He.meth_ok (c.fact 33 rfl)), (He.meth_ok (c.fact 34 rfl)), (He.meth_ok (c.fact 35 rfl)), (He.meth_ok (c.fact 36 rfl)), (He.meth_ok (c.fact 37 rfl)), (He.meth_ok (c.fact 38 rfl)), (propB_ok (c.fact 39 rfl)), (propB_ok (c.fact 40 rfl)), (propB_ok (c.fact 41 rfl)), (insB_ok (c.fact 42 rfl)), (ownB_ok (c.fact 43 rfl)), (opB_ok (c.fact 44 rfl))⟩
end Lw

set_option Elab.async false
set_option linter.all false
set_option maxRecDepth 100000
set_option maxHeartbeats 4000000
namespace Lw
open PySem PySem.Spec PyProof.Rows L2 Gh
section
variable {P : Program} {w : World} {K : PySem.W.Frag} {mg : Str → Option Value} {base : Heap} {f : Addr} {fd : FuncData}
abbrev Pm (P : Program) (w : World) (K : PySem.W.Frag) (mg : Str → Option Value) (base : Heap) (k : Nat) (f : Addr) (dvs : List V) (sp : Sp) : Prop := Prom P w K mg base CX0 k f dvs sp
def spInteger : Sp := fun vs H Q _ => ∃ i : Int, vs = [.int i] ∧ Q (.bl true) H
abbrev N_is_integer : List Str := ["value"]
theorem sc_is_integer : FnScope N_is_integer ["value"] (defScope s_is_integer) := ⟨rfl, rfl, rfl, by decide +kernel, rfl, by decide +kernel, by decide +kernel⟩
theorem ok_integer (F : FnA K d_is_integer fd) (T : Tx K mg) : FnG P w K mg base CX0 1 (d_is_integer.adr K) fd ["value"] spInteger := by
  refine fnG0 F sc_is_integer (fun vs H Q E h => ?_) (fun cdv A outer s H vs Q E hr hg h => ?_)
  · obtain ⟨i, rfl, _⟩ := h
    rfl
  · obtain ⟨i, rfl, q⟩ := h
    refine ⟨_, (pss_one (ps_ret (pe_and (pe_callB (call_isiK1 (K := K) rfl) (by rfl) T.f_isinstance (by decide +kernel) (pa_cons (pv 0) (pa_cons (pe_bltn (v := .ty "int") (by rfl) T.f_int (by decide +kernel) rfl) pa_nil))) (pe_one (pe_not (pe_callB (call_isiK1 (K := K) rfl) (by rfl) T.f_isinstance (by decide +kernel) (pa_cons (pv 0) (pa_cons (pe_bltn (v := .ty "bool") (by rfl) T.f_bool (by decide +kernel) rfl) pa_nil)))))))), ?_⟩
    refine ⟨_, rfl, _, _, _, _, _, rfl, .ty _, .base (.int i), kit_ty (r := true) (by decide +kernel), true, rfl, iteT ?_⟩
    refine ⟨_, rfl, _, _, _, _, _, rfl, .ty _, .base (.int i), kit_ty (r := false) (by decide +kernel), false, rfl, ?_⟩
    exact q
/-- is_within of ints -/
def spWithin : Sp := fun vs H Q _ => ∃ i a b : Int, vs = [.int i, .int a, .int b] ∧ Q (.bl (decide (a ≤ i) && decide (i ≤ b))) H
abbrev N_is_within : List Str := ["value", "least", "most"]
theorem sc_is_within : FnScope N_is_within ["value", "least", "most"] (defScope s_is_within) := ⟨rfl, rfl, rfl, by decide +kernel, rfl, by decide +kernel, by decide +kernel⟩
theorem ok_within (F : FnA K d_is_within fd) (T : Tx K mg) (GI : Pm P w K mg base 1 (gd "is_integer" K) [] spInteger) :
    FnG P w K mg base CX0 2 (d_is_within.adr K) fd ["value", "least", "most"] spWithin := by
  refine fnG0 F sc_is_within (fun vs H Q E h => ?_) (fun cdv A outer s H vs Q E hr hg h => ?_)
  · obtain ⟨i, a, b, rfl, _⟩ := h
    rfl
  · obtain ⟨i, a, b, rfl, q⟩ := h
    refine ⟨_, (pss_one (ps_ret (pe_and (pe_g (Prom.call GI (hr.mono (by decide)) hg pass0) (by rfl) T.g_is_integer T.k_is_integer (pa_cons (pv 0) pa_nil)) (pe_one (pe_chain op_le op_le (pv 1) (pv 0) (pv 2)))))), ?_⟩
    refine ⟨_, rfl, i, rfl, true, rfl, iteT ?_⟩
    refine ⟨_, rfl, _, rfl, _, _, rfl, rfl, _, rfl, ?_⟩
    refine ite2 (fun h1 => ?_) (fun h1 => ?_)
    · refine ⟨_, rfl, _, _, rfl, rfl, ?_⟩
      rw [h1, Bool.true_and] at q
      exact q
    · have h2 : decide (a ≤ i) = false := by simpa using h1
      rw [h2, Bool.false_and] at q
      exact q
/-! ### the pen -/
abbrev N__law_pen : List Str := ["_law_script"]
theorem sc__law_pen : FnScope N__law_pen ["_law_script"] (defScope s__law_pen) := ⟨rfl, rfl, rfl, by decide +kernel, rfl, by decide +kernel, by decide +kernel⟩
theorem ok_pen (F : FnA K d__law_pen fd) (T : Tx K mg) : FnG P w K mg base CX0 1 (d__law_pen.adr K) fd ["_law_script"] (spPen K) := by
  refine fnG0 F sc__law_pen (fun vs H Q E h => ?_) (fun cdv A outer s H vs Q E hr hg h => ?_)
  · obtain ⟨a, ns, rfl, _⟩ := h
    rfl
  · obtain ⟨a, ns, rfl, hS, hl, q⟩ := h
    refine ⟨_, (pss_one (ps_ret (pe_lst (pa_cons (pe_callTy call_list_of (by rfl) T.f_list (by decide +kernel) (pa_cons (pe_slice sl_list (pv 0) po_none (po_some pe_int)) pa_nil)) (pa_cons pe_int (pa_cons pe_int pa_nil)))))), ?_⟩
    refine ⟨_, rfl, 63, rfl, a, _, rfl, hS, fun c nc => ?_⟩
    have ec : cutV (ns.map V.int) none (some 63) = ns.map V.int := cut_all (by rw [List.length_map]; exact hl)
    refine ⟨c, _, rfl, .inl (SqL.of upd_same), fun e ne => ?_⟩
    refine ⟨by show 3 ≤ sizeLine; decide, fun p np => ?_⟩
    have s1 : L2.Same H (upd H c (.lst (cutV (ns.map V.int) none (some 63)))) := same_new nc
    have s2 := same_new (o := .lst (cutV (ns.map V.int) none (some 63))) ne
    have s3 := same_new (o := .lst [.ref e, .int 0, .int 0]) np
    refine q p _ ?_ ⟨e, ns, 0, 0, upd_same, ?_, hl, Int.le_refl _, by decide, Int.le_refl _⟩ (s1.trans (s2.trans s3))
    · exact s1.free (s2.free np)
    · refine s3 _ _ ?_
      rw [upd_same, ec]
abbrev N__law_draw : List Str := ["_law_pen_here", "_law_many", "_law_at", "_law_cell", "_law_mixed", "_law_digit", "_law_great"]
theorem sc__law_draw : FnScope N__law_draw ["_law_pen_here", "_law_many"] (defScope s__law_draw) := ⟨rfl, rfl, rfl, by decide +kernel, rfl, by decide +kernel, by decide +kernel⟩
theorem ok_draw (F : FnA K d__law_draw fd) (T : Tx K mg) : FnG P w K mg base CX0 1 (d__law_draw.adr K) fd ["_law_pen_here", "_law_many"] spDraw := by
  refine fnG0 F sc__law_draw (fun vs H Q E h => ?_) (fun cdv A outer s H vs Q E hr hg h => ?_)
  · obtain ⟨p, b, m, rfl, _⟩ := h
    rfl
  · obtain ⟨p, b, m, rfl, hm, hlog, ⟨c, ns, i, z, hp, hc, hl, hi, hb, hz⟩, q⟩ := h
    have ncp : c ≠ p := pen_ne hp hc
    have mm := fun x : Int => mod_lt x hm
    have hdiv : CDivW 0 m := ⟨hm, hlog⟩
    refine ⟨_, (pss_cons (ps_if (pt_cmpR op_gt (pe_ix (ix_listK (K := K) rfl) (pv 0) pe_int (fun _ _ => rfl)) pe_int (nomark _))
      (pss_cons (ps_set (i := 5) sc__law_draw.nd rfl (.inl rfl) (pe_op op_mod (pe_callTy call_int1 (by rfl) T.f_int (by decide +kernel) (pa_cons (pe_ix (ix_listK (K := K) rfl) (pv 0) pe_int (fun _ _ => rfl)) pa_nil)) (pv 1)))
      (pss_cons (ps_asg (pe_op op_fdivW (pe_callTy call_int1 (by rfl) T.f_int (by decide +kernel) (pa_cons (pe_ix (ix_listK (K := K) rfl) (pv 0) pe_int (fun _ _ => rfl)) pa_nil)) (pv 1)) (pg_sub (pv 0) pe_int set_list))
      (pss_one (ps_ret (pv 5))))) pss_nil)
      (pss_cons (ps_set (i := 2) sc__law_draw.nd rfl (.inl rfl) (pe_ix (ix_listK (K := K) rfl) (pv 0) pe_int (fun _ _ => rfl)))
      (pss_cons (ps_asg (pe_op op_add (pv 2) pe_int) (pg_sub (pv 0) pe_int set_list))
      (pss_cons (ps_set (i := 3) sc__law_draw.nd rfl (.inl rfl) (pe_op op_add (pe_op op_mul pe_int (pv 2)) pe_int))
      (pss_cut (ps_if (pt_cmpR (op_neD hr.units) (pe_ix (ix_listK (K := K) rfl) (pv 0) pe_int (fun _ _ => rfl)) (pe_lst pa_nil) (nomark _))
      (pss_one (ps_set (i := 3) sc__law_draw.nd rfl (.inl rfl) (pe_ix (ix_listK (K := K) rfl) (pe_ix (ix_listK (K := K) rfl) (pv 0) pe_int (fun _ _ => rfl)) (pe_op op_mod (pe_callTy call_int1 (by rfl) T.f_int (by decide +kernel) (pa_cons (pv 2) pa_nil)) (pe_callB (call_lenK (K := K) rfl) (by rfl) T.f_len (by decide +kernel) (pa_cons (pe_ix (ix_listK (K := K) rfl) (pv 0) pe_int (fun _ _ => rfl)) pa_nil))) (fun _ _ => rfl)))) pss_nil)
      (pss_cut (ps_if (PW.pt (pw_and (pt_cmpR op_lt (pv 2) (pe_callB (call_lenK (K := K) rfl) (by rfl) T.f_len (by decide +kernel) (pa_cons (pe_ix (ix_listK (K := K) rfl) (pv 0) pe_int (fun _ _ => rfl)) pa_nil)) (nomark _)) (pw_and1 (pt_cmpR op_ge (pe_callB call_abs (by rfl) T.f_abs (by decide +kernel) (pa_cons (pv 3) pa_nil)) (pe_op op_pow pe_int pe_int) (nomark _)))))
      (pss_cons (ps_set (i := 6) sc__law_draw.nd rfl (.inl rfl) (pe_op op_add (pe_op op_mul pe_int (pe_op op_sub (pe_callB call_abs (by rfl) T.f_abs (by decide +kernel) (pa_cons (pv 3) pa_nil)) (pe_op op_pow pe_int pe_int))) (pe_callTy call_int1 (by rfl) T.f_int (by decide +kernel) (pa_cons (pe_cmpR op_lt (pv 3) pe_int (nomark _)) pa_nil))))
      (pss_cons (ps_asg (pe_op op_fdivW (pe_callTy call_int1 (by rfl) T.f_int (by decide +kernel) (pa_cons (pv 6) pa_nil)) (pv 1)) (pg_sub (pv 0) pe_int set_list))
      (pss_one (ps_ret (pe_op op_mod (pe_callTy call_int1 (by rfl) T.f_int (by decide +kernel) (pa_cons (pv 6) pa_nil)) (pv 1)))))) pss_nil)
      (pss_cons (ps_set (i := 4) sc__law_draw.nd rfl (.inl rfl) (pe_op op_mod (pe_callTy call_int1 (by rfl) T.f_int (by decide +kernel) (pa_cons (pe_op op_pow (pe_op op_add (pe_op op_add (pe_op op_mod (pe_callTy call_int1 (by rfl) T.f_int (by decide +kernel) (pa_cons (pv 3) pa_nil)) pe_int) (pe_op op_mul pe_int (pv 2))) pe_int) pe_int) pa_nil)) pe_int))
      (pss_cons (ps_set (i := 4) sc__law_draw.nd rfl (.inl rfl) (pe_op op_mod (pe_callTy call_int1 (by rfl) T.f_int (by decide +kernel) (pa_cons (pe_op op_pow (pe_op op_add (pe_op op_add (pe_op op_mul (pv 4) (pe_op op_add (pe_op op_mul pe_int (pv 2)) pe_int)) (pe_op op_mul (pe_op op_mul pe_int (pv 2)) (pv 2))) pe_int) pe_int) pa_nil)) pe_int))
      (pss_one (ps_ret (pe_op op_mod (pe_callTy call_int1 (by rfl) T.f_int (by decide +kernel) (pa_cons (pe_op op_fdivW (pv 4) pe_int) pa_nil)) (pv 1)))))))))))), ?_⟩
    -- what is left of a great cell
    refine ⟨_, rfl, p, _, _, .int z, rfl, rfl, SqL.of hp, rfl, _, _, rfl, rfl, _, rfl, ite2 (fun h1 => ?_) (fun h1 => ?_)⟩
    · refine ⟨_, rfl, p, _, _, .int z, rfl, rfl, SqL.of hp, rfl, .inl ⟨_, rfl, _, rfl, _, _, rfl, rfl, hm, ?_⟩⟩
      refine ⟨_, rfl, p, _, _, .int z, rfl, rfl, SqL.of hp, rfl, .inl ⟨_, rfl, _, rfl, _, _, rfl, rfl, ⟨hm, hlog⟩, ?_⟩⟩
      refine ⟨_, rfl, p, _, _, 2, rfl, rfl, hp, rfl, ?_⟩
      refine ⟨_, rfl, q _ _ (mm z).1 (mm z).2 ⟨c, ns, i, z / m, upd_same, by rw [upd_ne ncp]; exact hc, hl, hi, by omega, Int.ediv_nonneg hz (by omega)⟩ (Keep.refl.put)⟩
    · -- the next cell
      refine ⟨_, rfl, p, _, _, .int i, rfl, rfl, SqL.of hp, rfl, ?_⟩
      refine ⟨_, rfl, _, _, rfl, rfl, _, rfl, p, _, _, 1, rfl, rfl, hp, rfl, ?_⟩
      have z0 : z = 0 := by
        have : ¬ (z > 0) := by simpa using h1
        omega
      subst z0
      have hp2 : (upd H p (HO.lst ([V.ref c, V.int i, V.int 0].set 1 (V.int (i + 1))))) p = some (.lst [.ref c, .int (i + 1), .int 0]) := upd_same
      have hc2 : (upd H p (HO.lst ([V.ref c, V.int i, V.int 0].set 1 (V.int (i + 1))))) c = some (.lst (ns.map V.int)) := by rw [upd_ne ncp]; exact hc
      have k2 : Keep H (upd H p (HO.lst ([V.ref c, V.int i, V.int 0].set 1 (V.int (i + 1))))) p := Keep.refl.put
      generalize upd H p (HO.lst ([V.ref c, V.int i, V.int 0].set 1 (V.int (i + 1)))) = H2 at hp2 hc2 k2 ⊢
      refine ⟨_, rfl, _, _, rfl, rfl, .inl ⟨by decide, by decide⟩, _, _, rfl, rfl, ?_⟩
      refine ⟨fun σ' H' => ∃ cell : Int, σ' = [some (.ref p), some (.int m), some (.int i), some (.int cell), none, none, none] ∧ H' p = some (.lst [.ref c, .int (i + 1), .int 0]) ∧ H' c = some (.lst (ns.map V.int)) ∧ Keep H H' p, ?_, ?_⟩
      · -- if the cells are not empty
        refine ⟨_, rfl, p, _, _, .ref c, rfl, rfl, SqL.of hp2, rfl, Nat.zero_le _, fun e ne => ?_⟩
        have hp3 : (upd H2 e (.lst [])) p = some (.lst [.ref c, .int (i + 1), .int 0]) := by rw [upd_ne (ne_of_none hp2 ne)]; exact hp2
        have hc3 : (upd H2 e (.lst [])) c = some (.lst (ns.map V.int)) := by rw [upd_ne (ne_of_none hc2 ne)]; exact hc2
        have k3 : Keep H (upd H2 e (.lst [])) p := k2.new ne
        refine ⟨.list (ns.map .int), .list [], .lst (SqL.of hc3) (dp_ints K _ ns), .lst (SqL.of upd_same) .nil, PySem.W.ke_shaped_ints ns, by decide +kernel, _, rfl, ite2 (fun h2 => ?_) (fun h2 => ?_)⟩
        · have hne : 0 < ns.length := by
            rw [eqv_nil] at h2
            cases ns with
            | nil => cases h2
            | cons a r => exact Nat.succ_pos _
          have hlen : (0 : Int) < ((ns.map V.int).length : Int) := by rw [List.length_map]; omega
          have mi := mod_lt i hlen
          obtain ⟨v, ev, _⟩ := atI_int (ns := ns) (i := i % ((ns.map V.int).length : Int)) mi.1 (by have := mi.2; rw [List.length_map] at this ⊢; exact this)
          refine ⟨_, rfl, p, _, _, .ref c, rfl, rfl, SqL.of hp3, rfl, _, rfl, .inl ⟨_, rfl, _, rfl, p, _, _, .ref c, rfl, rfl, SqL.of hp3, rfl, _, _, rfl, .inl ⟨_, SqL.of hc3, rfl⟩, _, _, rfl, rfl, hlen, c, _, _, .int v, rfl, rfl, SqL.of hc3, ev, ?_⟩⟩
          exact ⟨v, rfl, hp3, hc3, k3⟩
        · exact ⟨_, rfl, hp3, hc3, k3⟩
      · rintro σ' H' ⟨cell, rfl, hp3, hc3, k3⟩
        -- a great cell?
        have pen3 : ∀ z : Int, 0 ≤ z → PenAt (upd H' p (.lst [.ref c, .int (i + 1), .int z])) p b := fun z hz => ⟨c, ns, i + 1, z, upd_same, by rw [upd_ne ncp]; exact hc3, hl, by omega, by omega, hz⟩
        refine ⟨fun σ1 H1 => σ1 = [some (.ref p), some (.int m), some (.int i), some (.int cell), none, none, none] ∧ H1 = H', ?_, ?_⟩
        · refine ⟨_, rfl, _, rfl, p, _, _, .ref c, rfl, rfl, SqL.of hp3, rfl, _, _, rfl, .inl ⟨_, SqL.of hc3, rfl⟩, _, _, rfl, rfl, _, rfl, ite2 (fun _ => ?_) (fun _ => iteF ⟨rfl, rfl⟩)⟩
          refine ⟨_, rfl, _, rfl, _, _, rfl, rfl, ⟨by decide, by decide, by decide⟩, _, _, rfl, rfl, _, rfl, ite2 (fun h3 => ?_) (fun _ => ⟨rfl, rfl⟩)⟩
          have hab : (10 : Int) ^ 18 ≤ (if cell < 0 then -cell else cell) := by simpa using h3
          -- the great number
          refine ⟨_, rfl, _, rfl, _, _, rfl, rfl, ⟨by decide, by decide, by decide⟩, _, _, rfl, rfl, _, _, rfl, rfl, .inl ⟨by decide, by decide⟩, _, rfl, _, _, rfl, rfl, .inr ⟨_, rfl, _, _, rfl, rfl, ?_⟩⟩
          have hgr : 0 ≤ 2 * ((if cell < 0 then -cell else cell) - 10 ^ (18 : Int).toNat) + (if decide (cell < 0) = true then 1 else 0) := by
            have e18 : (10 : Int) ^ (18 : Int).toNat = (10 : Int) ^ 18 := rfl
            rw [e18]
            have : (0 : Int) ≤ (if decide (cell < 0) = true then 1 else 0) := by split <;> decide
            omega
          refine ⟨_, rfl, .inl ⟨_, rfl, _, rfl, _, _, rfl, rfl, ⟨hm, hlog⟩, _, rfl, p, _, _, 2, rfl, rfl, hp3, rfl, ?_⟩⟩
          refine ⟨_, rfl, .inl ⟨_, rfl, _, rfl, _, _, rfl, rfl, hm, ?_⟩⟩
          exact q _ _ (mm _).1 (mm _).2 (pen3 _ (Int.ediv_nonneg hgr (by omega))) k3.put
        · rintro σ1 H1 ⟨rfl, rfl⟩
          have hi2 : i ≤ 1000000 := by omega
          -- the first mix
          refine ⟨_, rfl, .inl ⟨_, rfl, _, _, rfl, rfl, (by show (0 : Int) < _; decide), _, rfl, _, _, rfl, rfl, .inl ⟨by decide, by decide⟩, _, _, rfl, rfl, _, _, rfl, rfl, _, _, rfl, rfl, ⟨by decide, by decide, ?_⟩, .inl ⟨_, rfl, _, _, rfl, rfl, (by show (0 : Int) < _; decide), ?_⟩⟩⟩
          · refine pow_lt ?_ ?_ <;> omega
          have hx := mod_lt ((cell % 2147483563 + 45129 * i + 215) ^ (5 : Int).toNat) (show (0 : Int) < 2147483497 by decide)
          -- the second one
          refine ⟨_, rfl, _, rfl, _, _, rfl, rfl, .inl ⟨by decide, by decide⟩, _, _, rfl, rfl, _, _, rfl, rfl, .inl ⟨by omega, by omega⟩, _, rfl, _, _, rfl, rfl, .inl ⟨by decide, by decide⟩, _, rfl, _, _, rfl, rfl, .inl ⟨by omega, by omega⟩, _, _, rfl, rfl, _, _, rfl, rfl, _, _, rfl, rfl, ⟨by decide, by decide, ?_⟩, .inl ⟨_, rfl, _, _, rfl, rfl, (by show (0 : Int) < _; decide), ?_⟩⟩
          · exact mix_ok hx.1 (Int.lt_trans hx.2 (by decide)) hi hi2 ⟨by decide, by decide⟩ ⟨by decide, by decide⟩ ⟨by decide, by decide⟩
          refine ⟨_, rfl, _, _, rfl, rfl, ⟨by decide, by decide⟩, .inl ⟨_, rfl, _, rfl, _, _, rfl, rfl, hm, ?_⟩⟩
          exact q _ _ (mm _).1 (mm _).2 ⟨c, ns, i + 1, 0, hp3, hc3, hl, by omega, by omega, Int.le_refl _⟩ k3
end
end Lw

set_option Elab.async false
set_option linter.all false
set_option maxRecDepth 100000
set_option maxHeartbeats 4000000
namespace Lw
open PySem PySem.Spec PyProof.Rows L2 Gh
/-- a Span stands at a -/
def SpanAt (C : Addr) (H : Hp) (a : Addr) (h m o : Int) : Prop := ∃ dx t, H a = some (.ins C dx [("own_parts", .ref t)]) ∧ H t = some (.tup [.int h, .int m, .int o])
theorem SpanAt.same {C : Addr} {H H' : Hp} {a : Addr} {h m o : Int} (k : SpanAt C H a h m o) (s : L2.Same H H') : SpanAt C H' a h m o := by
  obtain ⟨dx, t, h1, h2⟩ := k
  exact ⟨dx, t, s _ _ h1, s _ _ h2⟩
theorem SpanAt.keep {C : Addr} {H H' : Hp} {a p : Addr} {b : Nat} {h m o : Int} (k : SpanAt C H a h m o) (pn : PenAt H p b) (s : Keep H H' p) : SpanAt C H' a h m o := by
  obtain ⟨dx, t, h1, h2⟩ := k
  obtain ⟨c, ns, i, z, hp, _⟩ := pn
  exact ⟨dx, t, s _ _ h1 (ne_of h1 hp (by intro e; cases e)), s _ _ h2 (ne_of h2 hp (by intro e; cases e))⟩
section
variable {P : Program} {w : World} {K : PySem.W.Frag} {mg : Str → Option Value} {base : Heap} {f : Addr} {fd : FuncData}
def spInit (C : Addr) : Sp := fun vs H Q _ => ∃ (x dx : Addr) (h m o : Int), vs = [.ref x, .int h, .int m, .int o] ∧ H x = some (.ins C dx []) ∧ (0 ≤ h ∧ h ≤ 8) ∧ (-60 ≤ m ∧ m ≤ 60) ∧ (-9 ≤ o ∧ o ≤ 9) ∧
  ∀ t, H t = none → Q .non (upd (upd H t (.tup [.int h, .int m, .int o])) x (.ins C dx [("own_parts", .ref t)]))
abbrev N_Span___init__ : List Str := ["self", "halves", "more", "odd"]
theorem sc_Span___init__ : FnScope N_Span___init__ ["self", "halves", "more", "odd"] (defScope s_Span___init__) := ⟨rfl, rfl, rfl, by decide +kernel, rfl, by decide +kernel, by decide +kernel⟩
theorem ok_init (F : FnA K d_Span___init__ fd) (T : Tx K mg) (GW : Pm P w K mg base 2 (gd "is_within" K) [] spWithin) : FnG P w K mg base CX0 3 (d_Span___init__.adr K) fd ["self", "halves", "more", "odd"] (spInit (gd "Span" K)) := by
  refine fnG0 F sc_Span___init__ (fun vs H Q E h => ?_) (fun cdv A outer s H vs Q E hr hg h => ?_)
  · obtain ⟨x, dx, h, m, o, rfl, _⟩ := h
    rfl
  · obtain ⟨x, dx, h, m, o, rfl, hx, hh, hm, ho, q⟩ := h
    refine ⟨_, (pss_cons (ps_if (pt_not (pt_val (pe_g (Prom.call GW (hr.mono (by decide)) hg pass0) (by rfl) T.g_is_within T.k_is_within (pa_cons (pv 1) (pa_cons pe_int (pa_cons (pe_gi T.m_MOST_HALVES (by rfl)) pa_nil))))))
      (pss_one ps_never) pss_nil)
      (pss_cons (ps_if (pt_not (pt_val (pe_g (Prom.call GW (hr.mono (by decide)) hg pass0) (by rfl) T.g_is_within T.k_is_within (pa_cons (pv 2) (pa_cons (pe_un un_neg (pe_gi T.m_MOST_MORE (by rfl))) (pa_cons (pe_gi T.m_MOST_MORE (by rfl)) pa_nil))))))
      (pss_one ps_never) pss_nil)
      (pss_cons (ps_if (pt_not (pt_val (pe_g (Prom.call GW (hr.mono (by decide)) hg pass0) (by rfl) T.g_is_within T.k_is_within (pa_cons (pv 3) (pa_cons (pe_un un_neg (pe_gi T.m_MOST_ODD (by rfl))) (pa_cons (pe_gi T.m_MOST_ODD (by rfl)) pa_nil))))))
      (pss_one ps_never) pss_nil)
      (pss_one (ps_fld (pv 0) (pe_tup (pa_cons (pv 1) (pa_cons (pv 2) (pa_cons (pv 3) pa_nil)))) rfl))))), ?_⟩
    refine ⟨_, rfl, h, 0, 8, rfl, _, rfl, ?_⟩
    rw [decide_eq_true hh.1, decide_eq_true hh.2]
    refine iteF ?_
    refine ⟨_, rfl, 60, rfl, m, -60, 60, rfl, _, rfl, ?_⟩
    rw [decide_eq_true hm.1, decide_eq_true hm.2]
    refine iteF ?_
    refine ⟨_, rfl, 9, rfl, o, -9, 9, rfl, _, rfl, ?_⟩
    rw [decide_eq_true ho.1, decide_eq_true ho.2]
    refine iteF ?_
    refine ⟨_, rfl, _, rfl, _, rfl, by show 3 ≤ sizeLine; decide, fun t nt => ?_⟩
    refine ⟨_, rfl, x, _, dx, [], rfl, by rw [upd_ne (ne_of_none hx nt)]; exact hx, T.cl_Span, T.n_Span_own_parts, by show 0 < 1000; decide, q t nt⟩
/-- Span(h, m, o) -/
theorem mk_span {C : Addr} {h m o : Int} {H : Hp} {Q : VK} {E : XK} (hh : 0 ≤ h ∧ h ≤ 8) (hm : -60 ≤ m ∧ m ≤ 60) (ho : -9 ≤ o ∧ o ≤ 9) (q : ∀ x H', H x = none → L2.Same H H' → SpanAt C H' x h m o → Q (.ref x) H') : rMk C (spInit C) [] E [.int h, .int m, .int o] H Q := by
  unfold rMk
  intro x dx nx ndx ne
  refine ⟨x, dx, h, m, o, rfl, upd_same, hh, hm, ho, fun t nt => ⟨rfl, ?_⟩⟩
  have s1 : L2.Same H (upd (upd H dx (.own x)) x (.ins C dx [])) := fun a u e => by
    rw [upd_ne (ne_of_none e nx), upd_ne (ne_of_none e ndx)]
    exact e
  have nxt : x ≠ t := ne_of_none (H := upd (upd H dx (.own x)) x (.ins C dx [])) upd_same nt
  refine q x _ nx (fun a u e => ?_) ⟨dx, t, upd_same, ?_⟩
  · rw [upd_ne (ne_of_none e nx), upd_ne (ne_of_none (s1 _ _ e) nt)]
    exact s1 _ _ e
  · rw [upd_ne nxt.symm, upd_same]
def spProp (C : Addr) (g : Int → Int → Int → Int) : Sp := fun vs H Q _ => ∃ (a : Addr) (h m o : Int), vs = [.ref a] ∧ SpanAt C H a h m o ∧ Q (.int (g h m o)) H
abbrev N_Span_halves : List Str := ["self"]
theorem sc_Span_halves : FnScope N_Span_halves ["self"] (defScope s_Span_halves) := ⟨rfl, rfl, rfl, by decide +kernel, rfl, by decide +kernel, by decide +kernel⟩
abbrev N_Span_more : List Str := ["self"]
theorem sc_Span_more : FnScope N_Span_more ["self"] (defScope s_Span_more) := ⟨rfl, rfl, rfl, by decide +kernel, rfl, by decide +kernel, by decide +kernel⟩
abbrev N_Span_odd : List Str := ["self"]
theorem sc_Span_odd : FnScope N_Span_odd ["self"] (defScope s_Span_odd) := ⟨rfl, rfl, rfl, by decide +kernel, rfl, by decide +kernel, by decide +kernel⟩
theorem ok_halves (F : FnA K d_Span_halves fd) (T : Tx K mg) : FnG P w K mg base CX0 1 (d_Span_halves.adr K) fd ["self"] (spProp (gd "Span" K) fun h _ _ => h) := by
  refine fnG0 F sc_Span_halves (fun vs H Q E h => ?_) (fun cdv A outer s H vs Q E hr hg h => ?_)
  · obtain ⟨a, h, m, o, rfl, _⟩ := h
    rfl
  · obtain ⟨a, h, m, o, rfl, ⟨dx, t, h1, h2⟩, q⟩ := h
    refine ⟨_, (pss_one (ps_ret (pe_ix (ix_tupK (K := K) rfl) (pe_fld (pv 0) rfl) pe_int (fun _ _ => rfl)))), ?_⟩
    exact ⟨_, rfl, a, _, dx, _, _, rfl, h1, T.cl_Span, T.n_Span_own_parts, rfl, t, _, _, .int h, rfl, rfl, SqT.of h2, rfl, q⟩
theorem ok_more (F : FnA K d_Span_more fd) (T : Tx K mg) : FnG P w K mg base CX0 1 (d_Span_more.adr K) fd ["self"] (spProp (gd "Span" K) fun _ m _ => m) := by
  refine fnG0 F sc_Span_more (fun vs H Q E h => ?_) (fun cdv A outer s H vs Q E hr hg h => ?_)
  · obtain ⟨a, h, m, o, rfl, _⟩ := h
    rfl
  · obtain ⟨a, h, m, o, rfl, ⟨dx, t, h1, h2⟩, q⟩ := h
    refine ⟨_, (pss_one (ps_ret (pe_ix (ix_tupK (K := K) rfl) (pe_fld (pv 0) rfl) pe_int (fun _ _ => rfl)))), ?_⟩
    exact ⟨_, rfl, a, _, dx, _, _, rfl, h1, T.cl_Span, T.n_Span_own_parts, rfl, t, _, _, .int m, rfl, rfl, SqT.of h2, rfl, q⟩
theorem ok_odd (F : FnA K d_Span_odd fd) (T : Tx K mg) : FnG P w K mg base CX0 1 (d_Span_odd.adr K) fd ["self"] (spProp (gd "Span" K) fun _ _ o => o) := by
  refine fnG0 F sc_Span_odd (fun vs H Q E h => ?_) (fun cdv A outer s H vs Q E hr hg h => ?_)
  · obtain ⟨a, h, m, o, rfl, _⟩ := h
    rfl
  · obtain ⟨a, h, m, o, rfl, ⟨dx, t, h1, h2⟩, q⟩ := h
    refine ⟨_, (pss_one (ps_ret (pe_ix (ix_tupK (K := K) rfl) (pe_fld (pv 0) rfl) pe_int (fun _ _ => rfl)))), ?_⟩
    exact ⟨_, rfl, a, _, dx, _, _, rfl, h1, T.cl_Span, T.n_Span_own_parts, rfl, t, _, _, .int o, rfl, rfl, SqT.of h2, rfl, q⟩
/-- Span + int -/
def spPlus (C : Addr) : Sp := fun vs H Q _ => ∃ (a : Addr) (h m o k g : Int), vs = [.ref a, .int k, .int g] ∧ SpanAt C H a h m o ∧ (0 ≤ h ∧ h ≤ 8) ∧ (-60 ≤ m + g * k ∧ m + g * k ≤ 60) ∧ (-9 ≤ o ∧ o ≤ 9) ∧ (-2 ≤ g ∧ g ≤ 2) ∧
  ∀ x H', H x = none → L2.Same H H' → SpanAt C H' x h (m + g * k) o → Q (.ref x) H'
abbrev N_Span_plus : List Str := ["self", "other", "sign"]
theorem sc_Span_plus : FnScope N_Span_plus ["self", "other", "sign"] (defScope s_Span_plus) := ⟨rfl, rfl, rfl, by decide +kernel, rfl, by decide +kernel, by decide +kernel⟩
theorem ok_plus (F : FnA K d_Span_plus fd) (T : Tx K mg) (GS : Pm P w K mg base 3 (md "Span" "__init__" K) [] (spInit (gd "Span" K))) (GH : Pm P w K mg base 1 (propG "Span" "halves" K) [] (spProp (gd "Span" K) fun h _ _ => h))
    (GM : Pm P w K mg base 1 (propG "Span" "more" K) [] (spProp (gd "Span" K) fun _ m _ => m)) (GOd : Pm P w K mg base 1 (propG "Span" "odd" K) [] (spProp (gd "Span" K) fun _ _ o => o)) : FnG P w K mg base CX0 5 (d_Span_plus.adr K) fd ["self", "other", "sign"] (spPlus (gd "Span" K)) := by
  refine fnG0 F sc_Span_plus (fun vs H Q E h => ?_) (fun cdv A outer s H vs Q E hr hg h => ?_)
  · obtain ⟨a, h, m, o, k, g, rfl, _⟩ := h
    rfl
  · obtain ⟨a, h, m, o, k, g, rfl, sa, hh, hm, ho, hgg, q⟩ := h
    obtain ⟨dx, t, h1, h2⟩ := id sa
    refine ⟨_, (pss_cons (ps_if (pt_val (pe_callB (call_isiK1 (K := K) rfl) (by rfl) T.f_isinstance (by decide +kernel) (pa_cons (pv 1) (pa_cons (pe_glob (v := .ref _) rfl T.g_Span rfl) pa_nil))))
      (pss_one (ps_ret (pe_g (Prom.make T.mk_Span GS (hr.mono (by decide)) hg pass0) (by rfl) T.g_Span T.k_Span (pa_cons (pe_op op_add (pe_p (pv 0) T.cl_Span T.pr_Span_halves GH (hr.mono (by decide)) hg pass0) (pe_op op_mul (pv 2) (pe_fld (pv 1) rfl))) (pa_cons (pe_op op_add (pe_p (pv 0) T.cl_Span T.pr_Span_more GM (hr.mono (by decide)) hg pass0) (pe_op op_mul (pv 2) (pe_fld (pv 1) rfl))) (pa_cons (pe_op op_add (pe_p (pv 0) T.cl_Span T.pr_Span_odd GOd (hr.mono (by decide)) hg pass0) (pe_op op_mul (pv 2) (pe_fld (pv 1) rfl))) pa_nil)))))) pss_nil)
      (pss_one (ps_ret (pe_g (Prom.make T.mk_Span GS (hr.mono (by decide)) hg pass0) (by rfl) T.g_Span T.k_Span (pa_cons (pe_p (pv 0) T.cl_Span T.pr_Span_halves GH (hr.mono (by decide)) hg pass0) (pa_cons (pe_op op_add (pe_p (pv 0) T.cl_Span T.pr_Span_more GM (hr.mono (by decide)) hg pass0) (pe_op op_mul (pv 2) (pv 1))) (pa_cons (pe_p (pv 0) T.cl_Span T.pr_Span_odd GOd (hr.mono (by decide)) hg pass0) pa_nil))))))), ?_⟩
    refine ⟨_, rfl, _, _, _, _, false, rfl, .own _, .base (.int k), T.ty_Span.no _ (by decide), _, rfl, iteF ?_⟩
    refine ⟨_, rfl, a, dx, _, rfl, h1, ⟨a, h, m, o, rfl, sa, ?_⟩⟩
    refine ⟨_, rfl, a, dx, _, rfl, h1, ⟨a, h, m, o, rfl, sa, ?_⟩⟩
    refine ⟨_, rfl, _, rfl, _, _, rfl, rfl, .inl ⟨by omega, by omega⟩, _, _, rfl, rfl, ?_⟩
    refine ⟨_, rfl, a, dx, _, rfl, h1, ⟨a, h, m, o, rfl, sa, ?_⟩⟩
    exact mk_span hh hm ho q
/-- Span + int by __add__ -/
def spAdd (C : Addr) : Sp := fun vs H Q _ => ∃ (a : Addr) (h m o k : Int), vs = [.ref a, .int k] ∧ SpanAt C H a h m o ∧ (0 ≤ h ∧ h ≤ 8) ∧ (-60 ≤ m + k ∧ m + k ≤ 60) ∧ (-9 ≤ o ∧ o ≤ 9) ∧
  ∀ x H', H x = none → L2.Same H H' → SpanAt C H' x h (m + k) o → Q (.ref x) H'
abbrev N_Span___add__ : List Str := ["self", "other"]
theorem sc_Span___add__ : FnScope N_Span___add__ ["self", "other"] (defScope s_Span___add__) := ⟨rfl, rfl, rfl, by decide +kernel, rfl, by decide +kernel, by decide +kernel⟩
theorem ok_add (F : FnA K d_Span___add__ fd) (T : Tx K mg) (GPl : Pm P w K mg base 5 (md "Span" "plus" K) [] (spPlus (gd "Span" K))) : FnG P w K mg base CX0 6 (d_Span___add__.adr K) fd ["self", "other"] (spAdd (gd "Span" K)) := by
  refine fnG0 F sc_Span___add__ (fun vs H Q E h => ?_) (fun cdv A outer s H vs Q E hr hg h => ?_)
  · obtain ⟨a, h, m, o, k, rfl, _⟩ := h
    rfl
  · obtain ⟨a, h, m, o, k, rfl, sa, hh, hm, ho, q⟩ := h
    obtain ⟨dx, t, h1, h2⟩ := id sa
    refine ⟨_, (pss_one (ps_ret (pe_m (pv 0) T.cl_Span T.mt_Span_plus (Prom.call GPl (hr.mono (by decide)) hg pass0) (pa_cons (pv 1) (pa_cons pe_int pa_nil))))), ?_⟩
    refine ⟨_, rfl, a, dx, _, rfl, h1, no_field (by decide +kernel), _, rfl, ⟨a, h, m, o, k, 1, rfl, sa, hh, by omega, ho, ⟨by decide, by decide⟩, ?_⟩⟩
    rw [Int.one_mul]
    exact q
/-- whether one is below another one by a gap -/
def below (h m o h' m' o' g : Int) : Bool := decide (0 ≤ h' - h) && (decide (0 ≤ m' - m - g + (h' - h)) && decide (0 ≤ m' - m - g + o' - o))
def spBelow (C : Addr) : Sp := fun vs H Q _ => ∃ (a b : Addr) (h m o h' m' o' g : Int), vs = [.ref a, .ref b, .int g] ∧ SpanAt C H a h m o ∧ SpanAt C H b h' m' o' ∧ Q (.bl (below h m o h' m' o' g)) H
abbrev N_Span_is_below : List Str := ["self", "other", "gap", "halves", "rest"]
theorem sc_Span_is_below : FnScope N_Span_is_below ["self", "other", "gap"] (defScope s_Span_is_below) := ⟨rfl, rfl, rfl, by decide +kernel, rfl, by decide +kernel, by decide +kernel⟩
theorem ok_below (F : FnA K d_Span_is_below fd) (T : Tx K mg) (GH : Pm P w K mg base 1 (propG "Span" "halves" K) [] (spProp (gd "Span" K) fun h _ _ => h))
    (GM : Pm P w K mg base 1 (propG "Span" "more" K) [] (spProp (gd "Span" K) fun _ m _ => m)) (GOd : Pm P w K mg base 1 (propG "Span" "odd" K) [] (spProp (gd "Span" K) fun _ _ o => o)) : FnG P w K mg base CX0 3 (d_Span_is_below.adr K) fd ["self", "other", "gap"] (spBelow (gd "Span" K)) := by
  refine fnG0 F sc_Span_is_below (fun vs H Q E h => ?_) (fun cdv A outer s H vs Q E hr hg h => ?_)
  · obtain ⟨a, b, h, m, o, h', m', o', g, rfl, _⟩ := h
    rfl
  · obtain ⟨a, b, h, m, o, h', m', o', g, rfl, sa, sb, q⟩ := h
    obtain ⟨dx, t, h1, h2⟩ := id sa
    obtain ⟨dy, u, k1, k2⟩ := id sb
    refine ⟨_, (pss_cons (ps_set (i := 3) sc_Span_is_below.nd rfl (.inl rfl) (pe_op op_sub (pe_p (pv 1) T.cl_Span T.pr_Span_halves GH (hr.mono (by decide)) hg pass0) (pe_p (pv 0) T.cl_Span T.pr_Span_halves GH (hr.mono (by decide)) hg pass0)))
      (pss_cons (ps_set (i := 4) sc_Span_is_below.nd rfl (.inl rfl) (pe_op op_sub (pe_op op_sub (pe_p (pv 1) T.cl_Span T.pr_Span_more GM (hr.mono (by decide)) hg pass0) (pe_p (pv 0) T.cl_Span T.pr_Span_more GM (hr.mono (by decide)) hg pass0)) (pv 2)))
      (pss_one (ps_ret (pe_and (pe_cmpR op_ge (pv 3) pe_int (nomark _)) (pe_and (pe_cmpR op_ge (pe_op op_add (pv 4) (pv 3)) pe_int (nomark _)) (pe_one (pe_cmpR op_ge (pe_op op_sub (pe_op op_add (pv 4) (pe_p (pv 1) T.cl_Span T.pr_Span_odd GOd (hr.mono (by decide)) hg pass0)) (pe_p (pv 0) T.cl_Span T.pr_Span_odd GOd (hr.mono (by decide)) hg pass0)) pe_int (nomark _))))))))), ?_⟩
    refine ⟨_, rfl, b, dy, _, rfl, k1, ⟨b, h', m', o', rfl, sb, _, rfl, a, dx, _, rfl, h1, ⟨a, h, m, o, rfl, sa, _, _, rfl, rfl, ?_⟩⟩⟩
    refine ⟨_, rfl, b, dy, _, rfl, k1, ⟨b, h', m', o', rfl, sb, _, rfl, a, dx, _, rfl, h1, ⟨a, h, m, o, rfl, sa, _, _, rfl, rfl, _, rfl, _, _, rfl, rfl, ?_⟩⟩⟩
    refine ⟨_, rfl, _, _, rfl, rfl, _, rfl, ?_⟩
    unfold below at q
    refine ite2 (fun e1 => ?_) (fun e1 => ?_)
    · have e1' : decide (0 ≤ h' - h) = true := by simpa using e1
      rw [e1', Bool.true_and] at q
      refine ⟨_, rfl, _, rfl, _, _, rfl, rfl, _, _, rfl, rfl, _, rfl, ite2 (fun e2 => ?_) (fun e2 => ?_)⟩
      · have e2' : decide (0 ≤ m' - m - g + (h' - h)) = true := by simpa using e2
        rw [e2', Bool.true_and] at q
        refine ⟨_, rfl, _, rfl, b, dy, _, rfl, k1, ⟨b, h', m', o', rfl, sb, _, _, rfl, rfl, _, rfl, a, dx, _, rfl, h1, ⟨a, h, m, o, rfl, sa, _, _, rfl, rfl, _, _, rfl, rfl, ?_⟩⟩⟩
        exact q
      · have e2' : decide (0 ≤ m' - m - g + (h' - h)) = false := by simpa using e2
        rw [e2', Bool.false_and] at q
        exact q
    · have e1' : decide (0 ≤ h' - h) = false := by simpa using e1
      rw [e1', Bool.false_and] at q
      exact q
end
end Lw

set_option Elab.async false
set_option linter.all false
set_option maxRecDepth 100000
set_option maxHeartbeats 4000000
namespace Lw
open PySem PySem.Spec PyProof.Rows L2 Gh
section
variable {P : Program} {w : World} {K : PySem.W.Frag} {mg : Str → Option Value} {base : Heap} {f : Addr} {fd : FuncData}
/-- one <= other, one < other -/
def spLe (C : Addr) (g : Int) : Sp := fun vs H Q _ => ∃ (a b : Addr) (h m o h' m' o' : Int), vs = [.ref a, .ref b] ∧ SpanAt C H a h m o ∧ SpanAt C H b h' m' o' ∧ Q (.bl (below h m o h' m' o' g)) H
def spGe (C : Addr) (g : Int) : Sp := fun vs H Q _ => ∃ (a b : Addr) (h m o h' m' o' : Int), vs = [.ref a, .ref b] ∧ SpanAt C H a h m o ∧ SpanAt C H b h' m' o' ∧ Q (.bl (below h' m' o' h m o g)) H
abbrev N_Span___le__ : List Str := ["self", "other"]
theorem sc_Span___le__ : FnScope N_Span___le__ ["self", "other"] (defScope s_Span___le__) := ⟨rfl, rfl, rfl, by decide +kernel, rfl, by decide +kernel, by decide +kernel⟩
abbrev N_Span___lt__ : List Str := ["self", "other"]
theorem sc_Span___lt__ : FnScope N_Span___lt__ ["self", "other"] (defScope s_Span___lt__) := ⟨rfl, rfl, rfl, by decide +kernel, rfl, by decide +kernel, by decide +kernel⟩
abbrev N_Span___ge__ : List Str := ["self", "other"]
theorem sc_Span___ge__ : FnScope N_Span___ge__ ["self", "other"] (defScope s_Span___ge__) := ⟨rfl, rfl, rfl, by decide +kernel, rfl, by decide +kernel, by decide +kernel⟩
abbrev N_Span___gt__ : List Str := ["self", "other"]
theorem sc_Span___gt__ : FnScope N_Span___gt__ ["self", "other"] (defScope s_Span___gt__) := ⟨rfl, rfl, rfl, by decide +kernel, rfl, by decide +kernel, by decide +kernel⟩
theorem ok_le (F : FnA K d_Span___le__ fd) (T : Tx K mg) (GB : Pm P w K mg base 3 (md "Span" "is_below" K) [] (spBelow (gd "Span" K))) : FnG P w K mg base CX0 4 (d_Span___le__.adr K) fd ["self", "other"] (spLe (gd "Span" K) 0) := by
  refine fnG0 F sc_Span___le__ (fun vs H Q E h => ?_) (fun cdv A outer s H vs Q E hr hg h => ?_)
  · obtain ⟨a, b, h, m, o, h', m', o', rfl, _⟩ := h
    rfl
  · obtain ⟨a, b, h, m, o, h', m', o', rfl, sa, sb, q⟩ := h
    obtain ⟨dx, t, h1, h2⟩ := id sa
    refine ⟨_, (pss_one (ps_ret (pe_m (pv 0) T.cl_Span T.mt_Span_is_below (Prom.call GB (hr.mono (by decide)) hg pass0) (pa_cons (pv 1) (pa_cons pe_int pa_nil))))), ?_⟩
    exact ⟨_, rfl, a, dx, _, rfl, h1, no_field (by decide +kernel), _, rfl, a, b, h, m, o, h', m', o', 0, rfl, sa, sb, q⟩
theorem ok_lt (F : FnA K d_Span___lt__ fd) (T : Tx K mg) (GB : Pm P w K mg base 3 (md "Span" "is_below" K) [] (spBelow (gd "Span" K))) : FnG P w K mg base CX0 4 (d_Span___lt__.adr K) fd ["self", "other"] (spLe (gd "Span" K) 1) := by
  refine fnG0 F sc_Span___lt__ (fun vs H Q E h => ?_) (fun cdv A outer s H vs Q E hr hg h => ?_)
  · obtain ⟨a, b, h, m, o, h', m', o', rfl, _⟩ := h
    rfl
  · obtain ⟨a, b, h, m, o, h', m', o', rfl, sa, sb, q⟩ := h
    obtain ⟨dx, t, h1, h2⟩ := id sa
    refine ⟨_, (pss_one (ps_ret (pe_m (pv 0) T.cl_Span T.mt_Span_is_below (Prom.call GB (hr.mono (by decide)) hg pass0) (pa_cons (pv 1) (pa_cons pe_int pa_nil))))), ?_⟩
    exact ⟨_, rfl, a, dx, _, rfl, h1, no_field (by decide +kernel), _, rfl, a, b, h, m, o, h', m', o', 1, rfl, sa, sb, q⟩
theorem ok_ge (F : FnA K d_Span___ge__ fd) (T : Tx K mg) (GB : Pm P w K mg base 3 (md "Span" "is_below" K) [] (spBelow (gd "Span" K))) : FnG P w K mg base CX0 4 (d_Span___ge__.adr K) fd ["self", "other"] (spGe (gd "Span" K) 0) := by
  refine fnG0 F sc_Span___ge__ (fun vs H Q E h => ?_) (fun cdv A outer s H vs Q E hr hg h => ?_)
  · obtain ⟨a, b, h, m, o, h', m', o', rfl, _⟩ := h
    rfl
  · obtain ⟨a, b, h, m, o, h', m', o', rfl, sa, sb, q⟩ := h
    obtain ⟨dx, t, h1, h2⟩ := id sb
    refine ⟨_, (pss_one (ps_ret (pe_m (pv 1) T.cl_Span T.mt_Span_is_below (Prom.call GB (hr.mono (by decide)) hg pass0) (pa_cons (pv 0) (pa_cons pe_int pa_nil))))), ?_⟩
    exact ⟨_, rfl, b, dx, _, rfl, h1, no_field (by decide +kernel), _, rfl, b, a, h', m', o', h, m, o, 0, rfl, sb, sa, q⟩
theorem ok_gt (F : FnA K d_Span___gt__ fd) (T : Tx K mg) (GB : Pm P w K mg base 3 (md "Span" "is_below" K) [] (spBelow (gd "Span" K))) : FnG P w K mg base CX0 4 (d_Span___gt__.adr K) fd ["self", "other"] (spGe (gd "Span" K) 1) := by
  refine fnG0 F sc_Span___gt__ (fun vs H Q E h => ?_) (fun cdv A outer s H vs Q E hr hg h => ?_)
  · obtain ⟨a, b, h, m, o, h', m', o', rfl, _⟩ := h
    rfl
  · obtain ⟨a, b, h, m, o, h', m', o', rfl, sa, sb, q⟩ := h
    obtain ⟨dx, t, h1, h2⟩ := id sb
    refine ⟨_, (pss_one (ps_ret (pe_m (pv 1) T.cl_Span T.mt_Span_is_below (Prom.call GB (hr.mono (by decide)) hg pass0) (pa_cons (pv 0) (pa_cons pe_int pa_nil))))), ?_⟩
    exact ⟨_, rfl, b, dx, _, rfl, h1, no_field (by decide +kernel), _, rfl, b, a, h', m', o', h, m, o, 1, rfl, sb, sa, q⟩
/-! ### the law's helpers -/
abbrev N__law_pick : List Str := ["_law_pen_here", "_law_some"]
theorem sc__law_pick : FnScope N__law_pick ["_law_pen_here", "_law_some"] (defScope s__law_pick) := ⟨rfl, rfl, rfl, by decide +kernel, rfl, by decide +kernel, by decide +kernel⟩
theorem ok_pick (F : FnA K d__law_pick fd) (T : Tx K mg) (GD : Pm P w K mg base 1 (gd "_law_draw" K) [] spDraw) : FnG P w K mg base CX0 2 (d__law_pick.adr K) fd ["_law_pen_here", "_law_some"] spPick := by
  refine fnG0 F sc__law_pick (fun vs H Q E h => ?_) (fun cdv A outer s H vs Q E hr hg h => ?_)
  · obtain ⟨p, b, l, xs, rfl, _⟩ := h
    rfl
  · obtain ⟨p, b, l, xs, rfl, hL, h0, h1, hne, pn, q⟩ := h
    refine ⟨_, (pss_one (ps_ret (pe_ix (ix_listK (K := K) rfl) (pv 1) (pe_g (Prom.call GD (hr.mono (by decide)) hg pass0) (by rfl) T.g__law_draw T.k__law_draw (pa_cons (pv 0) (pa_cons (pe_callB (call_lenK (K := K) rfl) (by rfl) T.f_len (by decide +kernel) (pa_cons (pv 1) pa_nil)) pa_nil))) (fun _ _ => rfl)))), ?_⟩
    refine ⟨_, rfl, _, rfl, _, rfl, _, _, rfl, .inl ⟨_, SqL.of hL, rfl⟩, ⟨p, b, _, rfl, by omega, ?_, pn, fun d H' hd0 hd1 pn' kp => ?_⟩⟩
    · exact log_small (n := 20) (by omega) (by omega) (by decide) (by decide)
    · obtain ⟨j, rfl⟩ : ∃ j : Nat, d = j := ⟨d.toNat, by omega⟩
      have hj : j < xs.length := by omega
      exact ⟨l, xs, _, xs[j], rfl, rfl, SqL.of (kp _ _ hL hne), atI_nat (List.getElem?_eq_getElem hj), q j _ H' (List.getElem?_eq_getElem hj) pn' kp⟩
/-- a span's number at a length -/
def num (h m o n : Int) : Int := h * (n / 2) + m + o * (n % 2)
def spNumber (K : PySem.W.Frag) : Sp := fun vs H Q _ => ∃ (l : Addr) (h m o n : Int), vs = [.ref l, .int n] ∧ H l = some (.lst [.int h, .int m, .int o]) ∧ (-1000 ≤ h ∧ h ≤ 1000) ∧ (-1000 ≤ o ∧ o ≤ 1000) ∧ Q (.int (num h m o n)) H
abbrev N__law_number : List Str := ["_law_parts", "_law_n"]
theorem sc__law_number : FnScope N__law_number ["_law_parts", "_law_n"] (defScope s__law_number) := ⟨rfl, rfl, rfl, by decide +kernel, rfl, by decide +kernel, by decide +kernel⟩
theorem ok_number (F : FnA K d__law_number fd) (T : Tx K mg) : FnG P w K mg base CX0 1 (d__law_number.adr K) fd ["_law_parts", "_law_n"] (spNumber K) := by
  refine fnG0 F sc__law_number (fun vs H Q E h => ?_) (fun cdv A outer s H vs Q E hr hg h => ?_)
  · obtain ⟨l, h, m, o, n, rfl, _⟩ := h
    rfl
  · obtain ⟨l, h, m, o, n, rfl, hL, hh, ho, q⟩ := h
    refine ⟨_, (pss_one (ps_ret (pe_op op_add (pe_op op_add (pe_op op_mul (pe_ix (ix_listK (K := K) rfl) (pv 0) pe_int (fun _ _ => rfl)) (pe_op op_fdivW (pv 1) pe_int)) (pe_ix (ix_listK (K := K) rfl) (pv 0) pe_int (fun _ _ => rfl))) (pe_op op_mul (pe_ix (ix_listK (K := K) rfl) (pv 0) pe_int (fun _ _ => rfl)) (pe_op op_mod (pe_callTy call_int1 (by rfl) T.f_int (by decide +kernel) (pa_cons (pv 1) pa_nil)) pe_int))))), ?_⟩
    refine ⟨_, rfl, l, _, _, .int h, rfl, rfl, SqL.of hL, rfl, _, rfl, _, _, rfl, rfl, ⟨by decide, by decide⟩, _, _, rfl, rfl, .inl ⟨by omega, by omega⟩, ?_⟩
    refine ⟨_, rfl, l, _, _, .int m, rfl, rfl, SqL.of hL, rfl, _, _, rfl, rfl, ?_⟩
    refine ⟨_, rfl, l, _, _, .int o, rfl, rfl, SqL.of hL, rfl, _, rfl, .inl ⟨_, rfl, _, _, rfl, rfl, (by show (0 : Int) < 2; decide), _, _, rfl, rfl, .inl ⟨by omega, by omega⟩, _, _, rfl, rfl, ?_⟩⟩
    exact q
/-- the numbers of the one less those of the other, at the lengths from 1 to 320 -/
def gaps (h m o h' m' o' : Int) : List Int := (List.range 320).map fun (k : Nat) => num h' m' o' (1 + k) - num h m o (1 + k)
theorem gaps_len (h m o h' m' o' : Int) : (gaps h m o h' m' o').length = 320 := by
  unfold gaps
  rw [List.length_map, List.length_range]
theorem gaps_at (h m o h' m' o' : Int) {i : Nat} (hi : i < 320) : (gaps h m o h' m' o')[i]? = some (num h' m' o' (1 + i) - num h m o (1 + i)) := by
  unfold gaps
  rw [List.getElem?_map, List.getElem?_range hi]
  rfl
theorem gaps_mem {h m o h' m' o' y : Int} (k : y ∈ gaps h m o h' m' o') : ∃ n : Nat, n < 320 ∧ y = num h' m' o' (1 + n) - num h m o (1 + n) := by
  unfold gaps at k
  obtain ⟨n, hn, e⟩ := List.mem_map.mp k
  exact ⟨n, List.mem_range.mp hn, e.symm⟩
/-- what the law's orders tell -/
def told (h m o h' m' o' : Int) (b1 b2 b3 b4 : Bool) : Prop := ∃ lo hi : Int, lo ∈ gaps h m o h' m' o' ∧ (∀ y ∈ gaps h m o h' m' o', lo ≤ y) ∧ hi ∈ gaps h m o h' m' o' ∧ (∀ y ∈ gaps h m o h' m' o', y ≤ hi) ∧
  b1 = decide (0 ≤ lo) ∧ b2 = decide (0 < lo) ∧ b3 = decide (hi ≤ 0) ∧ b4 = decide (hi < 0)
def spOrders (K : PySem.W.Frag) : Sp := fun vs H Q _ => ∃ (l r : Addr) (h m o h' m' o' : Int), vs = [.ref l, .ref r] ∧ H l = some (.lst [.int h, .int m, .int o]) ∧ H r = some (.lst [.int h', .int m', .int o']) ∧
  (-1000 ≤ h ∧ h ≤ 1000) ∧ (-1000 ≤ o ∧ o ≤ 1000) ∧ (-1000 ≤ h' ∧ h' ≤ 1000) ∧ (-1000 ≤ o' ∧ o' ≤ 1000) ∧
  ∀ x H' b1 b2 b3 b4, L2.Same H H' → H x = none → H' x = some (.lst [.bl b1, .bl b2, .bl b3, .bl b4]) → told h m o h' m' o' b1 b2 b3 b4 → Q (.ref x) H'
abbrev N__law_orders : List Str := ["_law_parts", "_law_others", "_law_gaps", "_law_low", "_law_high", "_law_n", "_law_gap"]
theorem sc__law_orders : FnScope N__law_orders ["_law_parts", "_law_others"] (defScope s__law_orders) := ⟨rfl, rfl, rfl, by decide +kernel, rfl, by decide +kernel, by decide +kernel⟩
theorem ok_orders (F : FnA K d__law_orders fd) (T : Tx K mg) (GN : Pm P w K mg base 1 (gd "_law_number" K) [] (spNumber K)) : FnG P w K mg base CX0 2 (d__law_orders.adr K) fd ["_law_parts", "_law_others"] (spOrders K) := by
  refine fnG0 F sc__law_orders (fun vs H Q E h => ?_) (fun cdv A outer s H vs Q E hr hg h => ?_)
  · obtain ⟨l, r, h, m, o, h', m', o', rfl, _⟩ := h
    rfl
  · obtain ⟨l, r, h, m, o, h', m', o', rfl, hL, hR, hh, ho, hh', ho', q⟩ := h
    refine ⟨_, (pss_cons (ps_setLc (i := 2) (own := [("_law_n", 5)]) (g := gName 5) (by rfl) sc__law_orders.nd rfl rfl (sw_true rfl rfl rfl (by decide +kernel)) (pi_range2 (by rfl) T.f_range (pa_cons pe_int (pa_cons pe_int pa_nil))) (blkOk_by (own := [("_law_n", 5)]) (N := N__law_orders) (sc := defScope s__law_orders) (by decide +kernel))
        (fun _ _ _ _ _ => pg_name (i := 5) sc__law_orders.nd rfl (Or.inl rfl)) (fun _ _ _ _ _ => pts_nil) (fun _ _ _ _ _ => (pe_op op_sub (pe_g (Prom.call GN (hr.mono (by decide)) hg pass0) (by rfl) T.g__law_number T.k__law_number (pa_cons (pv 1) (pa_cons (pv 5) pa_nil))) (pe_g (Prom.call GN (hr.mono (by decide)) hg pass0) (by rfl) T.g__law_number T.k__law_number (pa_cons (pv 0) (pa_cons (pv 5) pa_nil))))))
      (pss_cons (ps_par (i := 3) (j := 4) (by rfl) sc__law_orders.nd rfl rfl (by decide) rfl rfl (pa_cons (pe_callB (cr_min rfl) (by rfl) T.f_min (by decide +kernel) (pa_cons (pe_lc (own := [("_law_gap", 6)]) (g := gName 6) (by rfl) sc__law_orders.nd (pi_list (pv 2)) (blkOk_by (own := [("_law_gap", 6)]) (N := N__law_orders) (sc := defScope s__law_orders) (by decide +kernel))
        (fun _ _ _ _ _ => pg_name (i := 6) sc__law_orders.nd rfl (Or.inl rfl)) (fun _ _ _ _ _ => pts_nil) (fun _ _ _ _ _ => (pe_callTy call_int1 (by rfl) T.f_int (by decide +kernel) (pa_cons (pv 6) pa_nil)))) pa_nil)) (pa_cons (pe_callB (cr_max rfl) (by rfl) T.f_max (by decide +kernel) (pa_cons (pe_lc (own := [("_law_gap", 6)]) (g := gName 6) (by rfl) sc__law_orders.nd (pi_list (pv 2)) (blkOk_by (own := [("_law_gap", 6)]) (N := N__law_orders) (sc := defScope s__law_orders) (by decide +kernel))
        (fun _ _ _ _ _ => pg_name (i := 6) sc__law_orders.nd rfl (Or.inl rfl)) (fun _ _ _ _ _ => pts_nil) (fun _ _ _ _ _ => (pe_callTy call_int1 (by rfl) T.f_int (by decide +kernel) (pa_cons (pv 6) pa_nil)))) pa_nil)) pa_nil)) (by rfl))
      (pss_one (ps_ret (pe_lst (pa_cons (pe_cmpR op_ge (pv 3) pe_int (nomark _)) (pa_cons (pe_cmpR op_gt (pv 3) pe_int (nomark _)) (pa_cons (pe_cmpR op_le (pv 4) pe_int (nomark _)) (pa_cons (pe_cmpR op_lt (pv 4) pe_int (nomark _)) pa_nil))))))))), ?_⟩
    refine ⟨1, 321, rfl, ⟨by decide, by decide, by decide, by decide⟩, fun D nD => ?_⟩
    have nl : l ≠ D := ne_of_none hL nD
    have nr : r ≠ D := ne_of_none hR nD
    refine lc_range (lo := 1) (n := 320) (fun i H1 => L2.Same H H1 ∧ H1 D = some (.lst (((gaps h m o h' m' o').take i).map V.int))) ⟨same_new nD, upd_same⟩ (fun i H1 hi ⟨s1, e1⟩ => ?_) (fun H1 ⟨s1, e1⟩ => ?_)
    · refine ⟨rfl, yes_ite ?_⟩
      refine ⟨_, rfl, _, rfl, ⟨r, h', m', o', _, rfl, s1 _ _ hR, hh', ho', _, rfl, _, rfl, ⟨l, h, m, o, _, rfl, s1 _ _ hL, hh, ho, _, _, rfl, rfl, _, e1, ?_, ?_, ?_⟩⟩⟩
      · rw [List.length_map, List.length_take]
        exact Nat.lt_of_le_of_lt (Nat.min_le_left _ _) (small1000 (by omega))
      · exact fun a u e => by
          rw [upd_ne (ne_of_none e nD)]
          exact s1 _ _ e
      · rw [upd_same, List.take_add_one, gaps_at _ _ _ _ _ _ hi, List.map_append]
        rfl
    · -- low, high
      have e2 : H1 D = some (.lst ((gaps h m o h' m' o').map V.int)) := by
        rw [e1, List.take_of_length_le (by rw [gaps_len]; omega)]
      have g0 : 0 < (gaps h m o h' m' o').length := by rw [gaps_len]; decide
      refine ⟨_, rfl, D, rfl, ⟨_, SqL.of e2⟩, lc_int (i := 6) (SqL.of e2) (by rw [gaps_len]; decide) (fun _ => rfl) (fun _ => rfl) fun G H2 s2 nG eG => ?_⟩
      refine ⟨G, _, rfl, SqL.of eG, g0, fun lo l1 l2 => ?_⟩
      refine ⟨_, rfl, D, rfl, ⟨_, SqL.of (s2 _ _ e2)⟩, lc_int (i := 6) (SqL.of (s2 _ _ e2)) (by rw [gaps_len]; decide) (fun _ => rfl) (fun _ => rfl) fun G' H3 s3 nG' eG' => ?_⟩
      refine ⟨G', _, rfl, SqL.of eG', g0, fun hi u1 u2 => ?_⟩
      refine ⟨_, _, rfl, ?_⟩
      refine ⟨_, rfl, _, _, rfl, rfl, _, rfl, _, _, rfl, rfl, _, rfl, _, _, rfl, rfl, _, rfl, _, _, rfl, rfl, by show 4 ≤ sizeLine; decide, fun x nx => ?_⟩
      have s4 : L2.Same H H3 := s1.trans (s2.trans s3)
      exact q x _ _ _ _ _ (s4.trans (same_new nx)) (s4.free nx) upd_same ⟨lo, hi, l1, l2, u1, u2, rfl, rfl, rfl, rfl⟩
end
end Lw

set_option Elab.async false
set_option linter.all false
set_option maxRecDepth 100000
set_option maxHeartbeats 4000000
namespace Lw
open PySem PySem.Spec PyProof.Rows L2 Gh
/-! ### the mathematics of the orders -/
theorem gap_eq (h m o h' m' o' n : Int) : num h' m' o' n - num h m o n = (h' - h) * (n / 2) + (m' - m) + (o' - o) * (n % 2) := by
  unfold num
  rw [Int.sub_mul, Int.sub_mul]
  omega
theorem all_iff {d e f g : Int} (he : -100 ≤ e ∧ e ≤ 100) (hf : -50 ≤ f ∧ f ≤ 50) (hg : 0 ≤ g ∧ g ≤ 1) :
    (∀ n : Nat, n < 320 → g ≤ d * ((1 + (n : Int)) / 2) + e + f * ((1 + (n : Int)) % 2)) ↔ (0 ≤ d ∧ 0 ≤ e - g + d ∧ 0 ≤ e - g + f) := by
  constructor
  · intro k
    have k0 := k 0 (by decide)
    have k1 := k 1 (by decide)
    have k9 := k 319 (by decide)
    have e0 : (1 + ((0 : Nat) : Int)) / 2 = 0 := by decide
    have r0 : (1 + ((0 : Nat) : Int)) % 2 = 1 := by decide
    have e1 : (1 + ((1 : Nat) : Int)) / 2 = 1 := by decide
    have r1 : (1 + ((1 : Nat) : Int)) % 2 = 0 := by decide
    have e9 : (1 + ((319 : Nat) : Int)) / 2 = 160 := by decide
    have r9 : (1 + ((319 : Nat) : Int)) % 2 = 0 := by decide
    rw [e0, r0] at k0
    rw [e1, r1] at k1
    rw [e9, r9] at k9
    omega
  · rintro ⟨h0, h1, h2⟩ n hn
    have hk : (0 : Int) ≤ (1 + (n : Int)) / 2 := by omega
    rcases (show (1 + (n : Int)) % 2 = 0 ∨ (1 + (n : Int)) % 2 = 1 by omega) with r | r
    · have hk1 : (1 : Int) ≤ (1 + (n : Int)) / 2 := by omega
      have hd : d * 1 ≤ d * ((1 + (n : Int)) / 2) := Int.mul_le_mul_of_nonneg_left hk1 h0
      rw [r]
      omega
    · have hd : 0 ≤ d * ((1 + (n : Int)) / 2) := Int.mul_nonneg h0 hk
      rw [r]
      omega
theorem dec_iff {p : Prop} [Decidable p] {h m o h' m' o' g : Int} (k : p ↔ (0 ≤ h' - h ∧ 0 ≤ m' - m - g + (h' - h) ∧ 0 ≤ m' - m - g + (o' - o))) : decide p = below h m o h' m' o' g := by
  unfold below
  have e : m' - m - g + o' - o = m' - m - g + (o' - o) := by omega
  rw [e, ← Bool.decide_and, ← Bool.decide_and]
  exact decide_eq_decide.mpr k
theorem orders_eq {h m o h' m' o' : Int} {b1 b2 b3 b4 : Bool} (t : told h m o h' m' o' b1 b2 b3 b4) (he : -100 ≤ m' - m ∧ m' - m ≤ 100) (hf : -50 ≤ o' - o ∧ o' - o ≤ 50) :
    b1 = below h m o h' m' o' 0 ∧ b2 = below h m o h' m' o' 1 ∧ b3 = below h' m' o' h m o 0 ∧ b4 = below h' m' o' h m o 1 := by
  obtain ⟨lo, hi, l1, l2, u1, u2, rfl, rfl, rfl, rfl⟩ := t
  have low : ∀ g : Int, 0 ≤ g ∧ g ≤ 1 → (g ≤ lo ↔ (0 ≤ h' - h ∧ 0 ≤ m' - m - g + (h' - h) ∧ 0 ≤ m' - m - g + (o' - o))) := fun g hg => by
    rw [← all_iff he hf hg]
    constructor
    · intro k n hn
      have y := l2 _ (List.mem_of_getElem? (gaps_at h m o h' m' o' hn))
      rw [gap_eq] at y
      exact Int.le_trans k y
    · intro k
      obtain ⟨n, hn, e⟩ := gaps_mem l1
      rw [e, gap_eq]
      exact k n hn
  have high : ∀ g : Int, 0 ≤ g ∧ g ≤ 1 → (g ≤ -hi ↔ (0 ≤ h - h' ∧ 0 ≤ m - m' - g + (h - h') ∧ 0 ≤ m - m' - g + (o - o'))) := fun g hg => by
    rw [← all_iff (d := h - h') (e := m - m') (f := o - o') (by omega) (by omega) hg]
    constructor
    · intro k n hn
      have y := u2 _ (List.mem_of_getElem? (gaps_at h m o h' m' o' hn))
      have z := gap_eq h' m' o' h m o (1 + (n : Int))
      omega
    · intro k
      obtain ⟨n, hn, e⟩ := gaps_mem u1
      have y := k n hn
      have z := gap_eq h' m' o' h m o (1 + (n : Int))
      omega
  refine ⟨dec_iff (low 0 (by decide)), dec_iff ?_, dec_iff ?_, dec_iff ?_⟩
  · rw [← low 1 (by decide)]
    omega
  · rw [← high 0 (by decide)]
    omega
  · rw [← high 1 (by decide)]
    omega
theorem below_self (h m o : Int) : below h m o h m o 0 = true ∧ below h m o h m o 1 = false ∧ below h m o h (m + 1) o 1 = true := by
  refine ⟨?_, ?_, ?_⟩
  · unfold below
    rw [decide_eq_true (by omega), decide_eq_true (by omega), decide_eq_true (by omega)]
    rfl
  · unfold below
    rw [decide_eq_false (p := 0 ≤ m - m - 1 + (h - h)) (by omega), Bool.false_and, Bool.and_false]
  · unfold below
    rw [decide_eq_true (by omega), decide_eq_true (by omega), decide_eq_true (by omega)]
    rfl
theorem below_5 (h m o h' m' o' : Int) : below h (m + 5) o h' (m' + 5) o' 0 = below h m o h' m' o' 0 := by
  unfold below
  have e : m' + 5 - (m + 5) = m' - m := by omega
  rw [e]
/-! ### readings -/
theorem shown4 (b1 b2 b3 b4 : Bool) : (PyData.shown (.list [.bool b1, .bool b2, .bool b3, .bool b4])).length ≤ sizeLine := by
  cases b1 <;> cases b2 <;> cases b3 <;> cases b4 <;> decide +kernel
theorem rp4 {K : PySem.W.Frag} {H : Hp} {x : Addr} {Q : VK} {b1 b2 b3 b4 : Bool} (h : H x = some (.lst [.bl b1, .bl b2, .bl b3, .bl b4])) (q : Q (.str (PyData.shown (.list [.bool b1, .bool b2, .bool b3, .bool b4]))) H) : rRepr K [.ref x] H Q := by
  unfold rRepr
  exact ⟨x, .list [.bool b1, .bool b2, .bool b3, .bool b4], rfl, .lst (SqL.of h) (.cons (.bl _) (.cons (.bl _) (.cons (.bl _) (.cons (.bl _) .nil)))), rfl, rfl, Nat.le_of_ble_eq_true rfl, shown4 _ _ _ _, q⟩
theorem shown3 (b1 b2 b3 : Bool) : (PyData.shown (.list [.bool b1, .bool b2, .bool b3])).length ≤ sizeLine := by
  cases b1 <;> cases b2 <;> cases b3 <;> decide +kernel
theorem rp3 {K : PySem.W.Frag} {H : Hp} {x : Addr} {Q : VK} {b1 b2 b3 : Bool} (h : H x = some (.lst [.bl b1, .bl b2, .bl b3])) (q : Q (.str (PyData.shown (.list [.bool b1, .bool b2, .bool b3]))) H) : rRepr K [.ref x] H Q := by
  unfold rRepr
  exact ⟨x, .list [.bool b1, .bool b2, .bool b3], rfl, .lst (SqL.of h) (.cons (.bl _) (.cons (.bl _) (.cons (.bl _) .nil))), rfl, rfl, Nat.le_of_ble_eq_true rfl, shown3 _ _ _, q⟩
theorem cmp_le {K : PySem.W.Frag} {C a b : Addr} {H : Hp} {h m o h' m' o' g : Int} {E : XK} {Q : VK} (n : OwnT K C) (sa : SpanAt C H a h m o) (sb : SpanAt C H b h' m' o') (q : Q (.bl (below h m o h' m' o' g)) H) : rCmp K C (rSp (spLe C g) [] E) (.ref a) (.ref b) H Q := by
  obtain ⟨dx, t, h1, _⟩ := id sa
  obtain ⟨dy, u, k1, _⟩ := id sb
  unfold rCmp
  exact ⟨a, dx, _, b, C, dy, _, rfl, rfl, h1, k1, n.nf, a, b, h, m, o, h', m', o', rfl, sa, sb, q⟩
theorem cmp_ge {K : PySem.W.Frag} {C a b : Addr} {H : Hp} {h m o h' m' o' g : Int} {E : XK} {Q : VK} (n : OwnT K C) (sa : SpanAt C H a h m o) (sb : SpanAt C H b h' m' o') (q : Q (.bl (below h' m' o' h m o g)) H) : rCmp K C (rSp (spGe C g) [] E) (.ref a) (.ref b) H Q := by
  obtain ⟨dx, t, h1, _⟩ := id sa
  obtain ⟨dy, u, k1, _⟩ := id sb
  unfold rCmp
  exact ⟨a, dx, _, b, C, dy, _, rfl, rfl, h1, k1, n.nf, a, b, h, m, o, h', m', o', rfl, sa, sb, q⟩
theorem bin_add {C a : Addr} {H : Hp} {h m o k : Int} {E : XK} {Q : VK} (sa : SpanAt C H a h m o) (hh : 0 ≤ h ∧ h ≤ 8) (hm : -60 ≤ m + k ∧ m + k ≤ 60) (ho : -9 ≤ o ∧ o ≤ 9)
    (q : ∀ x H', H x = none → L2.Same H H' → SpanAt C H' x h (m + k) o → Q (.ref x) H') : rBinI C (rSp (spAdd C) [] E) (.ref a) (.int k) H Q := by
  obtain ⟨dx, t, h1, _⟩ := id sa
  unfold rBinI
  exact ⟨a, dx, _, k, rfl, rfl, h1, a, h, m, o, k, rfl, sa, hh, hm, ho, q⟩
end Lw

set_option Elab.async false
set_option linter.all false
set_option maxRecDepth 100000
set_option maxHeartbeats 8000000
namespace Lw
open PySem PySem.Spec PyProof.Rows L2 Gh
section
variable {P : Program} {w : World} {K : PySem.W.Frag} {mg : Str → Option Value} {base : Heap} {f : Addr} {fd : FuncData}
def spLaw (K : PySem.W.Frag) : Sp := fun vs H Q _ => ∃ (a : Addr) (ns : List Int), vs = [.ref a] ∧ SqL K H a (ns.map V.int) ∧ ns.length ≤ 63 ∧ ∀ H', Q (.bl true) H'
abbrev N_law : List Str := ["_law_script", "_law_pen_here", "_law_turn", "_law_parts", "_law_change", "_law_others", "_law_shown", "_law_far", "_law_near", "_law_one", "_law_other", "_law_at"]
theorem sc_law : FnScope N_law ["_law_script"] (defScope s_law) := ⟨rfl, rfl, rfl, by decide +kernel, rfl, by decide +kernel, by decide +kernel⟩
theorem ok_law (F : FnA K d_law fd) (T : Tx K mg) (GP : Pm P w K mg base 1 (gd "_law_pen" K) [] (spPen K)) (GD : Pm P w K mg base 1 (gd "_law_draw" K) [] spDraw) (GK : Pm P w K mg base 2 (gd "_law_pick" K) [] spPick)
    (GO : Pm P w K mg base 2 (gd "_law_orders" K) [] (spOrders K)) (GS : Pm P w K mg base 3 (md "Span" "__init__" K) [] (spInit (gd "Span" K))) (GA : Pm P w K mg base 6 (md "Span" "__add__" K) [] (spAdd (gd "Span" K)))
    (GLe : Pm P w K mg base 4 (md "Span" "__le__" K) [] (spLe (gd "Span" K) 0)) (GLt : Pm P w K mg base 4 (md "Span" "__lt__" K) [] (spLe (gd "Span" K) 1))
    (GGe : Pm P w K mg base 4 (md "Span" "__ge__" K) [] (spGe (gd "Span" K) 0)) (GGt : Pm P w K mg base 4 (md "Span" "__gt__" K) [] (spGe (gd "Span" K) 1)) : FnG P w K mg base CX0 10 (d_law.adr K) fd ["_law_script"] (spLaw K) := by
  refine fnG0 F sc_law (fun vs H Q E h => ?_) (fun cdv A outer s H vs Q E hr hg h => ?_)
  · obtain ⟨a, ns, rfl, _⟩ := h
    rfl
  · obtain ⟨a, ns, rfl, hS, hl, q⟩ := h
    have hu100 := Nat.lt_of_le_of_lt (Nat.add_le_add_left (show 102 ≤ 16 * 9 + 200 by decide) _) (show _ + (16 * 9 + 200) < cLine from hr.un)
    have hu := Nat.lt_of_le_of_lt (Nat.le_add_right _ 102) hu100
    obtain ⟨rc, erc, hrc⟩ := T.op_Span_Add.rc
    obtain ⟨fo, efo⟩ := T.op_Span_Add.fo
    obtain ⟨ro, ero⟩ := T.op_Span_Add.ro
    refine ⟨_, (pss_cons (ps_set (i := 1) sc_law.nd rfl (.inl rfl) (pe_g (Prom.call GP (hr.mono (by decide)) hg pass0) (by rfl) T.g__law_pen T.k__law_pen (pa_cons (pv 0) pa_nil)))
      (pss_cons (ps_for PassesOwn.never rfl (pi_range1 (by rfl) T.f_range (pa_cons pe_int pa_nil)) (pg_name (i := 2) sc_law.nd rfl (.inl rfl))
      (pss_cons (ps_set (i := 3) sc_law.nd rfl (.inr rfl) (pe_lst (pa_cons (pe_g (Prom.call GD (hr.mono (by decide)) hg pass0) (by rfl) T.g__law_draw T.k__law_draw (pa_cons (pv 1) (pa_cons pe_int pa_nil))) (pa_cons (pe_op op_sub (pe_g (Prom.call GD (hr.mono (by decide)) hg pass0) (by rfl) T.g__law_draw T.k__law_draw (pa_cons (pv 1) (pa_cons pe_int pa_nil))) pe_int) (pa_cons (pe_op op_sub (pe_g (Prom.call GD (hr.mono (by decide)) hg pass0) (by rfl) T.g__law_draw T.k__law_draw (pa_cons (pv 1) (pa_cons pe_int pa_nil))) pe_int) pa_nil)))))
      (pss_cons (ps_set (i := 4) sc_law.nd rfl (.inr rfl) (pe_g (Prom.call GK (hr.mono (by decide)) hg pass0) (by rfl) T.g__law_pick T.k__law_pick (pa_cons (pv 1) (pa_cons (pe_lst (pa_cons (pe_lst (pa_cons pe_int (pa_cons pe_int (pa_cons pe_int pa_nil)))) (pa_cons (pe_lst (pa_cons pe_int (pa_cons (pe_un un_neg pe_int) (pa_cons pe_int pa_nil)))) (pa_cons (pe_lst (pa_cons pe_int (pa_cons pe_int (pa_cons (pe_un un_neg pe_int) pa_nil)))) (pa_cons (pe_lst (pa_cons pe_int (pa_cons pe_int (pa_cons pe_int pa_nil)))) (pa_cons (pe_lst (pa_cons pe_int (pa_cons pe_int (pa_cons pe_int pa_nil)))) (pa_cons (pe_lst (pa_cons pe_int (pa_cons pe_int (pa_cons (pe_un un_neg pe_int) pa_nil)))) (pa_cons (pe_lst (pa_cons pe_int (pa_cons (pe_un un_neg pe_int) (pa_cons pe_int pa_nil)))) pa_nil)))))))) pa_nil))))
      (pss_cons (ps_setLc (i := 5) (own := [("_law_at", 11)]) (g := gName 11) (by rfl) sc_law.nd rfl rfl (sw_true rfl rfl rfl (by decide +kernel)) (pi_range1 (by rfl) T.f_range (pa_cons pe_int pa_nil)) (blkOk_by (own := [("_law_at", 11)]) (N := N_law) (sc := defScope s_law) (by decide +kernel))
        (fun _ _ _ _ _ => pg_name (i := 11) sc_law.nd rfl (Or.inl rfl)) (fun _ _ _ _ _ => pts_nil) (fun _ _ _ _ _ => (pe_op op_add (pe_ix (ix_listK (K := K) rfl) (pv 3) (pv 11) (fun _ _ => rfl)) (pe_ix (ix_listK (K := K) rfl) (pv 4) (pv 11) (fun _ _ => rfl)))))
      (pss_cut (ps_if (pt_cmpR op_eq (pe_g (Prom.call GD (hr.mono (by decide)) hg pass0) (by rfl) T.g__law_draw T.k__law_draw (pa_cons (pv 1) (pa_cons pe_int pa_nil))) pe_int (nomark _))
      (pss_one (ps_set (i := 5) sc_law.nd rfl (.inl rfl) (pe_lst (pa_cons (pe_g (Prom.call GD (hr.mono (by decide)) hg pass0) (by rfl) T.g__law_draw T.k__law_draw (pa_cons (pv 1) (pa_cons pe_int pa_nil))) (pa_cons (pe_op op_sub (pe_g (Prom.call GD (hr.mono (by decide)) hg pass0) (by rfl) T.g__law_draw T.k__law_draw (pa_cons (pv 1) (pa_cons pe_int pa_nil))) pe_int) (pa_cons (pe_op op_sub (pe_g (Prom.call GD (hr.mono (by decide)) hg pass0) (by rfl) T.g__law_draw T.k__law_draw (pa_cons (pv 1) (pa_cons pe_int pa_nil))) pe_int) pa_nil)))))) pss_nil)
      (pss_cons (ps_par (i := 9) (j := 10) (by rfl) sc_law.nd rfl rfl (by decide) rfl rfl (pa_cons (pe_g (Prom.make T.mk_Span GS (hr.mono (by decide)) hg pass0) (by rfl) T.g_Span T.k_Span (pa_cons (pe_ix (ix_listK (K := K) rfl) (pv 3) pe_int (fun _ _ => rfl)) (pa_cons (pe_ix (ix_listK (K := K) rfl) (pv 3) pe_int (fun _ _ => rfl)) (pa_cons (pe_ix (ix_listK (K := K) rfl) (pv 3) pe_int (fun _ _ => rfl)) pa_nil)))) (pa_cons (pe_g (Prom.make T.mk_Span GS (hr.mono (by decide)) hg pass0) (by rfl) T.g_Span T.k_Span (pa_cons (pe_ix (ix_listK (K := K) rfl) (pv 5) pe_int (fun _ _ => rfl)) (pa_cons (pe_ix (ix_listK (K := K) rfl) (pv 5) pe_int (fun _ _ => rfl)) (pa_cons (pe_ix (ix_listK (K := K) rfl) (pv 5) pe_int (fun _ _ => rfl)) pa_nil)))) pa_nil)) (by rfl))
      (pss_cons (ps_if (pt_cmpR op_ne (pe_callB (call_reprK (K := K) rfl hu100 hg) (by rfl) T.f_repr (by decide +kernel) (pa_cons (pe_lst (pa_cons (pe_cmpR (op_cmp (fun _ _ => rfl) T.mt_Span___le__.at_ T.mt_Span___le__.fn hu (Prom.call GLe (hr.mono (by decide)) hg pass0)) (pv 9) (pv 10) (nomark _)) (pa_cons (pe_cmpR (op_cmp (fun _ _ => rfl) T.mt_Span___lt__.at_ T.mt_Span___lt__.fn hu (Prom.call GLt (hr.mono (by decide)) hg pass0)) (pv 9) (pv 10) (nomark _)) (pa_cons (pe_cmpR (op_cmp (fun _ _ => rfl) T.mt_Span___ge__.at_ T.mt_Span___ge__.fn hu (Prom.call GGe (hr.mono (by decide)) hg pass0)) (pv 9) (pv 10) (nomark _)) (pa_cons (pe_cmpR (op_cmp (fun _ _ => rfl) T.mt_Span___gt__.at_ T.mt_Span___gt__.fn hu (Prom.call GGt (hr.mono (by decide)) hg pass0)) (pv 9) (pv 10) (nomark _)) pa_nil))))) pa_nil)) (pe_callB (call_reprK (K := K) rfl hu100 hg) (by rfl) T.f_repr (by decide +kernel) (pa_cons (pe_g (Prom.call GO (hr.mono (by decide)) hg pass0) (by rfl) T.g__law_orders T.k__law_orders (pa_cons (pv 3) (pa_cons (pv 5) pa_nil))) pa_nil)) (nomark _))
      (pss_one (ps_ret pe_bl)) pss_nil)
      (pss_cons (ps_if (pt_cmpR op_ne (pe_callB (call_reprK (K := K) rfl hu100 hg) (by rfl) T.f_repr (by decide +kernel) (pa_cons (pe_lst (pa_cons (pe_cmpR (op_cmp (fun _ _ => rfl) T.mt_Span___le__.at_ T.mt_Span___le__.fn hu (Prom.call GLe (hr.mono (by decide)) hg pass0)) (pv 10) (pv 9) (nomark _)) (pa_cons (pe_cmpR (op_cmp (fun _ _ => rfl) T.mt_Span___lt__.at_ T.mt_Span___lt__.fn hu (Prom.call GLt (hr.mono (by decide)) hg pass0)) (pv 10) (pv 9) (nomark _)) (pa_cons (pe_cmpR (op_cmp (fun _ _ => rfl) T.mt_Span___ge__.at_ T.mt_Span___ge__.fn hu (Prom.call GGe (hr.mono (by decide)) hg pass0)) (pv 10) (pv 9) (nomark _)) (pa_cons (pe_cmpR (op_cmp (fun _ _ => rfl) T.mt_Span___gt__.at_ T.mt_Span___gt__.fn hu (Prom.call GGt (hr.mono (by decide)) hg pass0)) (pv 10) (pv 9) (nomark _)) pa_nil))))) pa_nil)) (pe_callB (call_reprK (K := K) rfl hu100 hg) (by rfl) T.f_repr (by decide +kernel) (pa_cons (pe_g (Prom.call GO (hr.mono (by decide)) hg pass0) (by rfl) T.g__law_orders T.k__law_orders (pa_cons (pv 5) (pa_cons (pv 3) pa_nil))) pa_nil)) (nomark _))
      (pss_one (ps_ret pe_bl)) pss_nil)
      (pss_cons (ps_set (i := 6) sc_law.nd rfl (.inl rfl) (pe_lst (pa_cons (pe_cmpR (op_cmp (fun _ _ => rfl) T.mt_Span___le__.at_ T.mt_Span___le__.fn hu (Prom.call GLe (hr.mono (by decide)) hg pass0)) (pe_op (op_binI T.ow_Span.first T.mt_Span___add__.at_ T.mt_Span___add__.fn erc hrc efo ero T.ow_Span.sub (Prom.call GA (hr.mono (by decide)) hg pass0)) (pv 9) pe_int) (pe_op (op_binI T.ow_Span.first T.mt_Span___add__.at_ T.mt_Span___add__.fn erc hrc efo ero T.ow_Span.sub (Prom.call GA (hr.mono (by decide)) hg pass0)) (pv 10) pe_int) (nomark _)) (pa_cons (pe_cmpR (op_cmp (fun _ _ => rfl) T.mt_Span___le__.at_ T.mt_Span___le__.fn hu (Prom.call GLe (hr.mono (by decide)) hg pass0)) (pv 9) (pv 9) (nomark _)) (pa_cons (pe_cmpR (op_cmp (fun _ _ => rfl) T.mt_Span___lt__.at_ T.mt_Span___lt__.fn hu (Prom.call GLt (hr.mono (by decide)) hg pass0)) (pv 9) (pv 9) (nomark _)) (pa_cons (pe_cmpR (op_cmp (fun _ _ => rfl) T.mt_Span___lt__.at_ T.mt_Span___lt__.fn hu (Prom.call GLt (hr.mono (by decide)) hg pass0)) (pv 9) (pe_op (op_binI T.ow_Span.first T.mt_Span___add__.at_ T.mt_Span___add__.fn erc hrc efo ero T.ow_Span.sub (Prom.call GA (hr.mono (by decide)) hg pass0)) (pv 9) pe_int) (nomark _)) pa_nil))))))
      (pss_one (ps_if (pt_cmpR op_ne (pe_callB (call_reprK (K := K) rfl hu100 hg) (by rfl) T.f_repr (by decide +kernel) (pa_cons (pv 6) pa_nil)) (pe_callB (call_reprK (K := K) rfl hu100 hg) (by rfl) T.f_repr (by decide +kernel) (pa_cons (pe_lst (pa_cons (pe_cmpR (op_cmp (fun _ _ => rfl) T.mt_Span___le__.at_ T.mt_Span___le__.fn hu (Prom.call GLe (hr.mono (by decide)) hg pass0)) (pv 9) (pv 10) (nomark _)) (pa_cons pe_bl (pa_cons pe_bl (pa_cons pe_bl pa_nil))))) pa_nil)) (nomark _))
      (pss_one (ps_ret pe_bl)) pss_nil)))))))))))
      (pss_cons (ps_par (i := 7) (j := 8) (by rfl) sc_law.nd rfl rfl (by decide) rfl rfl (pa_cons (pe_g (Prom.make T.mk_Span GS (hr.mono (by decide)) hg pass0) (by rfl) T.g_Span T.k_Span (pa_cons pe_int (pa_cons (pe_un un_neg pe_int) (pa_cons (pe_un un_neg pe_int) pa_nil)))) (pa_cons (pe_g (Prom.make T.mk_Span GS (hr.mono (by decide)) hg pass0) (by rfl) T.g_Span T.k_Span (pa_cons pe_int (pa_cons pe_int (pa_cons pe_int pa_nil)))) pa_nil)) (by rfl))
      (pss_one (ps_ret (pe_cmpR op_eq (pe_callB (call_reprK (K := K) rfl hu100 hg) (by rfl) T.f_repr (by decide +kernel) (pa_cons (pe_lst (pa_cons (pe_cmpR (op_cmp (fun _ _ => rfl) T.mt_Span___le__.at_ T.mt_Span___le__.fn hu (Prom.call GLe (hr.mono (by decide)) hg pass0)) (pv 7) (pv 8) (nomark _)) (pa_cons (pe_cmpR (op_cmp (fun _ _ => rfl) T.mt_Span___le__.at_ T.mt_Span___le__.fn hu (Prom.call GLe (hr.mono (by decide)) hg pass0)) (pv 8) (pv 7) (nomark _)) (pa_cons (pe_cmpR (op_cmp (fun _ _ => rfl) T.mt_Span___lt__.at_ T.mt_Span___lt__.fn hu (Prom.call GLt (hr.mono (by decide)) hg pass0)) (pv 8) (pe_op (op_binI T.ow_Span.first T.mt_Span___add__.at_ T.mt_Span___add__.fn erc hrc efo ero T.ow_Span.sub (Prom.call GA (hr.mono (by decide)) hg pass0)) (pe_g (Prom.make T.mk_Span GS (hr.mono (by decide)) hg pass0) (by rfl) T.g_Span T.k_Span (pa_cons pe_int (pa_cons pe_int (pa_cons pe_int pa_nil)))) pe_int) (nomark _)) pa_nil)))) pa_nil)) (pe_callB (call_reprK (K := K) rfl hu100 hg) (by rfl) T.f_repr (by decide +kernel) (pa_cons (pe_lst (pa_cons pe_bl (pa_cons pe_bl (pa_cons pe_bl pa_nil)))) pa_nil)) (nomark _))))))), ?_⟩
    -- the pen
    refine ⟨_, rfl, ⟨a, ns, rfl, hS, hl, fun p H0 np pn0 s0 => ?_⟩⟩
    -- ten turns
    refine ⟨10, rfl, by decide, by decide, for_range (n := 10) (fun i σ H1 => ∃ y2 y3 y4 y5 y6 y7 y8 y9 y10 y11, σ = [some (.ref a), some (.ref p), y2, y3, y4, y5, y6, y7, y8, y9, y10, y11] ∧ PenAt H1 p (1000 - 20 * i))
      ⟨none, none, none, none, none, none, none, none, none, none, rfl, pn0.le (by decide)⟩ ?_ ?_⟩
    · rintro i σ H1 hi ⟨y2, y3, y4, y5, y6, y7, y8, y9, y10, y11, rfl, pn⟩
      obtain ⟨B, hB⟩ : ∃ B, B = 1000 - 20 * (i + 1) := ⟨_, rfl⟩
      have pn1 : PenAt H1 p (B + 8) := pn.le (by omega)
      -- parts
      refine ⟨_, rfl, ⟨p, B + 7, 5, rfl, by decide, by decide, pn1, fun d1 H2 a1 b1 pn2 k2 => ?_⟩⟩
      refine ⟨_, rfl, ⟨p, B + 6, 13, rfl, by decide, by decide, pn2, fun d2 H3 a2 b2 pn3 k3 => ⟨_, _, rfl, rfl, ?_⟩⟩⟩
      refine ⟨_, rfl, ⟨p, B + 5, 5, rfl, by decide, by decide, pn3, fun d3 H4 a3 b3 pn4 k4 => ⟨_, _, rfl, rfl, by show 3 ≤ sizeLine; decide, fun l nl => ?_⟩⟩⟩
      have nlp : l ≠ p := pn4.ne nl
      have pn5 := pn4.new (o := .lst [.int d1, .int (d2 - 6), .int (d3 - 2)]) nl
      have hl5 : (upd H4 l (.lst [.int d1, .int (d2 - 6), .int (d3 - 2)])) l = some (.lst [.int d1, .int (d2 - 6), .int (d3 - 2)]) := upd_same
      generalize hH5 : upd H4 l (.lst [.int d1, .int (d2 - 6), .int (d3 - 2)]) = H5 at pn5 hl5 ⊢
      -- a change of them
      refine ⟨_, rfl, by show 3 ≤ sizeLine; decide, fun c1 n1 => ?_⟩
      refine ⟨_, rfl, by show 3 ≤ sizeLine; decide, fun c2 n2 => ?_⟩
      refine ⟨_, rfl, by show 3 ≤ sizeLine; decide, fun c3 n3 => ?_⟩
      refine ⟨by show 3 ≤ sizeLine; decide, fun c4 n4 => ?_⟩
      refine ⟨by show 3 ≤ sizeLine; decide, fun c5 n5 => ?_⟩
      refine ⟨_, rfl, by show 3 ≤ sizeLine; decide, fun c6 n6 => ?_⟩
      refine ⟨_, rfl, by show 3 ≤ sizeLine; decide, fun c7 n7 => ?_⟩
      refine ⟨by show 7 ≤ sizeLine; decide, fun cs ns' => ?_⟩
      have q1 := pn5.new (o := .lst [.int 0, .int 0, .int 0]) n1
      have q2 := q1.new (o := .lst [.int 1, .int (-1), .int 0]) n2
      have q3 := q2.new (o := .lst [.int 0, .int 1, .int (-1)]) n3
      have q4 := q3.new (o := .lst [.int 0, .int 0, .int 1]) n4
      have q5 := q4.new (o := .lst [.int 1, .int 0, .int 0]) n5
      have q6 := q5.new (o := .lst [.int 0, .int 2, .int (-1)]) n6
      have q7 := q6.new (o := .lst [.int 2, .int (-2), .int 2]) n7
      refine ⟨p, B + 4, cs, _, rfl, upd_same, Nat.succ_pos _, (by show 7 ≤ 1000; decide), q7.ne ns', q7.new ns', fun j v H6 hj pn6 k6 => ?_⟩
      have hl6 : H6 l = some (.lst [.int d1, .int (d2 - 6), .int (d3 - 2)]) := k6 _ _ (same_new ns' _ _ (same_new n7 _ _ (same_new n6 _ _ (same_new n5 _ _ (same_new n4 _ _ (same_new n3 _ _ (same_new n2 _ _ (same_new n1 _ _ hl5)))))))) nlp
      obtain ⟨c, x, y, z, rfl, hc, bx, bY, bz⟩ : ∃ (c : Addr) (x y z : Int), v = V.ref c ∧ H6 c = some (.lst [.int x, .int y, .int z]) ∧ (0 ≤ x ∧ x ≤ 2) ∧ (-2 ≤ y ∧ y ≤ 2) ∧ (-1 ≤ z ∧ z ≤ 2) := by
        match j, hj with
        | 0, hj => cases hj; exact ⟨c1, 0, 0, 0, rfl, k6 _ _ (same_new ns' _ _ (same_new n7 _ _ (same_new n6 _ _ (same_new n5 _ _ (same_new n4 _ _ (same_new n3 _ _ (same_new n2 _ _ upd_same))))))) (pn5.ne n1), by decide, by decide, by decide⟩
        | 1, hj => cases hj; exact ⟨c2, 1, -1, 0, rfl, k6 _ _ (same_new ns' _ _ (same_new n7 _ _ (same_new n6 _ _ (same_new n5 _ _ (same_new n4 _ _ (same_new n3 _ _ upd_same)))))) (q1.ne n2), by decide, by decide, by decide⟩
        | 2, hj => cases hj; exact ⟨c3, 0, 1, -1, rfl, k6 _ _ (same_new ns' _ _ (same_new n7 _ _ (same_new n6 _ _ (same_new n5 _ _ (same_new n4 _ _ upd_same))))) (q2.ne n3), by decide, by decide, by decide⟩
        | 3, hj => cases hj; exact ⟨c4, 0, 0, 1, rfl, k6 _ _ (same_new ns' _ _ (same_new n7 _ _ (same_new n6 _ _ (same_new n5 _ _ upd_same)))) (q3.ne n4), by decide, by decide, by decide⟩
        | 4, hj => cases hj; exact ⟨c5, 1, 0, 0, rfl, k6 _ _ (same_new ns' _ _ (same_new n7 _ _ (same_new n6 _ _ upd_same))) (q4.ne n5), by decide, by decide, by decide⟩
        | 5, hj => cases hj; exact ⟨c6, 0, 2, -1, rfl, k6 _ _ (same_new ns' _ _ (same_new n7 _ _ upd_same)) (q5.ne n6), by decide, by decide, by decide⟩
        | 6, hj => cases hj; exact ⟨c7, 2, -2, 2, rfl, k6 _ _ (same_new ns' _ _ upd_same) (q6.ne n7), by decide, by decide, by decide⟩
        | j + 7, hj => cases hj
      clear q1 q2 q3 q4 q5 q6 q7 k6 n1 n2 n3 n4 n5 n6 n7 ns' hj
      -- the others
      refine ⟨3, rfl, by decide, by decide, fun D nD => ?_⟩
      refine lc_range (lo := 0) (n := 3) (fun i H7 => L2.Same H6 H7 ∧ H7 D = some (.lst (([.int (d1 + x), .int (d2 - 6 + y), .int (d3 - 2 + z)] : List V).take i))) ⟨same_new nD, upd_same⟩ (fun i H7 hi ⟨s7, e7⟩ => ?_) (fun H7 ⟨s7, e7⟩ => ?_)
      · have put : ∀ o, L2.Same H6 (upd H7 D o) := fun o a u e => by
          rw [upd_ne (ne_of_none e nD)]
          exact s7 _ _ e
        refine ⟨rfl, yes_ite ?_⟩
        match i, hi with
        | 0, _ => exact ⟨_, rfl, _, rfl, l, _, _, .int d1, rfl, rfl, SqL.of (s7 _ _ hl6), rfl, _, rfl, _, rfl, c, _, _, .int x, rfl, rfl, SqL.of (s7 _ _ hc), rfl, _, _, rfl, rfl, _, e7, by show 0 < sizeLine; decide, put _, upd_same⟩
        | 1, _ => exact ⟨_, rfl, _, rfl, l, _, _, .int (d2 - 6), rfl, rfl, SqL.of (s7 _ _ hl6), rfl, _, rfl, _, rfl, c, _, _, .int y, rfl, rfl, SqL.of (s7 _ _ hc), rfl, _, _, rfl, rfl, _, e7, by show 1 < sizeLine; decide, put _, upd_same⟩
        | 2, _ => exact ⟨_, rfl, _, rfl, l, _, _, .int (d3 - 2), rfl, rfl, SqL.of (s7 _ _ hl6), rfl, _, rfl, _, rfl, c, _, _, .int z, rfl, rfl, SqL.of (s7 _ _ hc), rfl, _, _, rfl, rfl, _, e7, by show 2 < sizeLine; decide, put _, upd_same⟩
        | i + 3, hi => omega
      have pn7 : PenAt H7 p (B + 4) := pn6.same s7
      have pn6' := pn6
      have hl7 := s7 _ _ hl6
      clear s7 hl6 hc pn6
      refine ⟨fun σ' H' => ∃ (r : Addr) (h' m' o' : Int), σ' = [some (.ref a), some (.ref p), some (.int (0 + (i : Int))), some (.ref l), some (.ref c), some (.ref r), y6, y7, y8, y9, y10, y11] ∧ H' l = some (.lst [.int d1, .int (d2 - 6), .int (d3 - 2)]) ∧ H' r = some (.lst [.int h', .int m', .int o']) ∧
        (0 ≤ h' ∧ h' ≤ 8) ∧ (-30 ≤ m' ∧ m' ≤ 30) ∧ (-5 ≤ o' ∧ o' ≤ 5) ∧ PenAt H' p B, ?_, ?_⟩
      · refine ⟨_, rfl, ⟨p, B + 3, 3, rfl, by decide, by decide, pn7, fun d4 H8 a4 b4 pn8 k8 => ?_⟩⟩
        have hl8 := k8 _ _ hl7 nlp
        have nDp : D ≠ p := pn6'.ne nD
        refine ⟨rfl, _, rfl, ite2 (fun _ => ?_) (fun _ => ?_)⟩
        · refine ⟨_, rfl, ⟨p, B + 2, 5, rfl, by decide, by decide, pn8, fun d5 H9 a5 b5 pn9 k9 => ?_⟩⟩
          refine ⟨_, rfl, ⟨p, B + 1, 61, rfl, by decide, by decide, pn9, fun d6 H10 a6 b6 pn10 k10 => ⟨_, _, rfl, rfl, ?_⟩⟩⟩
          refine ⟨_, rfl, ⟨p, B, 9, rfl, by decide, by decide, pn10, fun d7 H11 a7 b7 pn11 k11 => ⟨_, _, rfl, rfl, by show 3 ≤ sizeLine; decide, fun r nr => ?_⟩⟩⟩
          exact ⟨r, d5, d6 - 30, d7 - 4, rfl, same_new nr _ _ (k11 _ _ (k10 _ _ (k9 _ _ hl8 nlp) nlp) nlp), upd_same, by omega, by omega, by omega, pn11.new nr⟩
        · exact ⟨D, d1 + x, d2 - 6 + y, d3 - 2 + z, rfl, hl8, k8 _ _ e7 nDp, by omega, by omega, by omega, pn8.le (by omega)⟩
      · rintro σ' H8 ⟨r, h', m', o', rfl, hl8, hr8, bh, bm, bo, pn8⟩
        obtain ⟨h, hh⟩ : ∃ h, h = d1 := ⟨_, rfl⟩
        obtain ⟨m, hm⟩ : ∃ m, m = d2 - 6 := ⟨_, rfl⟩
        obtain ⟨o, ho⟩ : ∃ o, o = d3 - 2 := ⟨_, rfl⟩
        rw [← hh, ← hm, ← ho] at hl8
        have bh1 : 0 ≤ h ∧ h ≤ 8 := by omega
        have bm1 : -6 ≤ m ∧ m ≤ 6 := by omega
        have bo1 : -2 ≤ o ∧ o ≤ 2 := by omega
        clear hh hm ho hl7 e7
        -- the two spans
        refine ⟨_, rfl, l, _, _, .int h, rfl, rfl, SqL.of hl8, rfl, _, rfl, l, _, _, .int m, rfl, rfl, SqL.of hl8, rfl, _, rfl, l, _, _, .int o, rfl, rfl, SqL.of hl8, rfl, mk_span bh1 (by omega) (by omega) (fun u H9 nu s9 su => ?_)⟩
        have hr9 := s9 _ _ hr8
        refine ⟨_, rfl, r, _, _, .int h', rfl, rfl, SqL.of hr9, rfl, _, rfl, r, _, _, .int m', rfl, rfl, SqL.of hr9, rfl, _, rfl, r, _, _, .int o', rfl, rfl, SqL.of hr9, rfl, mk_span bh (by omega) (by omega) (fun v H10 nv s10 sv => ?_)⟩
        have hl10 := s10 _ _ (s9 _ _ hl8)
        have hr10 := s10 _ _ hr9
        have su10 := su.same s10
        have pn10 := (pn8.same s9).same s10
        clear hl8 hr8 hr9 su pn8 s9 s10
        refine ⟨_, _, rfl, ?_⟩
        -- the first look
        refine ⟨_, rfl, _, rfl, cmp_le T.ow_Span su10 sv ⟨_, rfl, _, rfl, cmp_le T.ow_Span su10 sv ⟨_, rfl, _, rfl, cmp_ge T.ow_Span su10 sv ⟨_, rfl, _, rfl, cmp_ge T.ow_Span su10 sv ⟨by show 4 ≤ sizeLine; decide, fun x1 n1 => rp4 upd_same ?_⟩⟩⟩⟩⟩
        have s11 := same_new (o := .lst [.bl (below h m o h' m' o' 0), .bl (below h m o h' m' o' 1), .bl (below h' m' o' h m o 0), .bl (below h' m' o' h m o 1)]) n1
        refine ⟨_, rfl, _, rfl, ⟨l, r, h, m, o, h', m', o', rfl, s11 _ _ hl10, s11 _ _ hr10, by omega, by omega, by omega, by omega, fun x2 H12 b1 b2 b3 b4 s12 n2 e2 tl => rp4 e2 ?_⟩⟩
        obtain ⟨z1, z2, z3, z4⟩ := orders_eq tl (by omega) (by omega)
        refine ⟨rfl, _, rfl, iteNS (by rw [z1, z2, z3, z4]) ?_⟩
        have t12 := s11.trans s12
        have hl12 := t12 _ _ hl10
        have hr12 := t12 _ _ hr10
        have su12 := su10.same t12
        have sv12 := sv.same t12
        have pn12 := pn10.same t12
        clear tl z1 z2 z3 z4 b1 b2 b3 b4 e2 n2 s12 s11 t12 hl10 hr10 su10 sv pn10
        -- the second look
        refine ⟨_, rfl, _, rfl, cmp_le T.ow_Span sv12 su12 ⟨_, rfl, _, rfl, cmp_le T.ow_Span sv12 su12 ⟨_, rfl, _, rfl, cmp_ge T.ow_Span sv12 su12 ⟨_, rfl, _, rfl, cmp_ge T.ow_Span sv12 su12 ⟨by show 4 ≤ sizeLine; decide, fun x3 n3 => rp4 upd_same ?_⟩⟩⟩⟩⟩
        have s13 := same_new (o := .lst [.bl (below h' m' o' h m o 0), .bl (below h' m' o' h m o 1), .bl (below h m o h' m' o' 0), .bl (below h m o h' m' o' 1)]) n3
        refine ⟨_, rfl, _, rfl, ⟨r, l, h', m', o', h, m, o, rfl, s13 _ _ hr12, s13 _ _ hl12, by omega, by omega, by omega, by omega, fun x4 H14 b1 b2 b3 b4 s14 n4 e4 tl => rp4 e4 ?_⟩⟩
        obtain ⟨z1, z2, z3, z4⟩ := orders_eq tl (by omega) (by omega)
        refine ⟨rfl, _, rfl, iteNS (by rw [z1, z2, z3, z4]) ?_⟩
        have t14 := s13.trans s14
        have su14 := su12.same t14
        have sv14 := sv12.same t14
        have pn14 := pn12.same t14
        clear tl z1 z2 z3 z4 b1 b2 b3 b4 e4 n4 s13 s14 t14 su12 sv12 pn12 hl12 hr12
        -- what is shown
        refine ⟨_, rfl, bin_add su14 bh1 (by omega) (by omega) (fun u5 H15 _ s15 su5 => ?_)⟩
        refine ⟨_, rfl, bin_add (sv14.same s15) bh (by omega) (by omega) (fun v5 H16 _ s16 sv5 => ?_)⟩
        refine cmp_le T.ow_Span (su5.same s16) sv5 ?_
        have su16 := (su14.same s15).same s16
        refine ⟨_, rfl, _, rfl, cmp_le T.ow_Span su16 su16 ⟨_, rfl, _, rfl, cmp_le T.ow_Span su16 su16 ⟨_, rfl, _, rfl, bin_add su16 bh1 (by omega) (by omega) (fun u1 H17 _ s17 su1 => ?_)⟩⟩⟩
        refine cmp_le T.ow_Span (su16.same s17) su1 ⟨by show 4 ≤ sizeLine; decide, fun x5 n5 => ?_⟩
        refine ⟨_, rfl, rp4 upd_same ?_⟩
        have t18 := (s15.trans (s16.trans s17)).trans (same_new (o := .lst [.bl (below h (m + 5) o h' (m' + 5) o' 0), .bl (below h m o h m o 0), .bl (below h m o h m o 1), .bl (below h m o h (m + 1) o 1)]) n5)
        refine ⟨_, rfl, _, rfl, cmp_le T.ow_Span (su14.same t18) (sv14.same t18) ⟨by show 4 ≤ sizeLine; decide, fun x6 n6 => rp4 upd_same ?_⟩⟩
        obtain ⟨z1, z2, z3⟩ := below_self h m o
        refine ⟨rfl, _, rfl, iteNS (by rw [z1, z2, z3, below_5]) ?_⟩
        exact ⟨_, _, _, _, _, _, _, _, _, _, rfl, hB ▸ (pn14.same t18).new n6⟩
    · rintro σ H1 ⟨y2, y3, y4, y5, y6, y7, y8, y9, y10, y11, rfl, pn⟩
      refine ⟨_, rfl, _, rfl, mk_span (by decide) (by decide) (by decide) (fun u H2 nu s2 su => ?_)⟩
      refine mk_span (by decide) (by decide) (by decide) (fun v H3 nv s3 sv => ?_)
      refine ⟨_, _, rfl, ?_⟩
      have su3 := su.same s3
      refine ⟨_, rfl, _, rfl, cmp_le T.ow_Span su3 sv ⟨_, rfl, _, rfl, cmp_le T.ow_Span sv su3 ⟨_, rfl, mk_span (by decide) (by decide) (by decide) (fun t H4 nt s4 st => bin_add st (by decide) (by decide) (by decide) (fun t2 H5 nt2 s5 st2 => ?_))⟩⟩⟩
      refine cmp_le T.ow_Span ((sv.same s4).same s5) st2 ⟨by show 3 ≤ sizeLine; decide, fun x1 n1 => rp3 upd_same ?_⟩
      refine ⟨by show 3 ≤ sizeLine; decide, fun x2 n2 => rp3 upd_same ?_⟩
      refine ⟨rfl, ?_⟩
      have e : below 1 (-60) (-9) 0 60 9 0 = false ∧ below 0 60 9 1 (-60) (-9) 0 = false ∧ below 0 60 9 0 (60 + 0) 9 1 = false := by decide
      rw [e.1, e.2.1, e.2.2]
      exact q _
end
end Lw

set_option Elab.async false
set_option linter.all false
set_option maxRecDepth 100000
set_option maxHeartbeats 8000000
namespace Lw
open PySem PySem.Spec PyProof.Rows L2 Gh
theorem pm0 {P : Program} {w : World} {K : PySem.W.Frag} {mg : Str → Option Value} {base : Heap} {CX : CXT} {k : Nat} {f : Addr} {fd : FuncData} {ps : List Str} {sp : Sp} (G : FnG P w K mg base CX k f fd ps sp) (b : Binds K fd ps []) : Prom P w K mg base CX k f [] sp := ⟨fd, ps, [], G, b, .nil⟩
theorem facts {P : Program} {w : World} {K : PySem.W.Frag} {h : Heap} {mg : Str → Option Value} {f : Addr} (X : K.In h) (G : h.Ns mainGlobals mg) (hfa : mg ("law" : Str) = some (.ref f)) (c : Says exs fns K) (gl : (He.Fa.glo "law").ok K = true) :
    ∃ fd : FuncData, (∀ (s : Shared) (v : Value), BindsTo s fd ⟨[v], []⟩ [("_law_script", v)]) ∧ ∀ base : Heap, K.In base → base.Ns mainGlobals mg → FnG P w K mg base CX0 10 f fd ["_law_script"] (spLaw K) := by
  have T : Tx K mg := tx_of X G c
  have e := hfa.symm.trans (He.glo_ok X G gl)
  cases e
  obtain ⟨f0, F0⟩ := c.def_ 0 (d := d_is_integer) rfl
  obtain ⟨f1, F1⟩ := c.def_ 1 (d := d_is_within) rfl
  obtain ⟨f2, F2⟩ := c.def_ 2 (d := d_Span___init__) rfl
  obtain ⟨f3, F3⟩ := c.def_ 3 (d := d_Span_halves) rfl
  obtain ⟨f4, F4⟩ := c.def_ 4 (d := d_Span_more) rfl
  obtain ⟨f5, F5⟩ := c.def_ 5 (d := d_Span_odd) rfl
  obtain ⟨f6, F6⟩ := c.def_ 6 (d := d_Span_plus) rfl
  obtain ⟨f7, F7⟩ := c.def_ 7 (d := d_Span___add__) rfl
  obtain ⟨f8, F8⟩ := c.def_ 8 (d := d_Span_is_below) rfl
  obtain ⟨f9, F9⟩ := c.def_ 9 (d := d_Span___le__) rfl
  obtain ⟨f10, F10⟩ := c.def_ 10 (d := d_Span___lt__) rfl
  obtain ⟨f11, F11⟩ := c.def_ 11 (d := d_Span___ge__) rfl
  obtain ⟨f12, F12⟩ := c.def_ 12 (d := d_Span___gt__) rfl
  obtain ⟨f13, F13⟩ := c.def_ 13 (d := d__law_pen) rfl
  obtain ⟨f14, F14⟩ := c.def_ 14 (d := d__law_draw) rfl
  obtain ⟨f15, F15⟩ := c.def_ 15 (d := d__law_pick) rfl
  obtain ⟨f16, F16⟩ := c.def_ 16 (d := d__law_number) rfl
  obtain ⟨f17, F17⟩ := c.def_ 17 (d := d__law_orders) rfl
  obtain ⟨f18, F18⟩ := c.def_ 18 (d := d_law) rfl
  have b18 := FunD.bindsA (ps := ["_law_script"]) F18 fun _ _ _ _ _ _ us hl => match us, hl with | [_], _ => rfl
  refine ⟨f18, fun s v => b18 s [v] rfl, fun base _ _ => ?_⟩
  have p0 : Pm P w K mg base 1 (gd "is_integer" K) [] spInteger := pm0 (ok_integer F0 T) (F0.bindsN fun _ _ _ _ _ _ us hl => match us, hl with | [_], _ => rfl)
  have p1 : Pm P w K mg base 2 (gd "is_within" K) [] spWithin := pm0 (ok_within F1 T p0) (F1.bindsN fun _ _ _ _ _ _ us hl => match us, hl with | [_, _, _], _ => rfl)
  have p2 : Pm P w K mg base 3 (md "Span" "__init__" K) [] (spInit (gd "Span" K)) := by
    obtain ⟨ds, hv, hb⟩ := FunD.binds1 (ps := ["self", "halves", "more", "odd"]) F2 4 2 (by intro z; cases z) rfl fun _ _ _ _ _ _ _ us its hu hi => match us, hu, its, hi with | [_, _, _, _], _, [_, _], _ => ⟨_, rfl, rfl⟩
    cases hv
    exact pm0 (ok_init F2 T p1) hb
  have p3 : Pm P w K mg base 1 (propG "Span" "halves" K) [] (spProp (gd "Span" K) fun h _ _ => h) := pm0 (ok_halves F3 T) (F3.bindsN fun _ _ _ _ _ _ us hl => match us, hl with | [_], _ => rfl)
  have p4 : Pm P w K mg base 1 (propG "Span" "more" K) [] (spProp (gd "Span" K) fun _ m _ => m) := pm0 (ok_more F4 T) (F4.bindsN fun _ _ _ _ _ _ us hl => match us, hl with | [_], _ => rfl)
  have p5 : Pm P w K mg base 1 (propG "Span" "odd" K) [] (spProp (gd "Span" K) fun _ _ o => o) := pm0 (ok_odd F5 T) (F5.bindsN fun _ _ _ _ _ _ us hl => match us, hl with | [_], _ => rfl)
  have p6 : Pm P w K mg base 5 (md "Span" "plus" K) [] (spPlus (gd "Span" K)) := pm0 (ok_plus F6 T p2 p3 p4 p5) (F6.bindsN fun _ _ _ _ _ _ us hl => match us, hl with | [_, _, _], _ => rfl)
  have p7 : Pm P w K mg base 6 (md "Span" "__add__" K) [] (spAdd (gd "Span" K)) := pm0 (ok_add F7 T p6) (F7.bindsN fun _ _ _ _ _ _ us hl => match us, hl with | [_, _], _ => rfl)
  have p8 : Pm P w K mg base 3 (md "Span" "is_below" K) [] (spBelow (gd "Span" K)) := pm0 (ok_below F8 T p3 p4 p5) (F8.bindsN fun _ _ _ _ _ _ us hl => match us, hl with | [_, _, _], _ => rfl)
  have p9 : Pm P w K mg base 4 (md "Span" "__le__" K) [] (spLe (gd "Span" K) 0) := pm0 (ok_le F9 T p8) (F9.bindsN fun _ _ _ _ _ _ us hl => match us, hl with | [_, _], _ => rfl)
  have p10 : Pm P w K mg base 4 (md "Span" "__lt__" K) [] (spLe (gd "Span" K) 1) := pm0 (ok_lt F10 T p8) (F10.bindsN fun _ _ _ _ _ _ us hl => match us, hl with | [_, _], _ => rfl)
  have p11 : Pm P w K mg base 4 (md "Span" "__ge__" K) [] (spGe (gd "Span" K) 0) := pm0 (ok_ge F11 T p8) (F11.bindsN fun _ _ _ _ _ _ us hl => match us, hl with | [_, _], _ => rfl)
  have p12 : Pm P w K mg base 4 (md "Span" "__gt__" K) [] (spGe (gd "Span" K) 1) := pm0 (ok_gt F12 T p8) (F12.bindsN fun _ _ _ _ _ _ us hl => match us, hl with | [_, _], _ => rfl)
  have p13 : Pm P w K mg base 1 (gd "_law_pen" K) [] (spPen K) := pm0 (ok_pen F13 T) (F13.bindsN fun _ _ _ _ _ _ us hl => match us, hl with | [_], _ => rfl)
  have p14 : Pm P w K mg base 1 (gd "_law_draw" K) [] spDraw := pm0 (ok_draw F14 T) (F14.bindsN fun _ _ _ _ _ _ us hl => match us, hl with | [_, _], _ => rfl)
  have p15 : Pm P w K mg base 2 (gd "_law_pick" K) [] spPick := pm0 (ok_pick F15 T p14) (F15.bindsN fun _ _ _ _ _ _ us hl => match us, hl with | [_, _], _ => rfl)
  have p16 : Pm P w K mg base 1 (gd "_law_number" K) [] (spNumber K) := pm0 (ok_number F16 T) (F16.bindsN fun _ _ _ _ _ _ us hl => match us, hl with | [_, _], _ => rfl)
  have p17 : Pm P w K mg base 2 (gd "_law_orders" K) [] (spOrders K) := pm0 (ok_orders F17 T p16) (F17.bindsN fun _ _ _ _ _ _ us hl => match us, hl with | [_, _], _ => rfl)
  exact ok_law F18 T p13 p14 p15 p17 p2 p7 p9 p10 p11 p12
end Lw
open PySem PySem.W PySem.Calls PyProof.Rows
set_option maxRecDepth 100000 in
set_option maxHeartbeats 0 in
theorem PySem.Challenge.cw_everyhunt_k04_spans_in_order_holds : PySem.Challenge.rw_everyhunt_k04_spans_in_order.Holds := by
  w_on; o_law
  refine HandSHeadRun.head_any (r := OpenLaw.row PySem.Challenge.rw_everyhunt_k04_spans_in_order) (q := view (OpenLaw.row PySem.Challenge.rw_everyhunt_k04_spans_in_order).prog [25]) (H := Lw.hk) (ob := Lw.ob) (M := 8000) (loose := Lw.loose) (d := HandSHeadRun.topDef (OpenLaw.row PySem.Challenge.rw_everyhunt_k04_spans_in_order).prog 25) (kwd := []) Lw.ob_eq
    (by kernel_rfl) (fun s => by kernel_rfl) Lw.run (by kernel_rfl) (by kernel_rfl) (by kernel_rfl) (by rfl) (by first | assumption | decide +kernel) (by decide +kernel) ⟨rfl, rfl, rfl, rfl, rfl, by decide +kernel⟩ ?hw ?hc
  case hw => w_witness2
  case hc =>
    refine Gh.walk_ofG (l := PySem.Challenge.rw_everyhunt_k04_spans_in_order) (n := 63) (k := 10) (x := "_law_script") (CX := fun _ => L2.CX0) rfl (by decide) (by kernel_rfl) ⟨rfl, by decide, by decide⟩ ?F (fun _ _ _ _ _ z => z)
    intro w mg fa h Y G hmg0
    obtain ⟨K, KX, c⟩ := Y
    have hmg : mg ("law" : PySem.Str) = some (.ref fa) := by
      have e : (HandSHeadRun.topDef (OpenLaw.row PySem.Challenge.rw_everyhunt_k04_spans_in_order).prog 25).name = ("law" : PySem.Str) := by kernel_rfl
      rw [← e]
      exact hmg0
    obtain ⟨fd, hb, hF⟩ := Lw.facts (P := (PySem.Challenge.rw_everyhunt_k04_spans_in_order).prog) (w := w) KX G hmg c (c.fact 45 rfl)
    exact ⟨K, fd, Lw.spLaw K, KX, hb, fun H a ns hl _ hS => ⟨a, ns, rfl, hS, hl, fun _ => rfl⟩, hF⟩
#print axioms PySem.Challenge.cw_everyhunt_k04_spans_in_order_holds

