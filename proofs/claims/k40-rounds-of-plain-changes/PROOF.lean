import PyProof.Rows.All
import Wide.All
import OpenK.AllK
import Wide.FinOn
import KE.KStateDown
import KE.KOpsOwn
import HandS.ForMost
import HandS.More
import HandS.Exc
import HandS.WordsExc
import HandS.Defaults
import HandS.Property
import HandS.IsInst
import HandS.Wide
import HandS.Head0
import HandS.Head1
import HandS.Head2
import HandS.HeadEnd
import HandS.HeadHook1
import HandS.HeadHook2
import PyProof.ReprRoads
import HandS.ExcInit
import HandS.ExcField
import HandS.ExcIs
import KE.KExcIs
import HandS.EndTab
import HandS.HeadHook4
import HandS.Star
import HandS.ClsMeth
import HandS.Lambda
import HandS.RaiseMore
import HandS.Iter
import KE.GoesMore
import PyProof.EnumMake
import HandS.MakeKw
import KE.KCallOwn
import PyProof.InstNe
import HandS.GenList
import PyProof.GenComp
import HandS.TupAny
import HandS.SortInts
import HandS.OwnEq
import HandS.Style
import HandS.Conv
import KE.KSuper
import HandS.NestedK
import PySem.Challenge.RW_everyhunt_k40_whole_rounds_of_plain_chan
set_option Elab.async false
set_option linter.all false
set_option maxRecDepth 100000
/-! Gh: a head's Hook by addresses: each def by where the written part has it, and one Bool more. -/
namespace Gh
open PySem PySem.Spec PyProof.Rows L2
/-- a def: where it stands (by the written part), its names, parameters, body, scope, defaults -/
structure Df where
  adr : PySem.W.Frag → Addr
  name : Str
  qual : Str
  st : Stmt
  dfl : List He.Dv := []
def Df.val (d : Df) : He.FnW := some (d.name, d.qual, defArgs d.st, .stmts (defBody d.st), defScope d.st, mainGlobals, [], builtinsNs)
def Df.dvs (K : PySem.W.Frag) (d : Df) : List V := d.dfl.map (He.Dv.v K)
def fnAt (K : PySem.W.Frag) (a : Addr) : He.FnW := match K.lookup a with
  | some ⟨_, _, .func fd, _⟩ => some (fd.name, fd.qualname, fd.params, fd.body, fd.scope, fd.globals, fd.closure, fd.builtins)
  | _ => none
def Df.ok (K : PySem.W.Frag) (d : Df) : Bool := PySem.W.keepIn K (.ref (d.adr K)) && (match K.lookup (d.adr K) with
  | some ⟨_, _, .func fd, _⟩ => PySem.W.codeIn K fd.code d.qual && (He.dflB K fd.defaults (d.dvs K) && He.kwdB K fd.kwdefaults [])
  | _ => false)
/-- what a def's fact is worth -/
abbrev FnA (K : PySem.W.Frag) (d : Df) (fd : FuncData) : Prop := FunD K d.name d.qual (defArgs d.st) (defBody d.st) (defScope d.st) (d.dvs K) [] (d.adr K) fd
theorem Df.funD {K : PySem.W.Frag} {d : Df} (e : fnAt K (d.adr K) = d.val) (c : d.ok K = true) : ∃ fd, FnA K d fd := by
  obtain ⟨kp, c2⟩ := He.ba c
  unfold fnAt at e
  cases q : K.lookup (d.adr K) with
  | none =>
    rw [q] at c2
    cases c2
  | some o =>
    obtain ⟨oc, od, dt, osl⟩ := o
    rw [q] at c2 e
    cases dt with
    | func fd =>
      obtain ⟨n1, n2, n3, n4, n5, n6, n7, n8, n9, n10, n11, n12, n13, n14, n15⟩ := fd
      have e2 : (some (n1, n2, n3, n4, n5, n6, n7, n15) : He.FnW) = some (d.name, d.qual, defArgs d.st, .stmts (defBody d.st), defScope d.st, mainGlobals, [], builtinsNs) := e
      simp only [Option.some.injEq, Prod.mk.injEq] at e2
      obtain ⟨h1, h2, h3, h4, h5, h6, h7, h8⟩ := e2
      subst h1 h2 h3 h4 h5 h6 h7 h8
      have c3 : (PySem.W.codeIn K n13 d.qual && (He.dflB K n8 (d.dvs K) && He.kwdB K n9 [])) = true := c2
      obtain ⟨k1, k2⟩ := He.ba c3
      obtain ⟨k3, k4⟩ := He.ba k2
      exact ⟨_, ⟨oc, od, n8, n9, n10, n11, n12, n13, n14, osl, rfl, q, k1, He.dflB_ok k3, He.kwdB_ok k4⟩, kp⟩
    | _ => cases c2
abbrev Al : Type := Bool × List He.FnW
def obs (ex : List (PySem.W.Frag → Bool)) (fn : List Df) (K : PySem.W.Frag) : Al := ((ex.all fun f => f K) && fn.all fun d => d.ok K, fn.map fun d => fnAt K (d.adr K))
def val (fn : List Df) : Al := (true, fn.map Df.val)
def Says (ex : List (PySem.W.Frag → Bool)) (fn : List Df) (K : PySem.W.Frag) : Prop := obs ex fn K = val fn
def obsG (n : Nat) (ex : List (PySem.W.Frag → Bool)) (fn : List Df) (g : Addr → Option Obj) : Al := obs ex fn (He.frG g (He.asD g n))
def hook (n : Nat) (ex : List (PySem.W.Frag → Bool)) (fn : List Df) : PySem.W.Hook where
  α := Al
  obs := fun s => obsG n ex fn s.heap.get?
  val := fun _ => val fn
  says := fun _ h => ∃ K : PySem.W.Frag, K.In h ∧ Says ex fn K
  of := fun _ _ e => ⟨_, He.frG_in, e⟩
  keeps := fun _ _ _ ⟨K, hK, c⟩ k => ⟨K, PySem.W.Frag.In.keeps hK k, c⟩
theorem obsG_eq {n : Nat} {ex : List (PySem.W.Frag → Bool)} {fn : List Df} {g : Addr → Option Obj} {s : Shared} (h : ∀ a, g a = s.heap.get? a) : obsG n ex fn g = (hook n ex fn).obs s := by
  have e : g = s.heap.get? := funext h
  rw [e] <;> rfl
theorem Says.fact {ex : List (PySem.W.Frag → Bool)} {fn : List Df} {K : PySem.W.Frag} (c : Says ex fn K) (i : Nat) {f : PySem.W.Frag → Bool} (h : ex[i]? = some f := by rfl) : f K = true := by
  have c1 := (He.ba (show ((ex.all fun f => f K) && fn.all fun d => d.ok K) = true from congrArg (fun z : Al => z.1) c)).1
  exact List.all_eq_true.mp c1 f (List.mem_of_getElem? h)
theorem Says.def_ {ex : List (PySem.W.Frag → Bool)} {fn : List Df} {K : PySem.W.Frag} (c : Says ex fn K) (i : Nat) {d : Df} (h : fn[i]? = some d := by rfl) : ∃ fd, FnA K d fd := by
  have c2 := (He.ba (show ((ex.all fun f => f K) && fn.all fun d => d.ok K) = true from congrArg (fun z : Al => z.1) c)).2
  have e : fn.map (fun d => fnAt K (d.adr K)) = fn.map Df.val := congrArg (fun z : Al => z.2) c
  have e2 : (fn.map fun d => fnAt K (d.adr K))[i]? = (fn.map Df.val)[i]? := by rw [e]
  rw [List.getElem?_map, List.getElem?_map, h] at e2
  exact Df.funD (Option.some.inj e2) (List.all_eq_true.mp c2 d (List.mem_of_getElem? h))
/-! addresses -/
/-- a property's getter -/
def propG (x m : Str) (K : PySem.W.Frag) : Addr := match PySem.W.recIn K (He.ma K (He.ga K x) m) "property" with
  | some (.ref g :: _) => g
  | _ => 0
def propB (x m : Str) (K : PySem.W.Frag) : Bool := He.eqO (PySem.W.findIn K (.ref (He.ga K x)) m) (some (some (.ref (He.ma K (He.ga K x) m)))) &&
  (He.eqO (PySem.W.specialIn K (.ref (He.ma K (He.ga K x) m)) "__get__") (some (some (.builtin "property.__get__"))) &&
  (decide (PySem.W.takesIn K (.ref (He.ma K (He.ga K x) m)) = some true) && (match PySem.W.recIn K (He.ma K (He.ga K x) m) "property" with
    | some (.ref _ :: _) => true
    | _ => false)))
theorem propB_ok {x m : Str} {K : PySem.W.Frag} (h : propB x m K = true) : PropOf K (He.ga K x) m (He.ma K (He.ga K x) m) (propG x m K) := by
  obtain ⟨h1, h2⟩ := He.ba h
  obtain ⟨h3, h4⟩ := He.ba h2
  obtain ⟨h5, h6⟩ := He.ba h4
  refine ⟨He.eqO_ok h1, He.eqO_ok h3, of_decide_eq_true h5, ?_⟩
  unfold propG
  cases q : PySem.W.recIn K (He.ma K (He.ga K x) m) "property" with
  | none =>
    rw [q] at h6
    cases h6
  | some l =>
    rw [q] at h6
    cases l with
    | nil => cases h6
    | cons v r =>
      cases v with
      | ref g => exact ⟨r, rfl⟩
      | _ => cases h6
/-- a top's def, a class's method, a property's getter -/
def gd (x : Str) : PySem.W.Frag → Addr := fun K => He.ga K x
def md (x m : Str) : PySem.W.Frag → Addr := fun K => He.ma K (He.ga K x) m
def fa (f : He.Fa) : PySem.W.Frag → Bool := fun K => f.ok K
/-- isinstance of an own class's instance and of built-in values against it -/
structure InsT (K : PySem.W.Frag) (C : Addr) : Prop where
  ha : PySem.W.findIn K (.ref C) "__class__" = some (some (.builtin "object.__class__"))
  hn : PySem.W.specialIn K (.builtin "object.__class__") "__get__" = some (some (.builtin "getset_descriptor.__get__"))
  htk : PySem.W.takesIn K (.builtin "object.__class__") = some true
  hm : PySem.W.mroIn K C (.type "object") = some true
  yes : PySem.W.kitOne K (.ref C) (.ref C) = some true
  no : ∀ n ∈ (["NoneType", "bool", "int", "str", "list", "tuple", "dict"] : List String), PySem.W.kitOne K (.type n) (.ref C) = some false
  out : ∀ n ∈ (["NoneType", "bool", "int", "str", "list", "tuple", "dict"] : List String), PySem.W.kitOne K (.ref C) (.type n) = some false
def insB (x : Str) (K : PySem.W.Frag) : Bool := He.eqO (PySem.W.findIn K (.ref (gd x K)) "__class__") (some (some (.builtin "object.__class__"))) &&
  (He.eqO (PySem.W.specialIn K (.builtin "object.__class__") "__get__") (some (some (.builtin "getset_descriptor.__get__"))) &&
  (decide (PySem.W.takesIn K (.builtin "object.__class__") = some true) && (decide (PySem.W.mroIn K (gd x K) (.type "object") = some true) &&
  (decide (PySem.W.kitOne K (.ref (gd x K)) (.ref (gd x K)) = some true) && (((["NoneType", "bool", "int", "str", "list", "tuple", "dict"] : List String).all fun n => decide (PySem.W.kitOne K (.type n) (.ref (gd x K)) = some false)) &&
  ((["NoneType", "bool", "int", "str", "list", "tuple", "dict"] : List String).all fun n => decide (PySem.W.kitOne K (.ref (gd x K)) (.type n) = some false)))))))
theorem insB_ok {x : Str} {K : PySem.W.Frag} (h : insB x K = true) : InsT K (gd x K) := by
  obtain ⟨h1, h⟩ := He.ba h
  obtain ⟨h2, h⟩ := He.ba h
  obtain ⟨h3, h⟩ := He.ba h
  obtain ⟨h4, h⟩ := He.ba h
  obtain ⟨h5, h⟩ := He.ba h
  obtain ⟨h6, h7⟩ := He.ba h
  exact ⟨He.eqO_ok h1, He.eqO_ok h2, of_decide_eq_true h3, of_decide_eq_true h4, of_decide_eq_true h5, fun n hn => of_decide_eq_true (List.all_eq_true.mp h6 n hn), fun n hn => of_decide_eq_true (List.all_eq_true.mp h7 n hn)⟩
/-- the class comes first of its line -/
structure OwnT (K : PySem.W.Frag) (C : Addr) : Prop where
  first : PySem.W.selfFirst K C = true
  nf : PySem.W.notFirst K C (.ref C) = true
  sub : PySem.W.subIn K (.type "int") (.ref C) = some false
def ownB (x : Str) (K : PySem.W.Frag) : Bool := PySem.W.selfFirst K (gd x K) && (PySem.W.notFirst K (gd x K) (.ref (gd x K)) && decide (PySem.W.subIn K (.type "int") (.ref (gd x K)) = some false))
theorem ownB_ok {x : Str} {K : PySem.W.Frag} (h : ownB x K = true) : OwnT K (gd x K) := by
  obtain ⟨h1, h⟩ := He.ba h
  obtain ⟨h2, h3⟩ := He.ba h
  exact ⟨h1, h2, of_decide_eq_true h3⟩
/-- an operator between the class and an int -/
structure OpT (K : PySem.W.Frag) (C : Addr) (op : Operator) : Prop where
  rc : ∃ rc, PySem.W.findIn K (.ref C) (dunderR op.info.2) = some rc ∧ (rc = none ∨ ∃ g : Addr, rc = some (.ref g))
  fo : ∃ fo, PySem.W.findIn K (.type "int") (PySem.dunder op.info.2) = some fo
  ro : ∃ ro, PySem.W.findIn K (.type "int") (dunderR op.info.2) = some ro
def opB (x : Str) (op : Operator) (K : PySem.W.Frag) : Bool := (match PySem.W.findIn K (.ref (gd x K)) (dunderR op.info.2) with
    | some none => true
    | some (some (.ref _)) => true
    | _ => false) && ((PySem.W.findIn K (.type "int") (PySem.dunder op.info.2)).isSome && (PySem.W.findIn K (.type "int") (dunderR op.info.2)).isSome)
theorem opB_ok {x : Str} {op : Operator} {K : PySem.W.Frag} (h : opB x op K = true) : OpT K (gd x K) op := by
  obtain ⟨h1, h⟩ := He.ba h
  obtain ⟨h2, h3⟩ := He.ba h
  refine ⟨?_, Option.isSome_iff_exists.mp h2, Option.isSome_iff_exists.mp h3⟩
  cases q : PySem.W.findIn K (.ref (gd x K)) (dunderR op.info.2) with
  | none =>
    rw [q] at h1
    cases h1
  | some o =>
    cases o with
    | none => exact ⟨none, rfl, .inl rfl⟩
    | some v =>
      cases v with
      | ref g => exact ⟨_, rfl, .inr ⟨g, rfl⟩⟩
      | _ =>
        rw [q] at h1
        cases h1
/-- a module's int -/
theorem pe_gi {X : Cx} {x : Str} {i : Int} {pos : Pos} (h : ∃ t, X.mg x = some (.int i t)) (hg : Gl X x) (hd : (x == ("__debug__" : Str)) = false := by decide) : PE X (.Name x pos) (tC (.int i)) := by
  obtain ⟨t, e⟩ := h
  exact pe_glob hg e ⟨t, rfl⟩ hd
end Gh

set_option Elab.async false
set_option linter.all false
set_option maxRecDepth 100000
set_option maxHeartbeats 4000000
/-! Rl: promises of defs that also know that nothing is being shown around them (so that repr can be told); the rules that call them. -/
namespace Gh
open PySem PySem.Spec PyProof.Rows L2
/-- the def at f keeps the promise sp where nothing is being shown around it -/
structure FnG (P : Program) (w : World) (K : PySem.W.Frag) (mg : Str → Option Value) (base : Heap) (CX : CXT) (k : Nat) (f : Addr) (fd : FuncData) (ps : List Str) (sp : Sp) : Prop where
  len : ∀ vs H Q E, sp vs H Q E → vs.length = ps.length
  run : ∀ (A : Around) (outer : List Env) (s : Shared) (H : Hp) (args : Args) (us : List Value) (vs : List V) (Q : VK) (E : XK), Room k A → A.guards = some [] → Env0 P w K mg base A outer s H → BindsTo s fd args (ps.zip us) → Vals vs us → sp vs H Q E →
    codeAny (model P w) A (.call (.ref f) args) (CR CX outer P w H s Q E) s
/-- a def, called with some arguments, the defaults dvs behind them -/
def Prom (P : Program) (w : World) (K : PySem.W.Frag) (mg : Str → Option Value) (base : Heap) (CX : CXT) (k : Nat) (f : Addr) (dvs : List V) (sp : Sp) : Prop :=
  ∃ (fd : FuncData) (ps : List Str) (ds : List Value), FnG P w K mg base CX k f fd ps sp ∧ Binds K fd ps ds ∧ Vals dvs ds
section
variable {P : Program} {w : World} {K : PySem.W.Frag} {mg : Str → Option Value} {base : Heap} {CX : CXT} {j k : Nat} {f : Addr} {fd : FuncData} {ps : List Str} {sp : Sp} {dvs : List V}
theorem FnG.mono (F : FnG P w K mg base CX j f fd ps sp) (h : j ≤ k) : FnG P w K mg base CX k f fd ps sp := ⟨F.len, fun A o s H a us vs Q E hr => F.run A o s H a us vs Q E (hr.mono h)⟩
theorem Prom.mono (F : Prom P w K mg base CX j f dvs sp) (h : j ≤ k) : Prom P w K mg base CX k f dvs sp := by
  obtain ⟨fd, ps, ds, G, b, v⟩ := F
  exact ⟨fd, ps, ds, G.mono h, b, v⟩
/-- a def's body -/
theorem fnG_of {x qual : Str} {params : Arguments} {body : List Stmt} {scope : Scope} {kws : List (Str × V)} {N : List Str} (F : FunD K x qual params body scope dvs kws f fd) (S : FnScope N ps scope) (len : ∀ vs H Q E, sp vs H Q E → vs.length = ps.length)
    (hbody : ∀ (cdv : Value) (A : Around) (outer : List Env) (s : Shared) (H : Hp) (vs : List V) (Q : VK) (E : XK), Room k (A.deeper (envOfC qual scope s.heap.objs.size f cdv)) → (A.deeper (envOfC qual scope s.heap.objs.size f cdv)).guards = some [] → sp vs H Q E →
      ∃ t, PSs (cxOf CX P w K mg base N qual scope f cdv A outer s H E) body t ∧ t { nx := fun _ H' => Q .non H', rt := Q } (start N vs) H) : FnG P w K mg base CX (k + 1) f fd ps sp := by
  obtain ⟨oc, od, dV, kV, doc, pm, an, cdv, ct, osl, rfl, lk, hcd, _, _⟩ := F.ex
  refine ⟨len, fun A outer s H args us vs Q E hr hg e0 hb r hsp => ?_⟩
  have hl := len _ _ _ _ hsp
  have KX : K.In s.heap := e0.mod.kin.keeps fun b o e => (e0.bs b o e).1
  have lim : s.heap.NoLimit := e0.mod.nolimit.keeps fun b o e => (e0.bs b o e).1
  have hkind : ∀ y ∈ ps.zip us, scope.names.lookup y.1 = some .local ∨ (scope.names.lookup y.1 = some .cell ∧ ((cellsFrom (s.heap.objs.size + 1) scope.names []).lookup y.1).isSome = true) := fun ⟨n, v⟩ hy => by
    rcases S.par n (List.of_mem_zip hy).1 with q | q
    · exact .inl q
    · exact .inr ⟨q, PySem.W.cellsFrom_some _ _ _ (.inl q)⟩
  refine codeAny_call_function hr.depth (KX _ _ lk) rfl S.co S.gen rfl (PySem.W.codeRec_of KX hcd) (hb _ _ _ _ ?_)
  refine wpAny_newFunctionEnv_cells S.kind hkind fun env he s1 x => ?_
  subst he
  refine ⟨lim.keeps x.toInCall.keep, codeAny_func ?_⟩
  obtain ⟨t, ht, hq⟩ := hbody cdv A outer s H vs Q E (hr.deeper _) hg hsp
  have I : Inv (cxOf CX P w K mg base N qual scope f cdv A outer s H E) [] (start N vs) H s1 := inv_start S hr.hd e0 hl r x
  refine wpAny_mono (ht.run [] s1 (start N vs) H _ I hq) (fun fl s' hs => ?_) fun e s' hs => hs
  cases fl with
  | ret u =>
    obtain ⟨v, σ', H', J, rv, q⟩ := hs
    exact ⟨v, H', J.os, J.bare, J.base, J.hok, rv, q⟩
  | next =>
    obtain ⟨σ', H', J, q⟩ := hs
    exact ⟨V.non, H', J.os, J.bare, J.base, J.hok, rfl, q⟩
  | brk =>
    obtain ⟨_, _, _, q⟩ := hs
    exact False.elim q
  | cont =>
    obtain ⟨_, _, _, q⟩ := hs
    exact False.elim q
end
/-! ### calls -/
section
variable {X : Cx} {CX : CXT} {k : Nat} {f g C : Addr} {sp : Sp} {dvs : List V} {E : XK} {x m : Str} {p pos apos : Pos} {e o : Expr} {es : List Expr} {ta tb : TE} {t : TA} {r : List V → Hp → VK → Prop}
abbrev PromX (X : Cx) (CX : CXT) (k : Nat) (f : Addr) (dvs : List V) (sp : Sp) : Prop := Prom X.prog X.w X.K X.mg X.base CX k f dvs sp
/-- what is asked at a call -/
def rSp (sp : Sp) (dvs : List V) (E : XK) : List V → Hp → VK → Prop := fun xs H Q => sp (xs ++ dvs) H Q E
theorem Prom.call (F : PromX X CX k f dvs sp) (hr : Room k X.A) (hg : X.A.guards = some []) (hx : Passes CX X E) : CallR X (.ref f) (rSp sp dvs E) := by
  intro pins s σ H xs us Q I r h
  obtain ⟨fd, ps, ds, G, b, hd⟩ := F
  have r2 : Vals (xs ++ dvs) (us ++ ds) := r.append hd
  have hl : (us ++ ds).length = ps.length := by rw [← r2.length]; exact G.len _ _ _ _ h
  refine wpAny_call (codeAny_mono (G.run X.A X.stack s H ⟨us, []⟩ (us ++ ds) (xs ++ dvs) Q E hr hg I.env0 (b s us I.kIn hl) r2 h) fun r s' hq => ?_)
  cases r with
  | error e => exact hx pins σ H s e s' I hq
  | ok fl =>
    cases fl with
    | ret u => exact I.after hq
    | next => exact False.elim hq
    | brk => exact False.elim hq
    | cont => exact False.elim hq
/-- what is asked where an instance is made -/
@[irreducible] def rMk (C : Addr) (sp : Sp) (dvs : List V) (E : XK) : List V → Hp → VK → Prop := fun vs H Q =>
  ∀ x dx, H x = none → H dx = none → dx ≠ x → sp (.ref x :: (vs ++ dvs)) (upd (upd H dx (.own x)) x (.ins C dx [])) (fun v H2 => v = .non ∧ Q (.ref x) H2) E
theorem guards_make {A : Around} {us : List Value} {kw : List (Str × Value)} (h : A.guards = some []) : (A.under (.builtin "type.__call__" ⟨.ref C :: us, kw⟩)).guards = some [] := by
  show pushGuards (Code.guards (.builtin "type.__call__" ⟨.ref C :: us, kw⟩)) A.guards = some []
  have e : Code.guards (.builtin "type.__call__" ⟨.ref C :: us, kw⟩) = [] := by
    unfold Code.guards
    rw [if_neg (by show ¬ (guardIds.contains "type.__call__" = true); decide)]
  rw [e]
  exact h
theorem Prom.make (M : Mk X.K C f) (F : PromX X CX k f dvs sp) (hr : Room (k + 1) X.A) (hg : X.A.guards = some []) (hx : Passes CX X E) : CallR X (.ref C) (rMk C sp dvs E) := by
  intro pins s σ H vs us Q I r h
  unfold rMk at h
  obtain ⟨fd, ps, ds, G, b, hd⟩ := F
  have hq := h (s.heap.objs.size + 1) s.heap.objs.size (I.hok.fresh (Nat.le_succ _)) (I.hok.fresh (Nat.le_refl _)) (Nat.ne_of_lt (Nat.lt_succ_self _))
  have I2 := Inv.made (C := C) I
  have r2 : Vals (V.ref (s.heap.objs.size + 1) :: (vs ++ dvs)) (Value.ref (s.heap.objs.size + 1) :: (us ++ ds)) := .cons rfl (r.append hd)
  have hl : (Value.ref (s.heap.objs.size + 1) :: us ++ ds).length = ps.length := by
    have e := r2.length
    rw [G.len _ _ _ _ hq] at e
    exact e.symm
  refine wpAny_call (make_map (f := f) I.kIn M.makes M.init (beq_iff_eq.mp M.fn) (codeAny_mono (G.run _ X.stack _ _ ⟨Value.ref (s.heap.objs.size + 1) :: us, []⟩ (Value.ref (s.heap.objs.size + 1) :: (us ++ ds)) _ _ E (hr.make C us []) (guards_make hg)
    (I2.env0.make C us []) (b _ (Value.ref (s.heap.objs.size + 1) :: us) I2.kIn hl) r2 hq) fun r s' hq' => ?_))
  cases r with
  | error e => exact hx pins σ _ _ e s' I2 hq'
  | ok fl =>
    cases fl with
    | ret u =>
      obtain ⟨v, H', I3, rv, ev, q3⟩ := I2.after hq'
      subst ev
      exact ⟨rv, ⟨V.ref (s.heap.objs.size + 1), H', I3, rfl, q3⟩⟩
    | next => exact False.elim hq'
    | brk => exact False.elim hq'
    | cont => exact False.elim hq'
def tCl (r : List V → Hp → VK → Prop) (t : TA) : TE := fun σ H Q => t σ H fun vs H1 => r vs H1 Q
/-- x(e, ..), x a name of the module that holds a def or a class -/
theorem pe_g (R : CallR X (.ref f) r) (hg : Gl X x) (hm : X.mg x = some (.ref f)) (hk : PySem.W.keepIn X.K (.ref f) = true)
    (ha : PA X (e :: es) t) (hdb : (x == ("__debug__" : Str)) = false := by decide) (he : starEach (e :: es) X.env = (false, eval e X.env) :: starEach es X.env := by rfl) (hpl : (backTo pos (starEach es X.env)).any (·.1) = false := by rfl) :
    PE X (.Call (.Name x p) (e :: es) [] pos) (tCl r t) := by
  refine ⟨fun pins s σ H Q I h => ?_⟩
  refine wpAny_Call_Name_kw (ld_glob I hg hm ?_ hdb)
  refine PySem.W.callWith_K (h₀ := X.base) I.ok.mod.kin hk (thn (ha.run pos pins s σ H _ I h) fun us s1 ⟨vs, H1, I1, r, q⟩ => ⟨I1.kIn, ?_⟩) he hpl
  exact R pins s1 σ H1 vs us Q I1 r q
/-- x() -/
theorem pe_g0 (R : CallR X (.ref f) r) (hg : Gl X x) (hm : X.mg x = some (.ref f)) (hk : PySem.W.keepIn X.K (.ref f) = true) (hdb : (x == ("__debug__" : Str)) = false := by decide) : PE X (.Call (.Name x p) [] [] pos) (tCl r tNil) := by
  refine ⟨fun pins s σ H Q I h => ?_⟩
  refine wpAny_Call_Name_kw (ld_glob I hg hm ?_ hdb)
  exact PySem.W.callWith_K0 I.kIn hk (R pins s σ H [] [] Q I .nil h)
/-- o.m(e, ..) -/
def tMt (C : Addr) (m : Str) (r : List V → Hp → VK → Prop) (ta : TE) (t : TA) : TE := fun σ H Q => ta σ H fun x H1 => ∃ a dx fs, x = .ref a ∧ H1 a = some (.ins C dx fs) ∧ fs.lookup m = none ∧ t σ H1 fun vs H2 => r (x :: vs) H2 Q
theorem pe_m {pl : Sem Bool} (he : PE X o ta) (c : Cls X.K C) (hm : Meth X.K C m f) (R : CallR X (.ref f) r) (ha : PA X (e :: es) t)
    (hst : starEach (e :: es) X.env = (false, eval e X.env) :: starEach es X.env := by rfl) (hpl : (backTo pos (starEach es X.env)).any (·.1) = false := by rfl)
    (ht : eval (.Call (.Attribute o m apos) (e :: es) [] pos) X.env = (do
      let ov ← eval o X.env
      standAt apos.atName
      let (f, first) ← holding [ov] (getMethod ov m pl)
      callWith pos f first (backTo pos (starEach (e :: es) X.env)) (backToKw pos (keywordEach [] X.env))) := by rfl) :
    PE X (.Call (.Attribute o m apos) (e :: es) [] pos) (tMt C m r ta t) := by
  refine ⟨fun pins s σ H Q I h => ?_⟩
  refine PySem.W.methodCall_KW (pl := pl) (thn (he.run pins s σ H _ I h) fun u s1 ⟨x, H1, I1, rx, a, dx, fs, ex, ea, l, q⟩ => ?_) ht
  subst ex
  obtain rfl : u = Value.ref a := rx
  refine getmeth_ok I1 ea c hm l ?_
  refine PySem.W.callWith_K (first := [.ref a]) (h₀ := X.base) I.ok.mod.kin hm.kp (thn (ha.run pos pins s1 σ H1 _ I1 q) fun us s2 ⟨vs, H2, I2, r, q2⟩ => ⟨I2.kIn, ?_⟩) hst hpl
  exact R pins s2 σ H2 (.ref a :: vs) (.ref a :: us) Q I2 (.cons rfl r) q2
theorem pe_m0 {pl : Sem Bool} (he : PE X o ta) (c : Cls X.K C) (hm : Meth X.K C m f) (R : CallR X (.ref f) r)
    (ht : eval (.Call (.Attribute o m apos) [] [] pos) X.env = (do
      let ov ← eval o X.env
      standAt apos.atName
      let (f, first) ← holding [ov] (getMethod ov m pl)
      callWith pos f first (backTo pos (starEach [] X.env)) (backToKw pos (keywordEach [] X.env))) := by rfl) :
    PE X (.Call (.Attribute o m apos) [] [] pos) (tMt C m r ta tNil) := by
  refine ⟨fun pins s σ H Q I h => ?_⟩
  refine PySem.W.methodCall_KW (pl := pl) (thn (he.run pins s σ H _ I h) fun u s1 ⟨x, H1, I1, rx, a, dx, fs, ex, ea, l, q⟩ => ?_) ht
  subst ex
  obtain rfl : u = Value.ref a := rx
  refine getmeth_ok I1 ea c hm l ?_
  exact PySem.W.callWith_K0 (first := [.ref a]) I1.kIn hm.kp (R pins s1 σ H1 [.ref a] [.ref a] Q I1 (.cons rfl .nil) q)
/-- o.f, a property -/
def tPr (C : Addr) (sp : Sp) (dvs : List V) (E : XK) (ta : TE) : TE := fun σ H Q => ta σ H fun x H1 => ∃ a dx fs, x = .ref a ∧ H1 a = some (.ins C dx fs) ∧ sp (.ref a :: dvs) H1 Q E
theorem pe_p {pp : Addr} (he : PE X o ta) (c : Cls X.K C) (hp : PropOf X.K C m pp g) (F : PromX X CX k g dvs sp) (hr : Room (k + 1) X.A) (hg : X.A.guards = some []) (hx : Passes CX X.nox E)
    (hab : attributeBase o m X.env (eval o X.env) = eval o X.env := by rfl) : PE X (.Attribute o m pos) (tPr C sp dvs E ta) := by
  refine ⟨fun pins s σ H Q I0 h => ?_⟩
  refine attr_of hab (thn (he.run pins s σ H _ I0 h) fun u s1 ⟨x, H1, I, rx, a, dx, fs, ex, ea, q⟩ => ?_)
  subst ex
  obtain rfl : u = Value.ref a := rx
  obtain ⟨fd, ps, ds, G, b, hd⟩ := F
  obtain ⟨mA, O, _, _, _, _⟩ := ins_get I.hok ea
  obtain ⟨od, J, _⟩ := O.look
  obtain ⟨rest, hrec⟩ := hp.rec_
  have I1 := I.tok (s1.toks + 1)
  have hl : ([Value.ref a] ++ ds).length = ps.length := by
    rw [← G.len _ _ _ _ q]
    show ds.length + 1 = dvs.length + 1
    rw [hd.length]
  have hc : (PySem.W.clsIn X.K C).isSome = true := by
    obtain ⟨cd, hc, _⟩ := PySem.W.any_some c.hd
    rw [hc]
    rfl
  refine PySem.W.get_bind I.kIn J (PySem.W.plainGet_of (c.get m)).1 (PySem.W.findObj_data hc hp.at_ hp.get hp.tak) (PySem.W.plainGet_of (c.get m)).2 (wpAny_call (PySem.W.prop_get (s := { s1 with toks := s1.toks + 1 }) I.kIn hrec ?_))
  refine codeAny_mono (G.run X.A.in1 X.stack { s1 with toks := s1.toks + 1 } H1 ⟨[.ref a], []⟩ (.ref a :: ds) (.ref a :: dvs) Q E hr.in1 hg I1.env0.in1 (b _ [.ref a] I1.kIn hl) (.cons rfl hd) q) fun r s' hq => ?_
  cases r with
  | error er => exact False.elim (hx pins σ H1 { s1 with toks := s1.toks + 1 } er s' (I1.wish _) hq)
  | ok fl =>
    cases fl with
    | ret u =>
      obtain ⟨v, H', I3, rv, q3⟩ := I1.after hq
      show wpAny _ _ (handedOut u) _ _ _
      rw [PySem.W.handedOut_of (handed_of rv)]
      exact wpAny_pure ⟨v, H', I3, rv, q3⟩
    | next => exact False.elim hq
    | brk => exact False.elim hq
    | cont => exact False.elim hq
/-! ### operators of one's own -/
/-- a comparison of two instances by the left one's method -/
@[irreducible] def rCmp (K : PySem.W.Frag) (C : Addr) (r : List V → Hp → VK → Prop) : R2 := fun x y H Q => ∃ a dx fs b C' dy gs, x = .ref a ∧ y = .ref b ∧ H a = some (.ins C dx fs) ∧ H b = some (.ins C' dy gs) ∧ PySem.W.notFirst K C (.ref C') = true ∧ r [x, y] H Q
theorem ins_look {pins : List (Addr × Obj)} {σ : L2.St} {H : Hp} {s : Shared} {a dx : Addr} {fs : List (Str × V)} (I : Inv X pins σ H s) (h : H a = some (.ins C dx fs)) : ∃ ox od, PySem.W.InstAt s.heap a ox C od := by
  obtain ⟨mA, O, _, _, _, _⟩ := ins_get I.hok h
  obtain ⟨od, J, _⟩ := O.look
  exact ⟨_, _, J⟩
theorem cmp_back {pins : List (Addr × Obj)} {σ : L2.St} {Q : VK} {u : Value} {s' : Shared} (h : EP X pins σ Q u s') : PySem.W.CmpBack (EP X pins σ Q) u s' := by
  obtain ⟨v, H', I', rv, q⟩ := h
  cases v with
  | non => cases (show u = Value.none from rv); exact ⟨.non, H', I', rfl, q⟩
  | bl b => cases (show u = Value.bool b from rv); exact ⟨.bl b, H', I', rfl, q⟩
  | int i => obtain ⟨t, z⟩ := (show ∃ t, u = Value.int i t from rv); subst z; exact ⟨.int i, H', I', ⟨t, rfl⟩, q⟩
  | str i => obtain ⟨t, z⟩ := (show ∃ t, u = Value.str i t from rv); subst z; exact ⟨.str i, H', I', ⟨t, rfl⟩, q⟩
  | byt i => obtain ⟨t, z⟩ := (show ∃ t, u = Value.bytes i t from rv); subst z; exact ⟨.byt i, H', I', ⟨t, rfl⟩, q⟩
  | flt i => obtain ⟨t, z⟩ := (show ∃ t, u = Value.float i t from rv); subst z; exact ⟨.flt i, H', I', ⟨t, rfl⟩, q⟩
  | ref a => cases (show u = Value.ref a from rv); exact ⟨.ref a, H', I', rfl, q⟩
  | ty n => cases (show u = Value.type n from rv); exact ⟨.ty n, H', I', rfl, q⟩
theorem op_cmp {op : CmpOp} (hop : ∀ a b, compareOp op a b = richCompare op a b) (hs : PySem.W.findIn X.K (.ref C) (cmpInfo op).2.1 = some (some (.ref g))) (hf : PySem.W.isFn X.K (.ref g) = true) (hu : X.A.units < cLine)
    (R : CallR X (.ref g) r) : OpR X (compareOp op) (rCmp X.K C r) := by
  intro pins s σ H x y v u Q I rx ry h
  unfold rCmp at h
  obtain ⟨a, dx, fs, b, C', dy, gs, rfl, rfl, ha, hb, hn, q⟩ := h
  cases (show v = Value.ref a from rx)
  cases (show u = Value.ref b from ry)
  obtain ⟨ox, od, J⟩ := ins_look I ha
  obtain ⟨ox', od', J'⟩ := ins_look I hb
  obtain ⟨m, hF⟩ := I.fr
  rw [hop]
  refine PySem.W.cmp_K (op := op) (tb := .ref C') hu hF I.ok.mod.kin J J'.type hn hs hf ?_
  exact wpAny_mono (R pins s σ H [.ref a, .ref b] [.ref a, .ref b] Q I (.cons rfl (.cons rfl .nil)) q) (fun w s' z => cmp_back z) fun _ _ x => x
/-- an operator of one's own class, the right one an instance of the same class -/
@[irreducible] def rBin (C : Addr) (r : List V → Hp → VK → Prop) : R2 := fun x y H Q => ∃ a dx fs b dy gs, x = .ref a ∧ y = .ref b ∧ H a = some (.ins C dx fs) ∧ H b = some (.ins C dy gs) ∧ r [x, y] H Q
theorem op_bin {op : Operator} (hc : PySem.W.selfFirst X.K C = true) (hs : PySem.W.findIn X.K (.ref C) (PySem.dunder op.info.2) = some (some (.ref g))) (hf : PySem.W.isFn X.K (.ref g) = true)
    (R : CallR X (.ref g) r) : OpR X (binaryOp op) (rBin C r) := by
  intro pins s σ H x y v u Q I rx ry h
  unfold rBin at h
  obtain ⟨a, dx, fs, b, dy, gs, rfl, rfl, ha, hb, q⟩ := h
  cases (show v = Value.ref a from rx)
  cases (show u = Value.ref b from ry)
  obtain ⟨ox, od, J⟩ := ins_look I ha
  obtain ⟨ox', od', J'⟩ := ins_look I hb
  obtain ⟨m, hF⟩ := I.fr
  refine PySem.W.binop_K hF I.ok.mod.kin J J'.type hc hs hf ?_
  exact wpAny_mono (R pins s σ H [.ref a, .ref b] [.ref a, .ref b] Q I (.cons rfl (.cons rfl .nil)) q) (fun w s' z => cmp_back z) fun _ _ x => x
/-- .. the right one an int -/
@[irreducible] def rBinI (C : Addr) (r : List V → Hp → VK → Prop) : R2 := fun x y H Q => ∃ a dx fs i, x = .ref a ∧ y = .int i ∧ H a = some (.ins C dx fs) ∧ r [x, y] H Q
theorem op_binI {op : Operator} {fo ro rc : Option Value} (hc : PySem.W.selfFirst X.K C = true) (hs : PySem.W.findIn X.K (.ref C) (PySem.dunder op.info.2) = some (some (.ref g))) (hf : PySem.W.isFn X.K (.ref g) = true)
    (hr : PySem.W.findIn X.K (.ref C) (dunderR op.info.2) = some rc) (hp : rc = none ∨ ∃ g : Addr, rc = some (.ref g))
    (h1 : PySem.W.findIn X.K (.type "int") (PySem.dunder op.info.2) = some fo) (h2 : PySem.W.findIn X.K (.type "int") (dunderR op.info.2) = some ro) (hsub : PySem.W.subIn X.K (.type "int") (.ref C) = some false)
    (R : CallR X (.ref g) r) : OpR X (binaryOp op) (rBinI C r) := by
  intro pins s σ H x y v u Q I rx ry h
  unfold rBinI at h
  obtain ⟨a, dx, fs, i, rfl, rfl, ha, q⟩ := h
  cases (show v = Value.ref a from rx)
  obtain ⟨t, z⟩ := (show ∃ t, u = Value.int i t from ry)
  subst z
  obtain ⟨ox, od, J⟩ := ins_look I ha
  obtain ⟨m, hF⟩ := I.fr
  refine PySem.W.ksp_binT (T := "int") hF I.ok.mod.kin J rfl hc hs hf hr hp h1 h2 hsub ?_
  exact wpAny_mono (R pins s σ H [.ref a, .int i] [.ref a, .int i t] Q I (.cons rfl (.cons ⟨t, rfl⟩ .nil)) q) (fun w s' z => cmp_back z) fun _ _ x => x
/-! ### repr -/
/-- repr(x), x told as data -/
@[irreducible] def rRepr (K : PySem.W.Frag) : List V → Hp → VK → Prop := fun xs H Q => ∃ a d, xs = [.ref a] ∧ Dp K H (.ref a) d ∧ d.showable = true ∧ d.hasDict = false ∧ d.depth ≤ 100 ∧ d.shown.length ≤ sizeLine ∧ Q (.str d.shown) H
theorem call_reprD (hu : X.A.units + 102 < cLine) (hg : X.A.guards = some []) : CallR X (.builtin "repr") (rRepr X.K) := by
  intro pins s σ H xs us Q I r h
  unfold rRepr at h
  obtain ⟨a, d, rfl, hd, h1, h2, h3, h4, q⟩ := h
  cases r with
  | cons r1 r2 =>
    cases r2
    rename_i u
    cases (show u = Value.ref a from r1)
    obtain ⟨as, rd⟩ := Dp.reads I d _ _ hd rfl
    refine repr_of_reads' rd h1 (fun z => by rw [h2] at z; cases z) hg (by omega) (fun _ _ e => e) (fun h' u tk k => ⟨.str d.shown, H, I.kept k, ⟨u, rfl⟩, q⟩) h4
end
end Gh

set_option Elab.async false
set_option linter.all false
set_option maxRecDepth 100000
set_option maxHeartbeats 4000000
/-! En: the end of a law's row over promises that know that nothing is being shown. -/
namespace Gh
open PySem PySem.Spec PyProof.Rows L2
theorem law_callG {P : Program} {w : World} {K : PySem.W.Frag} {mg mb : Str → Option Value} {CX : CXT} {k : Nat} {fa a : Addr} {fd : FuncData} {x : Str} {sp : Sp} {s₁ : Shared} {vs : List Value} {ns : List Int}
    (KX : K.In s₁.heap) (hns : s₁.heap.Ns mainGlobals mg) (hb : s₁.heap.Ns builtinsNs mb) (hbb : ∀ x : Str, x ≠ "__name__" → mb x = bootBuiltins x) (hlim : s₁.heap.NoLimit) (hg : s₁.gens = #[])
    (ha : s₁.heap.get? a = some { cls := .type "list", data := .seq vs.toArray }) (hi : IntsAre vs ns) (hl : ns.length ≤ sizeLine) (hr : Room k callerA)
    (F : ∀ base : Heap, K.In base → base.Ns mainGlobals mg → FnG P w K mg base CX k fa fd [x] sp) (hbind : ∀ (s : Shared) (u : Value), BindsTo s fd ⟨[u], []⟩ [(x, u)])
    (hsp : ∀ H : Hp, Only H → SqL K H a (ns.map V.int) → sp [.ref a] H (fun v _ => v = .bl true) fun _ _ _ => False)
    (hCX : ∀ H e s', CX [] H s₁ (fun _ _ _ => False) e s' → False) :
    codeAny (model P w) callerA (.call (.ref fa) ⟨[.ref a], []⟩) (fun r s' => r = .ok (.ret (.bool true)) ∧ OldK s₁.heap s'.heap ∧ s'.os = s₁.os ∧ AllBare s'.gens) s₁ := by
  have rv := vals_ints hi
  have lenV := hi.length
  -- from an abstract heap in which nothing but the script may be tracked
  have core : ∀ H : Hp, Only H → SqL K H a (ns.map V.int) → HOk P w H s₁.heap → (∀ b, H b ≠ none → b = a) → (H a ≠ none → K.lookup a = none) →
      codeAny (model P w) callerA (.call (.ref fa) ⟨[.ref a], []⟩) (fun r s' => r = .ok (.ret (.bool true)) ∧ OldK s₁.heap s'.heap ∧ s'.os = s₁.os ∧ AllBare s'.gens) s₁ := by
    intro H hO hS hok hA hK
    have base_of : ∀ {b : Addr} {o : Obj}, s₁.heap.get? b = some o → H b = none → (hidT s₁.heap H).get? b = some o := fun e n => hidT_get e n
    have noA : ∀ {b : Addr} {o : Obj} {es : Array DictEntry} {ep : Nat}, s₁.heap.get? b = some o → o.data = .dict es ep → H b = none := fun {b o es ep} e d => by
      cases q : H b with
      | none => rfl
      | some u =>
        have e' : b = a := hA b (by rw [q]; simp)
        subst e'
        rw [ha] at e; cases e
        have d' : Data.seq vs.toArray _ = Data.dict es ep := d
        cases d'
    have nsK : ∀ {b : Addr} {m : Str → Option Value}, s₁.heap.Ns b m → (hidT s₁.heap H).Ns b m := fun {b m} ⟨o, es, ep, e, d, r⟩ => ⟨o, es, ep, base_of e (noA e d), d, r⟩
    have hKb : K.In (hidT s₁.heap H) := fun b o e => base_of (KX b o e) (by
      cases q : H b with
      | none => rfl
      | some u =>
        have e' : b = a := hA b (by rw [q]; simp)
        subst e'
        rw [hK (by rw [q]; simp)] at e; cases e)
    have hM : Mod K mg (hidT s₁.heap H) := ⟨hKb, nsK hns, ⟨mb, nsK hb, hbb⟩, let ⟨mc, h1, h2⟩ := hlim; ⟨mc, nsK h1, h2⟩⟩
    have e0 : Env0 P w K mg (hidT s₁.heap H) callerA [] s₁ H := ⟨rfl, hM, fun b o e => of_hidT e, Nat.le_of_eq (hidT_size _ _), trivial, fun b hb => absurd (show b ∈ ([] : List Addr) from hb) (by simp), hok, .of_eq hg⟩
    refine codeAny_mono ((F _ hKb (nsK hns)).run callerA [] s₁ H ⟨[.ref a], []⟩ [.ref a] [.ref a] _ _ hr rfl e0 (hbind s₁ (.ref a)) (.cons rfl .nil) (hsp H hO hS)) fun r s' h => ?_
    cases r with
    | error e => exact (hCX H e s' h).elim
    | ok fl =>
      cases fl with
      | next => exact False.elim h
      | brk => exact False.elim h
      | cont => exact False.elim h
      | ret u =>
        obtain ⟨v, H', os, bare, un, hok', r', q⟩ := h
        have q' : v = .bl true := q
        subst q'
        obtain rfl : u = Value.bool true := r'
        refine ⟨rfl, OldK.of_keep fun b o e => ?_, os, bare⟩
        cases q : H b with
        | none => exact un.keep b o e q (by intro z; exact absurd (show b ∈ ([] : List Addr) from z) (by simp)) (by simp)
        | some u =>
          rcases hO b with z | ⟨ob, xs, z⟩
          · rw [q] at z; cases z
          · have z2 := un.frzs b ob _ z
            obtain ⟨e1, _⟩ := hok b _ z
            obtain ⟨e2, _⟩ := hok' b _ z2
            rw [e] at e1; cases e1
            exact e2
  cases hk : K.lookup a with
  | some o =>
    -- the script is one of the module's own objects
    have e := KX a o hk
    rw [ha] at e
    cases e
    refine core (fun _ => none) (fun _ => .inl rfl) (.inr ⟨_, vs.toArray, _, hk, rfl, rfl, rfl, by rw [List.size_toArray, lenV]; exact hl, by simpa using rv⟩) (fun b u z => by have z' : (none : Option HO) = some u := z; cases z') (fun b z => absurd rfl z) fun z => absurd rfl z
  | none =>
    refine core (fun b => if b = a then some (.frz { cls := .type "list", data := .seq vs.toArray } (.lst (ns.map V.int))) else none) (fun b => ?_) (.inl (.inr ⟨{ cls := .type "list", data := .seq vs.toArray }, if_pos rfl⟩)) (fun b u z => ?_) (fun b z => ?_) fun _ => hk
    · by_cases hb : b = a
      · exact .inr ⟨_, _, if_pos hb⟩
      · exact .inl (if_neg hb)
    · by_cases hb : b = a
      · have z' := (if_pos hb).symm.trans z
        cases z'
        subst hb
        exact ⟨ha, by rw [List.length_map]; exact hl, vs, _, rv, ha⟩
      · have z' := (if_neg hb).symm.trans z
        cases z'
    · by_cases hb : b = a
      · exact hb
      · exact absurd (if_neg hb) z
theorem walk_ofG {l : PySem.W.OpenLaw} {n k : Nat} {q : Program} {loose : List Str} {XP : (Str → Option Value) → Heap → Prop} {YP : World → Heap → Prop} {d : DefRec} {CX : World → CXT} {x : Str}
    (hn : l.most = some n) (hn2 : n ≤ sizeLine) (hdf : d.params.defaults = []) (hr : Room k callerA)
    (F : ∀ (w : World) (mg : Str → Option Value) (fa : Addr) (h : Heap), YP w h → h.Ns mainGlobals mg → mg d.name = some (.ref fa) →
      ∃ (K : PySem.W.Frag) (fd : FuncData) (sp : Sp), K.In h ∧ (∀ (s : Shared) (u : Value), BindsTo s fd ⟨[u], []⟩ [(x, u)]) ∧
        (∀ (H : Hp) (a : Addr) (ns : List Int), ns.length ≤ n → Only H → SqL K H a (ns.map V.int) → sp [.ref a] H (fun v _ => v = .bl true) fun _ _ _ => False) ∧
        ∀ base : Heap, K.In base → base.Ns mainGlobals mg → FnG l.prog w K mg base (CX w) k fa fd [x] sp)
    (hCX : ∀ (w : World) (H : Hp) (s : Shared) (e : Value) (s' : Shared), CX w [] H s (fun _ _ _ => False) e s' → False) :
    PySem.W.WalkO q loose XP YP l.row.toRowW d [] (fun f vs => PySem.call f vs) := by
  refine Att.attach_call hn hdf fun w s₀ s₁ mg mb fa o pm cd doc a vs ns G Y ho hd hcd hmg hobj hints hlen hg => ?_
  obtain ⟨K, fd, sp, KX, hb, hsp, hF⟩ := F w mg fa _ Y G.T.g hmg
  exact law_callG KX G.T.g G.T.b G.T.builtins G.T.nolimit hg hobj hints (Nat.le_trans hlen hn2) hr hF hb (fun H hO hS => hsp H a ns hlen hO hS) fun H e s' => hCX w H s₁ e s'
end Gh

set_option Elab.async false
set_option linter.all false
set_option maxRecDepth 100000
set_option maxHeartbeats 4000000
/-! Pn: the pen that draws, its promise; small facts of heaps, lists of ints and what they show. -/
namespace Gh
open PySem PySem.Spec PyProof.Rows L2
/-- what stood stands, but at p -/
def Keep (H H' : Hp) (p : Addr) : Prop := ∀ a o, H a = some o → a ≠ p → H' a = some o
theorem Keep.refl {H : Hp} {p : Addr} : Keep H H p := fun _ _ h _ => h
theorem Keep.trans {H H' H'' : Hp} {p : Addr} (h : Keep H H' p) (k : Keep H' H'' p) : Keep H H'' p := fun a o e n => k a o (h a o e n) n
theorem Keep.new {H H' : Hp} {p q : Addr} {o : HO} (h : Keep H H' p) (n : H' q = none) : Keep H (upd H' q o) p := fun a u e ne => by
  rw [upd_ne (ne_of_none (h a u e ne) n)]
  exact h a u e ne
theorem Keep.put {H H' : Hp} {p : Addr} {o : HO} (h : Keep H H' p) : Keep H (upd H' p o) p := fun a u e ne => by
  rw [upd_ne ne]
  exact h a u e ne
/-- a pen: its cells, the index of the next one, what is left of a great one; b draws may still be made -/
def PenAt (H : Hp) (p : Addr) (b : Nat) : Prop := ∃ (c : Addr) (ns : List Int) (i z : Int), H p = some (.lst [.ref c, .int i, .int z]) ∧ H c = some (.lst (ns.map V.int)) ∧ ns.length ≤ 63 ∧ 0 ≤ i ∧ i + b ≤ 1000000 ∧ 0 ≤ z
theorem PenAt.le {H : Hp} {p : Addr} {a b : Nat} (h : PenAt H p b) (k : a ≤ b) : PenAt H p a := by
  obtain ⟨c, ns, i, z, h1, h2, h3, h4, h5, h6⟩ := h
  exact ⟨c, ns, i, z, h1, h2, h3, h4, by omega, h6⟩
theorem pen_ne {H : Hp} {p c : Addr} {ns : List Int} {i z : Int} (h : H p = some (.lst [.ref c, .int i, .int z])) (k : H c = some (.lst (ns.map V.int))) : c ≠ p := by
  refine ne_of k h fun e => ?_
  have e2 : ns.map V.int = [.ref c, .int i, .int z] := HO.lst.inj e
  cases ns with
  | nil => cases e2
  | cons n r => cases (List.cons.inj e2).1
/-- an object that is no pen, at a new place -/
theorem PenAt.new {H : Hp} {p q : Addr} {b : Nat} {o : HO} (h : PenAt H p b) (n : H q = none) : PenAt (upd H q o) p b := by
  obtain ⟨c, ns, i, z, h1, h2, h3⟩ := h
  exact ⟨c, ns, i, z, by rw [upd_ne (ne_of_none h1 n)]; exact h1, by rw [upd_ne (ne_of_none h2 n)]; exact h2, h3⟩
theorem PenAt.same {H H' : Hp} {p : Addr} {b : Nat} (h : PenAt H p b) (n : L2.Same H H') : PenAt H' p b := by
  obtain ⟨c, ns, i, z, h1, h2, h3⟩ := h
  exact ⟨c, ns, i, z, n _ _ h1, n _ _ h2, h3⟩
/-- the promise of the def that draws -/
def spDraw : Sp := fun vs H Q _ => ∃ (p : Addr) (b : Nat) (m : Int), vs = [.ref p, .int m] ∧ 0 < m ∧ m.natAbs.log2 < 9000 ∧ PenAt H p (b + 1) ∧
  ∀ (d : Int) (H' : Hp), 0 ≤ d → d < m → PenAt H' p b → Keep H H' p → Q (.int d) H'
/-- the promise of the def that makes a pen -/
def spPen (K : PySem.W.Frag) : Sp := fun vs H Q _ => ∃ (a : Addr) (ns : List Int), vs = [.ref a] ∧ SqL K H a (ns.map V.int) ∧ ns.length ≤ 63 ∧ ∀ (p : Addr) (H' : Hp), H p = none → PenAt H' p 1000000 → L2.Same H H' → Q (.ref p) H'
theorem dp_ints (K : PySem.W.Frag) (H : Hp) : ∀ ns : List Int, DpAll K H (ns.map V.int) (ns.map PyData.int)
  | [] => .nil
  | n :: r => .cons (.int n) (dp_ints K H r)
theorem eqv_nil (ds : List PyData) : PyData.eqv (.list ds) (.list []) = ds.isEmpty := by
  cases ds <;> rfl
theorem same_new {H : Hp} {q : Addr} {o : HO} (n : H q = none) : L2.Same H (upd H q o) := fun a u e => by
  rw [upd_ne (ne_of_none e n)]
  exact e
theorem atI_int {ns : List Int} {i : Int} (h0 : 0 ≤ i) (h1 : i < ns.length) : ∃ v, atI (ns.map V.int) i = some (.int v) ∧ v ∈ ns := by
  obtain ⟨j, rfl⟩ : ∃ j : Nat, i = j := ⟨i.toNat, by omega⟩
  have hl : j < ns.length := by omega
  refine ⟨ns[j], atI_nat ?_, List.getElem_mem hl⟩
  rw [List.getElem?_map, List.getElem?_eq_getElem hl]
  rfl
theorem pow_lt {i : Int} (h0 : 0 ≤ i) (h1 : i < 18446744073709551616) : i.natAbs < 2 ^ 64 := by
  have e : (2 : Nat) ^ 64 = 18446744073709551616 := by decide
  rw [e]
  omega
theorem mix_ok {x i a b c : Int} (h0 : 0 ≤ x) (h1 : x < 4294967296) (h2 : 0 ≤ i) (h3 : i ≤ 1000000) (ha : 0 ≤ a ∧ a ≤ 1000000) (hb : 0 ≤ b ∧ b ≤ 1000000) (hc : 0 ≤ c ∧ c ≤ 1000000) : (x * (2 * i + a) + b * i * i + c).natAbs < 2 ^ 64 := by
  have hii : 0 ≤ i * i ∧ i * i ≤ 1000000 * 1000000 := ⟨Int.mul_nonneg h2 h2, Int.mul_le_mul h3 h3 h2 (by decide)⟩
  have hxi : 0 ≤ x * (2 * i + a) ∧ x * (2 * i + a) ≤ 4294967296 * 4000000 := ⟨Int.mul_nonneg h0 (by omega), Int.mul_le_mul (by omega) (by omega) (by omega) (by decide)⟩
  have hbi : 0 ≤ b * (i * i) ∧ b * (i * i) ≤ 1000000 * (1000000 * 1000000) := ⟨Int.mul_nonneg hb.1 hii.1, Int.mul_le_mul hb.2 hii.2 hii.1 (by decide)⟩
  have e : b * i * i = b * (i * i) := Int.mul_assoc _ _ _
  refine pow_lt ?_ ?_ <;> (rw [e]; omega)
/-- 10 ** 18, a number's last part -/
theorem mod_lt (x : Int) {m : Int} (h : 0 < m) : 0 ≤ x % m ∧ x % m < m := ⟨Int.emod_nonneg _ (by omega), Int.emod_lt_of_pos _ h⟩
theorem log_small {m : Int} {n : Nat} (h0 : 0 < m) (h : m < 2 ^ n) (hn : 0 < n) (h9 : n ≤ 9000) : m.natAbs.log2 < 9000 := by
  refine Nat.lt_of_lt_of_le (PySem.Flt.log2_lt_of hn ?_) h9
  have e : ((m.natAbs : Nat) : Int) = m := by omega
  have h2 : ((m.natAbs : Nat) : Int) < ((2 ^ n : Nat) : Int) := by rw [e]; exact_mod_cast h
  exact_mod_cast h2
theorem cut_all {xs : List V} {n : Nat} (h : xs.length ≤ n) : cutV xs none (some (n : Int)) = xs := by
  unfold cutV
  rw [HT.sIx_none, HT.sIx_nat, Nat.min_eq_right h, List.drop_zero, Nat.sub_zero]
  exact List.take_length
theorem no_field {x y : Str} {v : V} (h : (y == x) = false) : ([(x, v)] : List (Str × V)).lookup y = none := by
  show (match y == x with
    | true => some v
    | false => ([] : List (Str × V)).lookup y) = none
  rw [h]
  rfl
/-- the promise of the def that picks -/
def spPick : Sp := fun vs H Q _ => ∃ (p : Addr) (b : Nat) (l : Addr) (xs : List V), vs = [.ref p, .ref l] ∧ H l = some (.lst xs) ∧ 0 < xs.length ∧ xs.length ≤ 1000 ∧ l ≠ p ∧ PenAt H p (b + 1) ∧
  ∀ (j : Nat) (v : V) (H' : Hp), xs[j]? = some v → PenAt H' p b → Keep H H' p → Q v H'
theorem yes_ite {σ : L2.St} {H : Hp} {F G : Hp → Prop} (h : F H) : tYes σ H (fun b H3 => if b = true then F H3 else G H3) := by
  show (if true = true then F H else G H)
  rw [if_pos rfl]
  exact h
/-- what int(x) of an int or a truth asks -/
abbrev rInt1 : List V → Hp → VK → Prop := fun xs H Q => (∃ i, xs = [V.int i] ∧ Q (V.int i) H) ∨ ∃ k, xs = [V.bl k] ∧ Q (V.int (if k = true then 1 else 0)) H
/-- [int(x) for x in xs], xs a list of ints: a new list of the same ints -/
theorem lc_int {K : PySem.W.Frag} {a : Addr} {ns : List Int} {i : Nat} {σ : L2.St} {H : Hp} {Q : Addr → Hp → Prop} (hS : SqL K H a (ns.map V.int)) (hl : ns.length ≤ 1000000) (hw : ∀ x, wipe ((wipe σ [i]).set i (some x)) [i] = wipe σ [i]) (hv : ∀ x, ((wipe σ [i]).set i (some x))[i]? = some (some x))
    (q : ∀ G H', L2.Same H H' → H G = none → H' G = some (.lst (ns.map V.int)) → Q G H') :
    ∀ D, H D = none → ∃ W : Nat → Nat → Hp → Prop, (∃ m, W 0 m (upd H D (.lst []))) ∧ ∀ j m H1, W j m H1 →
      ((Itl K a).stop j H1 ∧ Q D H1) ∨ ((Itl K a).go j H1 ∧ ∃ Nx : Hp → Prop, (∀ H', Nx H' → ∃ m', m' < m ∧ W (j + 1) m' H') ∧ ∀ x H', (Itl K a).yld j H1 x H' → gName i x (wipe σ [i]) H' fun σ2 H2 => wipe σ2 [i] = wipe σ [i] ∧ tYes σ2 H2 fun b H3 =>
        if b = true then tCB rInt1 (tCons (tVar i) tNil) σ2 H3 fun y H4 => ∃ acc, H4 D = some (.lst acc) ∧ acc.length < sizeLine ∧ Nx (upd H4 D (.lst (acc ++ [y]))) else Nx H3) := by
  intro D nD
  refine lc_list (K := K) (a := a) (xs := ns.map V.int) (fun j H2 => L2.Same H H2 ∧ H2 D = some (.lst ((ns.map V.int).take j))) ⟨same_new nD, upd_same⟩ (fun j H2 _ z => z.1.seq hS) (fun j x H2 hx z => ?_) (fun H2 z => ?_)
  · obtain ⟨n, rfl⟩ : ∃ n, x = V.int n := by
      rw [List.getElem?_map] at hx
      cases e : ns[j]? with
      | none => rw [e] at hx; cases hx
      | some n => rw [e] at hx; exact ⟨n, (Option.some.inj hx).symm⟩
    refine ⟨hw _, yes_ite ?_⟩
    refine ⟨_, hv _, .inl ⟨n, rfl, _, z.2, ?_, ?_, ?_⟩⟩
    · rw [List.length_take, List.length_map]
      exact Nat.lt_of_le_of_lt (Nat.min_le_right _ _) (Nat.lt_of_le_of_lt hl (by decide))
    · exact fun b u e => by
        rw [upd_ne (ne_of_none e nD)]
        exact z.1 _ _ e
    · rw [upd_same, List.take_add_one, hx]
      rfl
  · refine q D H2 z.1 nD ?_
    rw [z.2, List.take_of_length_le (Nat.le_refl _)]
/-- a statement, then the rest, with a word M between them -/
def tCut (t u : TS) : TS := fun D σ H => ∃ M : L2.St → Hp → Prop, t { D with nx := M } σ H ∧ ∀ σ' H', M σ' H' → u D σ' H'
theorem pss_cut {X : Cx} {st : Stmt} {rest : List Stmt} {t u : TS} (h1 : PS X st t) (h2 : PSs X rest u) : PSs X (st :: rest) (tCut t u) := by
  refine ⟨fun pins s σ H D I h => ?_⟩
  obtain ⟨M, hm, hu⟩ := h
  refine wpAny_execs_cons (thn (h1.run pins s σ H { D with nx := M } I hm) fun f s1 q => ?_)
  cases f with
  | next =>
    obtain ⟨σ1, H1, I1, q1⟩ := q
    exact h2.run pins s1 σ1 H1 D I1 (hu σ1 H1 q1)
  | ret v => exact q
  | brk => exact q
  | cont => exact q
end Gh

set_option Elab.async false
set_option linter.all false
set_option maxRecDepth 100000
set_option maxHeartbeats 4000000
/-! Rk: rules that name the written part (so that they serve inside comprehensions too). -/
namespace Gh
open PySem PySem.Spec PyProof.Rows L2
theorem PenAt.ne {H : Hp} {p c : Addr} {b : Nat} (h : PenAt H p b) (n : H c = none) : c ≠ p := by
  obtain ⟨d, ns, i, z, h1, _⟩ := h
  exact (ne_of_none h1 n).symm
/-- a def that lets no error out -/
theorem fnG0 {P : Program} {w : World} {K : PySem.W.Frag} {mg : Str → Option Value} {base : Heap} {CX : CXT} {k : Nat} {f : Addr} {fd : FuncData} {ps : List Str} {sp : Sp} {dvs : List V} {x qual : Str} {params : Arguments} {body : List Stmt} {scope : Scope} {kws : List (Str × V)} {N : List Str}
    (F : FunD K x qual params body scope dvs kws f fd) (S : FnScope N ps scope) (len : ∀ vs H Q E, sp vs H Q E → vs.length = ps.length)
    (hbody : ∀ (cdv : Value) (A : Around) (outer : List Env) (s : Shared) (H : Hp) (vs : List V) (Q : VK) (E : XK), Room k (A.deeper (envOfC qual scope s.heap.objs.size f cdv)) → (A.deeper (envOfC qual scope s.heap.objs.size f cdv)).guards = some [] → sp vs H Q E →
      ∃ t, PSs (cxOf CX P w K mg base N qual scope f cdv A outer s H E).nox body t ∧ t { nx := fun _ H' => Q .non H', rt := Q } (start N vs) H) : FnG P w K mg base CX (k + 1) f fd ps sp :=
  fnG_of F S len fun cdv A outer s H vs Q E hr hg h => by
    obtain ⟨t, ht, q⟩ := hbody cdv A outer s H vs Q E hr hg h
    exact ⟨t, PSs.nox ht, q⟩
section
variable {X : Cx} {K : PySem.W.Frag}
theorem ix_listK (h : X.K = K) : IxR X (rIxL K) := h ▸ ix_list
theorem ix_tupK (h : X.K = K) : IxR X (rIxT K) := h ▸ ix_tup
theorem call_lenK (h : X.K = K) : CallR X (.builtin "len") (fun xs H Q => ∃ x n, xs = [x] ∧ LenV K x H n ∧ Q (.int n) H) := h ▸ call_len
theorem call_isiK1 (h : X.K = K) : CallR X (.builtin "isinstance") (rIsi K) := h ▸ call_isi
theorem call_reprK (h : X.K = K) (hu : X.A.units + 102 < cLine) (hg : X.A.guards = some []) : CallR X (.builtin "repr") (rRepr K) := h ▸ call_reprD hu hg
end
end Gh

set_option Elab.async false
set_option linter.all false
set_option maxRecDepth 100000
set_option maxHeartbeats 4000000
/-! X1: an error of one's own that is held as a value: its fields, its class; try .. except X as n, the error kept behind it. -/
namespace Gh
open PySem PySem.Spec PyProof.Rows L2
/-- at a: an error of the class at C, its dict at d -/
def exk (a C d : Addr) : HO := .ext fun h => ∃ (o : Obj) (vs : Array Value), h.get? a = some o ∧ o.cls = .ref C ∧ o.dict = some d ∧ o.data = .fields vs
theorem exk_ok {P : Program} {w : World} {H : Hp} {h : Heap} {a C d : Addr} {o : Obj} {vs : Array Value} (h1 : h.get? a = some o) (h2 : o.cls = .ref C) (h3 : o.dict = some d) (h4 : o.data = .fields vs) : ObjOk P w H h a (exk a C d) :=
  ⟨⟨o, vs, h1, h2, h3, h4⟩, ⟨o, h1⟩, fun _ _ z k => by
    obtain ⟨o, vs, h1, h2, h3, h4⟩ := z
    exact ⟨o, vs, k _ h1, h2, h3, h4⟩⟩
theorem exk_at {P : Program} {w : World} {H : Hp} {h : Heap} {a C d : Addr} (hok : HOk P w H h) (e : H a = some (exk a C d)) : ∃ (o : Obj) (vs : Array Value), h.get? a = some o ∧ o.cls = .ref C ∧ o.dict = some d ∧ o.data = .fields vs :=
  (show ObjOk P w H h a (exk a C d) from hok a _ e).1
/-- what an error's class must say -/
structure ErrT (K : PySem.W.Frag) (C : Addr) : Prop where
  hg : PySem.W.findIn K (.ref C) "__getattribute__" = some (some (.builtin "BaseException.__getattribute__"))
  hk : PySem.W.findIn K (.ref C) "__getattr__" = some none
  hs : PySem.W.subIn K (.ref C) (.type "BaseException") = some true
  hd : PySem.W.hasDictIn K C = true
  ha : PySem.W.findIn K (.ref C) "__class__" = some (some (.builtin "object.__class__"))
  hn : PySem.W.specialIn K (.builtin "object.__class__") "__get__" = some (some (.builtin "getset_descriptor.__get__"))
  htk : PySem.W.takesIn K (.builtin "object.__class__") = some true
  hm : PySem.W.mroIn K C (.type "object") = some true
def errB (x : Str) (K : PySem.W.Frag) : Bool := He.eqO (PySem.W.findIn K (.ref (gd x K)) "__getattribute__") (some (some (.builtin "BaseException.__getattribute__"))) &&
  (He.eqO (PySem.W.findIn K (.ref (gd x K)) "__getattr__") (some none) && (decide (PySem.W.subIn K (.ref (gd x K)) (.type "BaseException") = some true) && (PySem.W.hasDictIn K (gd x K) &&
  (He.eqO (PySem.W.findIn K (.ref (gd x K)) "__class__") (some (some (.builtin "object.__class__"))) && (He.eqO (PySem.W.specialIn K (.builtin "object.__class__") "__get__") (some (some (.builtin "getset_descriptor.__get__"))) &&
  (decide (PySem.W.takesIn K (.builtin "object.__class__") = some true) && decide (PySem.W.mroIn K (gd x K) (.type "object") = some true)))))))
theorem errB_ok {x : Str} {K : PySem.W.Frag} (h : errB x K = true) : ErrT K (gd x K) := by
  obtain ⟨h1, h⟩ := He.ba h
  obtain ⟨h2, h⟩ := He.ba h
  obtain ⟨h3, h⟩ := He.ba h
  obtain ⟨h4, h⟩ := He.ba h
  obtain ⟨h5, h⟩ := He.ba h
  obtain ⟨h6, h⟩ := He.ba h
  obtain ⟨h7, h8⟩ := He.ba h
  exact ⟨He.eqO_ok h1, He.eqO_ok h2, of_decide_eq_true h3, h4, He.eqO_ok h5, He.eqO_ok h6, of_decide_eq_true h7, of_decide_eq_true h8⟩
section
variable {X : Cx} {e : Expr} {te : TE} {pos : Pos} {n : Str}
theorem exk_inst {pins : List (Addr × Obj)} {σ : L2.St} {H : Hp} {s : Shared} {a C d : Addr} {fs : List (Str × V)} (I : Inv X pins σ H s) (h1 : H a = some (exk a C d)) (h2 : H d = some (.xd fs)) :
    ∃ o od mA, PySem.W.InstAt s.heap a o C (some od) ∧ s.heap.Ns1 d mA ∧ (∀ f, RelO (fs.lookup f) (mA f)) ∧ s.heap.get? d = some od := by
  obtain ⟨o, vs, k1, k2, k3, k4⟩ := exk_at I.hok h1
  obtain ⟨mA, hns, hr⟩ := (show ObjOk X.prog X.w H s.heap d (.xd fs) from I.hok d _ h2)
  obtain ⟨od, ho, hl⟩ := lookIn_ns hns
  exact ⟨o, od, mA, ⟨k1, k2, by unfold PySem.W.notCls; rw [k4] <;> rfl, by rw [k3]; exact ho⟩, hns, hr, ho⟩
/-- e.n, e an error that is held -/
def tXa (K : PySem.W.Frag) (n : Str) (te : TE) : TE := fun σ H Q => te σ H fun x H1 => ∃ (a C d : Addr) (fs : List (Str × V)) (v : V), x = .ref a ∧ H1 a = some (exk a C d) ∧ ErrT K C ∧ PySem.W.findIn K (.ref C) n = some none ∧ H1 d = some (.xd fs) ∧ fs.lookup n = some v ∧ Q v H1
theorem pe_xa {K : PySem.W.Frag} (hK : X.K = K) (he : PE X e te) (hb : attributeBase e n X.env (eval e X.env) = eval e X.env := by rfl) : PE X (.Attribute e n pos) (tXa K n te) := by
  subst hK
  refine ⟨fun pins s σ H Q I h => ?_⟩
  refine attr_of hb (thn (he.run pins s σ H _ I h) fun u s1 hh => ?_)
  obtain ⟨x, H1, I1, rx, a, C, d, fs, v, ex, ea, T, hno, ed, l, q⟩ := hh
  subst ex
  obtain rfl : u = Value.ref a := rx
  obtain ⟨o, vs, k1, k2, k3, k4⟩ := exk_at I1.hok ea
  obtain ⟨mA, hns, hr⟩ := (show ObjOk X.prog X.w H1 s1.heap d (.xd fs) from I1.hok d _ ed)
  obtain ⟨od, ho, hl⟩ := lookIn_ns hns
  obtain ⟨u, hu, ru⟩ := RelO.some_of (v := v) (o := mA n) (by rw [← l]; exact hr n)
  have J : PySem.W.InstAt s1.heap a o C (some od) := ⟨k1, k2, by unfold PySem.W.notCls; rw [k4] <;> rfl, by rw [k3]; exact ho⟩
  exact HandSPX.exc_get I1.kIn J T.hg T.hk T.hs (PySem.W.findObj_own T.hd hno rfl (by rw [hl, hu])) (handed_of ru) ⟨v, H1, I1.tok _, ru, q⟩
/-- isinstance(x, c): x any value whose type is told, or an error that is held -/
def rIsiZ (K : PySem.W.Frag) : List V → Hp → VK → Prop := fun xs H Q => rIsi K xs H Q ∨ ∃ (a C d : Addr) (fs : List (Str × V)) (c : V) (u : Value) (b : Bool), xs = [.ref a, c] ∧ ClsV c u ∧ H a = some (exk a C d) ∧ H d = some (.xd fs) ∧ ErrT K C ∧ PySem.W.kitOne K (.ref C) u = some b ∧ Q (.bl b) H
theorem call_isiZ {K : PySem.W.Frag} (hK : X.K = K) : CallR X (.builtin "isinstance") (rIsiZ K) := by
  subst hK
  intro pins s σ H xs us Q I r h
  rcases h with h | ⟨a, C, d, fs, c, u, b, rfl, k, ea, ed, T, e, q⟩
  · exact call_isi pins s σ H xs us Q I r h
  · obtain ⟨u1, u2, rfl, r1, r2⟩ := vals2 r
    obtain rfl : u1 = Value.ref a := r1
    have e2 := k.eq r2
    subst e2
    obtain ⟨o, od, mA, J, _⟩ := exk_inst I ea ed
    have hcl : (PySem.W.clsIn X.K C).isSome = true := by
      obtain ⟨cd, hc, _⟩ := PySem.W.any_some T.hd
      rw [hc]
      rfl
    exact PySem.W.kia_one (PySem.W.kitx_exc hcl T.hg T.hk T.hs T.ha T.hn T.htk T.hm) I.kIn J e (fun z => nomatch z) fun tk => ⟨.bl b, H, I.tok tk, rfl, q⟩
end
/-- an object of the heap is tracked from now on -/
theorem inv_track {X : Cx} {pins : List (Addr × Obj)} {σ : L2.St} {H : Hp} {s : Shared} {a : Addr} {o : HO} (I : Inv X pins σ H s) (hn : H a = none) (n0 : X.s_0.heap.get? a = none) (nL : a ≠ X.env.locals) (nC : ∀ x c, X.env.cells.lookup x = some c → c ≠ a) (nP : ∀ p ∈ X.pn ++ pins, p.1 ≠ a)
    (ok : ObjOk X.prog X.w (upd H a o) s.heap a o) : Inv X pins σ (upd H a o) s := by
  have ne : ∀ {b : Addr} {u : HO}, H b = some u → b ≠ a := fun e => ne_of_none e hn
  refine ⟨I.ok, I.os, I.bare, ⟨I.base.keep, I.base.slot, fun b u e n hx => ?_, I.base.there, fun b xs e => ?_, fun b u v e => ?_, fun b ps e => ?_⟩, I.loc, I.cell, ?_, fun x c e => ?_, fun p hp => ?_, fun b u e => ?_, I.len⟩
  · rw [upd_ne (fun z => by rw [z, n0] at e; cases e)]
    exact I.base.free b u e n hx
  · have z := I.base.tups b xs e
    rw [upd_ne (ne z)]
    exact z
  · have z := I.base.frzs b u v e
    rw [upd_ne (ne z)]
    exact z
  · obtain ⟨more, z⟩ := I.base.tbls b ps e
    exact ⟨more, by rw [upd_ne (ne z)]; exact z⟩
  · rw [upd_ne nL.symm]
    exact I.free
  · rw [upd_ne (nC x c e)]
    exact I.freeC x c e
  · obtain ⟨z1, z2, z3⟩ := I.pin p hp
    exact ⟨z1, by rw [upd_ne (nP p hp)]; exact z2, z3⟩
  · by_cases hb : b = a
    · subst hb
      rw [upd_same] at e
      cases e
      exact ok
    · rw [upd_ne hb] at e
      exact (I.hok b u e).stay (fun _ _ _ q => q) (fun c hc => by rw [upd_ne (ne hc)]; exact hc) (fun c xs hc => by rw [upd_ne (ne hc)]; exact hc)
/-- what the clause wishes of an error of the body; behind the suite the error stands as a value -/
def wAsK (K : PySem.W.Frag) (c : Value) (i : Nat) (ts : Addr → Value → Option Addr → TS) (Wout : WX) (D : Ends) : WX := fun cls d σ H =>
  ∃ b, PySem.W.exmOne K cls c = some b ∧ (b = true → ∃ C dd, cls = .ref C ∧ d = some dd ∧ ∀ a, H a = none → ts a cls d { nx := fun σ' H' => H' a = none → D.nx (σ'.set i none) (upd H' a (exk a C dd)), rt := D.rt, bk := fun σ' H' => D.bk (σ'.set i none) H', ct := fun σ' H' => D.ct (σ'.set i none) H' } (σ.set i (some (.ref a))) H) ∧
    (b = false → Wout cls d σ H)
section
variable {X : Cx} {x n : Str} {c : Value} {i : Nat} {body suite : List Stmt} {b₀ : Stmt} {np pos pos' : Pos} {tb : WX → TS} {ts : Addr → Value → Option Addr → TS} {Wout : WX}
theorem ps_try_keep (hex : X.ex = []) (hs : X.stack = X.env :: X.outer) (hf : X.env.frame = some X.env.locals) (hN : X.N.Nodup) (hi : X.N[i]? = some n) (hln : X.env.kindOf n = some .local) (hc : Names X x c) (tk : Takes X Wout)
    (hb : ∀ (W : WX) (pn : List (Addr × Obj)) (xe : Value → Shared → Prop), Takes (X.tr pn xe) W → PassesOwn (model X.prog X.w) X.A X.env xe → PSs (X.tr pn xe) body (tb W))
    (hsu : ∀ (a : Addr) (oe : Obj) (cls : Value) (d : Option Addr) (pn : List (Addr × Obj)), Zc cls d oe → (∃ vs, oe.data = .fields vs) → PSs (X.suite a ((a, oe) :: pn)) (b₀ :: suite) (ts a cls d)) :
    PS X (.Try body [.ExceptHandler (some (.Name x np)) (some n) (b₀ :: suite) pos'] [] [] pos) (fun D σ H => tb (wAsK X.K c i ts Wout D) D σ H) := by
  refine ⟨fun pins s σ H D I h => ?_⟩
  have ok := I.ok
  have hfr : X.A.frames = some (X.env :: X.outer) := by rw [ok.frames, hs]
  have hloc : Loc X.env.scope n := .inl hln
  refine wpAny_Try_except ?_
  refine wpAny_mono ((hb (wAsK X.K c i ts Wout D) (X.pn ++ pins) (fun e s₁ => wpAny (model X.prog X.w) X.A (noteFrame e X.env) (fun _ s₂ => wpAny (model X.prog X.w) X.A (setFlight e none) (fun _ s₃ =>
    wpAny (model X.prog X.w) X.A (handleBy e X.env [.ExceptHandler (some (.Name x np)) (some n) (b₀ :: suite) pos']) (SP X pins D) X.xe s₃) X.xe s₂) X.xe s₁) (fun u s' xx => ?_) PassesOwn.looking).run [] s σ H D (I.toTry _) h) (fun f s1 hsp => ?_) (fun e s1 he => he)
  · -- the catch
    obtain ⟨a, B, sI, pins', σ', H', cls, d, rfl, J', nb, up, sky, na, os, ag, b, hb1, hyes, hno⟩ := xx
    have nB : B.get? a = none := by
      rcases sky with z | z | z
      · exact z.2.1
      · exact z.2.1
      · exact z.2.1
    have J : Inv X pins σ' H' sI := J'.ofTry ok
    have sky' : Sky B (X.env :: X.outer) a (Zc cls d) X.env.locals s'.heap := by rw [← hs]; exact sky
    show wpAny (model X.prog X.w) X.A (noteFrame (.ref a) X.env) _ _ _
    refine Sky.land Zc.steady hfr hf sky' fun h3 fl3 up3 => ?_
    have J3 : Inv X pins σ' H' { s' with heap := h3 } := J.landed nb fl3.1 (up.trans up3) os ag
    obtain ⟨oe3, vs3, he3, hz3, hd3⟩ := fl3.there
    have notFr : ∀ {h : Heap} {o : Obj} {vs : Array Value}, h.FunFrames B (X.env :: X.outer) → h.get? a = some o → o.data = .fields vs → a ∉ frs (X.env :: X.outer) := fun {h o vs} ff e dd hm => by
      obtain ⟨_, o', e', hnf⟩ := ff.mem hm
      rw [e] at e'; cases e'
      exact hnf _ dd
    have nfr := notFr fl3.2.2.1 he3 hd3
    have nL : a ≠ X.env.locals := fun z => nfr (List.mem_filterMap.mpr ⟨X.env, List.mem_cons_self, by rw [hf, z]⟩)
    have nF : a ∉ X.fs := fun hm => by
      obtain ⟨e, he, q⟩ := List.mem_filterMap.mp hm
      exact nfr (List.mem_filterMap.mpr ⟨e, List.mem_cons_of_mem _ he, q⟩)
    have nsI : sI.heap.get? a = none := by
      cases q : sI.heap.get? a with
      | none => rfl
      | some o =>
        have z := nb a o q (by rw [hs]; exact nfr)
        rw [nB] at z
        cases z
    have n0 : X.s_0.heap.get? a = none := by
      cases q : X.s_0.heap.get? a with
      | none => rfl
      | some o =>
        obtain ⟨o', z⟩ := J.base.there a o q (by rw [hex]; simp)
        rw [nsI] at z
        cases z
    have nP : ∀ p ∈ X.pn ++ pins, p.1 ≠ a := fun p hp z => by
      have y := (J.pin p hp).1
      rw [z, nsI] at y
      cases y
    have nC : ∀ x c, X.env.cells.lookup x = some c → c ≠ a := fun x c hx z => by
      obtain ⟨v, y⟩ := J.cell x c hx
      obtain ⟨o, y1, _⟩ := y
      rw [z, nsI] at y1
      cases y1
    have S3 := J3.suite he3 hd3 na nL nF
    refine wpAny_handleBy_cons (codeAny_handlers_test ?_) (by intro q; cases q)
    have LT : PySem.W.Looks (model X.prog X.w) h3 (typeOf (.ref a)) cls := fun A Q E s k q => wpAny_typeOf_ref (k _ _ he3) (by rw [hz3.1]; exact q)
    have LM := PySem.W.exm_one (M := model X.prog X.w) (J3.kIn) LT hb1
    have test : ∀ {Q : Value → Shared → Prop} {E : Value → Shared → Prop}, Q c { s' with heap := h3 } → wpAny (model X.prog X.w) (X.A.mark (some (.ref a))) (eval (.Name x np) X.env) Q E { s' with heap := h3 } := fun {Q E} q => by
      obtain ⟨hg, hdbg, hm | ⟨hm, hv, hnn⟩⟩ := hc
      · exact ld_glob (X := X.suite a ((a, oe3) :: (X.pn ++ pins))) S3 hg hm q hdbg
      · exact ld_blt (X := X.suite a ((a, oe3) :: (X.pn ++ pins))) S3 hg hm hv q hnn hdbg
    refine test (LM.here ?_)
    cases b with
    | true =>
      refine codeAny_handlers_suite_as ?_
      obtain ⟨C, dd, ecls, edd, hys⟩ := hyes rfl
      subst ecls
      subst edd
      refine HandSPX.lands_againZ fl3 fun h4 fl4 up4 => ?_
      have J4 : Inv X pins σ' H' { s' with heap := h4 } := J.landed nb fl4.1 ((up.trans up3).trans up4) os ag
      obtain ⟨oe4, vs4, he4, hz4, hd4⟩ := fl4.there
      have S4 := J4.suite he4 hd4 na nL nF
      refine store_ok (X := X.suite a ((a, oe4) :: (X.pn ++ pins))) (v := .ref a) S4 hN hi hloc rfl (fun s5 S5 => ?_) (.inr hln)
      refine wpAny_mono ((hsu a oe4 _ _ (X.pn ++ pins) hz4 ⟨_, hd4⟩).run [] s5 _ H' _ S5 (hys a na)) (fun f s6 hsp => ?_) (fun _ _ z => False.elim z)
      have end_ : ∀ {σ6 : L2.St} {H6 : Hp} {Q : Shared → Prop}, Inv (X.suite a ((a, oe4) :: (X.pn ++ pins))) [] σ6 H6 s6 → (∀ s7, Inv X pins (σ6.set i none) H6 s7 → Q s7) →
          wpAny (model X.prog X.w) X.A (do bindName X.env n .none; unbindBehindTheSuite X.env n pos') (fun _ s7 => Q s7) X.xe s6 := fun {σ6 H6 Q} S6 hq => gone_ok (S6.unsuite ok) hN hi hln hq
      cases f with
      | next =>
        obtain ⟨σ6, H6, S6, q6⟩ := hsp
        obtain ⟨ha6, hn6, _⟩ := S6.pin (a, oe4) (List.mem_append_left _ List.mem_cons_self)
        have J6 : Inv X pins σ6 (upd H6 a (exk a C dd)) s6 := inv_track (S6.unsuite ok) hn6 n0 nL nC nP (exk_ok ha6 hz4.1 hz4.2 hd4)
        exact gone_ok J6 hN hi hln fun s7 J7 => ⟨_, _, J7, q6 hn6⟩
      | brk =>
        obtain ⟨σ6, H6, S6, q6⟩ := hsp
        exact end_ S6 fun s7 J7 => ⟨_, _, J7, q6⟩
      | cont =>
        obtain ⟨σ6, H6, S6, q6⟩ := hsp
        exact end_ S6 fun s7 J7 => ⟨_, _, J7, q6⟩
      | ret u =>
        obtain ⟨v6, σ6, H6, S6, r6, q6⟩ := hsp
        exact end_ S6 fun s7 J7 => ⟨_, _, _, J7, r6, q6⟩
    | false =>
      show wpAny _ X.A (handleBy (.ref a) X.env []) _ _ _
      refine wpAny_handleBy_nil ?_
      obtain ⟨k1, k2, k3, oe, vs, T, oT, ts', he, hz, hd, h1, hr⟩ := id fl3
      unfold PySem.passOn
      refine wpAny_bind (wpAny_field he hd h1 ?_)
      rw [if_neg (show ¬ ((Value.ref T == Value.none) = true) from by simp)]
      have fin : wpAny (model X.prog X.w) X.A (setFlight (.ref a) X.env.frame) (fun _ s4 => wpAny (model X.prog X.w) X.A (throw (.ref a) : Sem Flow) (SP X pins D) X.xe s4) X.xe { s' with heap := h3 } := by
        rw [hf]
        refine HandSPX.setFlight_upZ fl3 fun h4 hh4 up4 => wpAny_throw (tk _ _ ?_)
        exact ⟨a, B, sI, pins, σ', H', cls, d, rfl, J, nb, (up.trans up3).trans up4, .inr (.inr (by rw [hs]; exact hh4)), na, os, ag, hno rfl⟩
      first
        | exact wpAny_bind (wpAny_pure (wpAny_bind fin))
        | exact wpAny_bind fin
  · cases f with
    | next =>
      obtain ⟨σ', H', J', q⟩ := hsp
      exact wpAny_execs_nil ⟨σ', H', J'.ofTry ok, q⟩
    | brk =>
      obtain ⟨σ', H', J', q⟩ := hsp
      exact ⟨σ', H', J'.ofTry ok, q⟩
    | cont =>
      obtain ⟨σ', H', J', q⟩ := hsp
      exact ⟨σ', H', J'.ofTry ok, q⟩
    | ret u =>
      obtain ⟨v, σ', H', J', r, q⟩ := hsp
      exact ⟨v, σ', H', J'.ofTry ok, r, q⟩
end
end Gh

set_option Elab.async false
set_option linter.all false
set_option maxRecDepth 100000
set_option maxHeartbeats 4000000
/-! Gt: heads and ends of laws with lambdas: the tables of the defs' code objects. -/
namespace Gh
open PySem PySem.Spec PyProof.Rows L2
/-- what the head tells: the facts, and of the defs tf their code objects' tables: empty, not in K -/
structure SaysT (ex : List (PySem.W.Frag → Bool)) (fn : List Df) (tf : List He.Defn) (h : Heap) (K : PySem.W.Frag) : Prop where
  t : Says ex fn K
  hd : ∀ p ∈ tf, PySem.W.codeHdIn K (He.cT K p).1 (He.cT K p).2 = true
  out : ∀ p ∈ tf, K.lookup (He.cT K p).2 = none
  empty : ∀ p ∈ tf, h.get? (He.cT K p).2 = some { cls := .none, data := .fields #[] }
/-- the addresses of the fragment: what hangs on the globals, and the interpreter's own statics (a class's attributes are read by them) -/
def asS (g : Addr → Option Obj) (n : Nat) : List Addr := He.asD g n ++ [cStatics]
abbrev AlT : Type := Al × Bool
def obsT (n : Nat) (ex : List (PySem.W.Frag → Bool)) (fn : List Df) (tf : List He.Defn) (g : Addr → Option Obj) : AlT := (obs ex fn (He.frT g (asS g n)), He.tabsB g tf (He.frT g (asS g n)))
theorem saysT_of {n : Nat} {ex : List (PySem.W.Frag → Bool)} {fn : List Df} {tf : List He.Defn} {h : Heap} (e : obsT n ex fn tf h.get? = (val fn, true)) : SaysT ex fn tf h (He.frT h.get? (asS h.get? n)) := by
  have e1 : obs ex fn (He.frT h.get? (asS h.get? n)) = val fn := congrArg (fun z : AlT => z.1) e
  have e2 : He.tabsB h.get? tf (He.frT h.get? (asS h.get? n)) = true := congrArg (fun z : AlT => z.2) e
  have key : ∀ p ∈ tf, PySem.W.codeHdIn (He.frT h.get? (asS h.get? n)) (He.cT (He.frT h.get? (asS h.get? n)) p).1 (He.cT (He.frT h.get? (asS h.get? n)) p).2 = true ∧ ∃ o, h.get? (He.cT (He.frT h.get? (asS h.get? n)) p).2 = some o ∧ He.emptyTab o = true := fun p hp => by
    obtain ⟨h3, h4⟩ := He.ba (List.all_eq_true.mp e2 p hp)
    refine ⟨h3, ?_⟩
    cases q : h.get? (He.cT (He.frT h.get? (asS h.get? n)) p).2 with
    | none =>
      rw [q] at h4
      cases h4
    | some o =>
      rw [q] at h4
      exact ⟨o, rfl, h4⟩
  exact ⟨e1, fun p hp => (key p hp).1, fun p hp => by
    obtain ⟨_, o, q, z⟩ := key p hp
    exact He.frT_none q z, fun p hp => by
    obtain ⟨_, o, q, z⟩ := key p hp
    rw [q, He.emptyTab_eq z]⟩
def hookT (n : Nat) (ex : List (PySem.W.Frag → Bool)) (fn : List Df) (tf : List He.Defn) : PySem.W.Hook where
  α := AlT
  obs := fun s => obsT n ex fn tf s.heap.get?
  val := fun _ => (val fn, true)
  says := fun _ h => ∃ K : PySem.W.Frag, K.In h ∧ SaysT ex fn tf h K
  of := fun _ _ e => ⟨_, He.frT_in, saysT_of e⟩
  keeps := fun _ _ _ ⟨K, hK, c⟩ k => ⟨K, PySem.W.Frag.In.keeps hK k, ⟨c.t, c.hd, c.out, fun p hp => k _ _ (c.empty p hp)⟩⟩
theorem obsT_eq {n : Nat} {ex : List (PySem.W.Frag → Bool)} {fn : List Df} {tf : List He.Defn} {g : Addr → Option Obj} {s : Shared} (h : ∀ a, g a = s.heap.get? a) : obsT n ex fn tf g = (hookT n ex fn tf).obs s := by
  have e : g = s.heap.get? := funext h
  rw [e] <;> rfl
theorem law_callTsG {P : Program} {w : World} {K : PySem.W.Frag} {mg mb : Str → Option Value} {CX : CXT} {k : Nat} {fa a : Addr} {cs : List (Addr × Addr)} {fd : FuncData} {x : Str} {sp : Sp} {s₁ : Shared} {vs : List Value} {ns : List Int}
    (KX : K.In s₁.heap) (hns : s₁.heap.Ns mainGlobals mg) (hb : s₁.heap.Ns builtinsNs mb) (hbb : ∀ x : Str, x ≠ "__name__" → mb x = bootBuiltins x) (hlim : s₁.heap.NoLimit) (hg : s₁.gens = #[])
    (hT : ∀ p ∈ cs, s₁.heap.get? p.2 = some { cls := .none, data := .fields #[] }) (nT : ∀ p ∈ cs, K.lookup p.2 = none) (C : ∀ p ∈ cs, PySem.W.CodeHd s₁.heap p.1 p.2)
    (hbm : ∃ (bm : Addr) (ob : Obj), mg "__builtins__" = some (.ref bm) ∧ bm ≠ builtinsNs ∧ s₁.heap.get? bm = some ob ∧ ob.cls = .type "module" ∧ ob.dict = some builtinsNs ∧ ob.data = .plain)
    (ha : s₁.heap.get? a = some { cls := .type "list", data := .seq vs.toArray }) (hi : IntsAre vs ns) (hl : ns.length ≤ sizeLine) (hr : Room k callerA)
    (F : ∀ base : Heap, K.In base → base.Ns mainGlobals mg → (∀ p ∈ cs, LamX.TabB base mg p.1 p.2) → FnG P w K mg base CX k fa fd [x] sp) (hbind : ∀ (s : Shared) (u : Value), BindsTo s fd ⟨[u], []⟩ [(x, u)])
    (hsp : ∀ H : Hp, (∀ p ∈ cs, H p.2 = some (.tbl #[])) → SqL K H a (ns.map V.int) → sp [.ref a] H (fun v _ => v = .bl true) fun _ _ _ => False)
    (hCX : ∀ H e s', CX [] H s₁ (fun _ _ _ => False) e s' → False) :
    codeAny (model P w) callerA (.call (.ref fa) ⟨[.ref a], []⟩) (fun r s' => r = .ok (.ret (.bool true)) ∧ OldK s₁.heap s'.heap ∧ s'.os = s₁.os ∧ AllBare s'.gens) s₁ := by
  have rv := vals_ints hi
  have lenV := hi.length
  have isT : ∀ b : Addr, b ∈ cs.map (·.2) → s₁.heap.get? b = some { cls := .none, data := .fields #[] } := fun b hb => by
    obtain ⟨p, hp, e⟩ := List.mem_map.mp hb
    rw [← e]
    exact hT p hp
  have aT : a ∉ cs.map (·.2) := fun z => by
    have q := isT a z
    rw [ha] at q
    have z' : Data.seq vs.toArray _ = Data.fields #[] := congrArg Obj.data (Option.some.inj q)
    cases z'
  have memT : ∀ p ∈ cs, p.2 ∈ cs.map (·.2) := fun p hp => List.mem_map.mpr ⟨p, hp, rfl⟩
  -- from an abstract heap in which nothing but the script and the tables may be tracked
  have core : ∀ H : Hp, (∀ p ∈ cs, H p.2 = some (.tbl #[])) → (∀ b, H b = none ∨ b ∈ cs.map (·.2) ∨ ∃ o xs, H b = some (.frz o (.lst xs))) → SqL K H a (ns.map V.int) → HOk P w H s₁.heap → (∀ b, H b ≠ none → b = a ∨ b ∈ cs.map (·.2)) → (H a ≠ none → K.lookup a = none) →
      codeAny (model P w) callerA (.call (.ref fa) ⟨[.ref a], []⟩) (fun r s' => r = .ok (.ret (.bool true)) ∧ OldK s₁.heap s'.heap ∧ s'.os = s₁.os ∧ AllBare s'.gens) s₁ := by
    intro H hH hO hS hok hA hK
    have base_of : ∀ {b : Addr} {o : Obj}, s₁.heap.get? b = some o → H b = none → (hidT s₁.heap H).get? b = some o := fun e n => hidT_get e n
    have noD : ∀ {b : Addr} {o : Obj}, s₁.heap.get? b = some o → (∀ vs n, o.data ≠ .seq vs n) → o.data ≠ .fields #[] → H b = none := fun {b o} e h1 h2 => by
      cases q : H b with
      | none => rfl
      | some u =>
        rcases hA b (by rw [q]; simp) with e' | e'
        · rw [e', ha] at e
          cases e
          exact (h1 _ _ rfl).elim
        · rw [isT b e'] at e
          cases e
          exact (h2 rfl).elim
    have noA : ∀ {b : Addr} {o : Obj} {es : Array DictEntry} {ep : Nat}, s₁.heap.get? b = some o → o.data = .dict es ep → H b = none := fun {b o es ep} e d => by
      refine noD e (fun vs n z => ?_) fun z => ?_
      · rw [d] at z
        cases z
      · rw [d] at z
        cases z
    have nsK : ∀ {b : Addr} {m : Str → Option Value}, s₁.heap.Ns b m → (hidT s₁.heap H).Ns b m := fun {b m} ⟨o, es, ep, e, d, r⟩ => ⟨o, es, ep, base_of e (noA e d), d, r⟩
    have hKb : K.In (hidT s₁.heap H) := fun b o e => base_of (KX b o e) (by
      cases q : H b with
      | none => rfl
      | some u =>
        rcases hA b (by rw [q]; simp) with e' | e'
        · rw [e'] at e q
          rw [hK (by rw [q]; simp)] at e
          cases e
        · obtain ⟨p, hp, ep⟩ := List.mem_map.mp e'
          rw [← ep, nT p hp] at e
          cases e)
    have hM : L2.Mod K mg (hidT s₁.heap H) := ⟨hKb, nsK hns, ⟨mb, nsK hb, hbb⟩, let ⟨mc, h1, h2⟩ := hlim; ⟨mc, nsK h1, h2⟩⟩
    have TB : ∀ p ∈ cs, LamX.TabB (hidT s₁.heap H) mg p.1 p.2 := fun p hp => by
      have hTp := hT p hp
      refine ⟨?_, ?_, fun z => ?_⟩
      · obtain ⟨o, us, file, tf, flags, tg, inF, text, tt, e1, r1, r2, r3, r4, r5, r6, r7, r8, hne⟩ := C p hp
        refine ⟨o, us, file, tf, flags, tg, inF, text, tt, base_of e1 (noD e1 (fun vs n z => ?_) fun z => ?_), r1, r2, r3, r4, r5, r6, r7, r8, hne⟩
        · rw [r2] at z
          cases z
        · rw [r2] at z
          cases z
          simp at r3
      · obtain ⟨bm, ob, b1, b2, b3, b4, b5, b6⟩ := hbm
        have nG : bm ≠ mainGlobals := fun q => by
          obtain ⟨o, es, ep, e, hd, _⟩ := hns
          rw [q, e] at b3
          cases b3
          rw [hd] at b6
          cases b6
        have nP : bm ≠ p.2 := fun q => by
          rw [q, hTp] at b3
          cases b3
          cases b6
        refine ⟨bm, ob, b1, b2, nG, nP, base_of b3 (noD b3 (fun vs n z => ?_) fun z => ?_), b4, b5, b6⟩
        · rw [b6] at z
          cases z
        · rw [b6] at z
          cases z
      · obtain ⟨o, es, ep, e, hd, _⟩ := hns
        rw [z, hTp] at e
        cases e
        cases hd
    have e0 : Env0 P w K mg (hidT s₁.heap H) callerA [] s₁ H := ⟨rfl, hM, fun b o e => of_hidT e, Nat.le_of_eq (hidT_size _ _), trivial, fun b hb => absurd (show b ∈ ([] : List Addr) from hb) (by simp), hok, .of_eq hg⟩
    refine codeAny_mono ((F _ hKb (nsK hns) TB).run callerA [] s₁ H ⟨[.ref a], []⟩ [.ref a] [.ref a] _ _ hr rfl e0 (hbind s₁ (.ref a)) (.cons rfl .nil) (hsp H hH hS)) fun r s' h => ?_
    cases r with
    | error e => exact (hCX H e s' h).elim
    | ok fl =>
      cases fl with
      | next => exact False.elim h
      | brk => exact False.elim h
      | cont => exact False.elim h
      | ret u =>
        obtain ⟨v, H', os, bare, un, hok', r', q⟩ := h
        have q' : v = .bl true := q
        subst q'
        obtain rfl : u = Value.bool true := r'
        have key : ∀ b o, b ∉ cs.map (·.2) → s₁.heap.get? b = some o → s'.heap.get? b = some o := fun b o nb e => by
          cases q : H b with
          | none => exact un.keep b o e q (by intro z; exact absurd (show b ∈ ([] : List Addr) from z) (by simp)) (by simp)
          | some u =>
            rcases hO b with z | z | ⟨ob, xs, z⟩
            · rw [q] at z; cases z
            · exact absurd z nb
            · have z2 := un.frzs b ob _ z
              obtain ⟨e1, _⟩ := hok b _ z
              obtain ⟨e2, _⟩ := hok' b _ z2
              rw [e] at e1; cases e1
              exact e2
        have grown : ∀ p ∈ cs, ∃ more : Array Value, s'.heap.get? p.2 = some { cls := .none, data := .fields more } := fun p hp => by
          obtain ⟨more, z⟩ := un.tbls p.2 #[] (hH p hp)
          exact ⟨_, hok' p.2 _ z⟩
        refine ⟨rfl, ⟨fun b o e => ?_, fun b o e => ?_⟩, os, bare⟩
        · by_cases hb : b ∈ cs.map (·.2)
          · obtain ⟨p, hp, ep⟩ := List.mem_map.mp hb
            obtain ⟨more, hm⟩ := grown p hp
            rw [← ep] at e ⊢
            rw [hT p hp] at e
            cases e
            exact .inr (.inl ⟨((C p hp).tab (hT p hp)).isCodeTable, rfl, #[], more, rfl, by rw [Array.empty_append]; exact hm⟩)
          · exact .inl (key b o hb e)
        · by_cases hb : b ∈ cs.map (·.2)
          · obtain ⟨p, hp, ep⟩ := List.mem_map.mp hb
            obtain ⟨more, hm⟩ := grown p hp
            rw [← ep]
            exact ⟨_, hm⟩
          · exact ⟨o, key b o hb e⟩
  cases hk : K.lookup a with
  | some o =>
    have e := KX a o hk
    rw [ha] at e
    cases e
    refine core (fun b => if b ∈ cs.map (·.2) then some (.tbl #[]) else none) (fun p hp => if_pos (memT p hp)) (fun b => ?_) (.inr ⟨_, vs.toArray, _, hk, rfl, rfl, rfl, by rw [List.size_toArray, lenV]; exact hl, by simpa using rv⟩) (fun b u z => ?_) (fun b z => ?_) fun z => absurd (show (if a ∈ cs.map (·.2) then some (HO.tbl #[]) else none) = none from if_neg aT) z
    · by_cases hb : b ∈ cs.map (·.2)
      · exact .inr (.inl hb)
      · exact .inl (if_neg hb)
    · by_cases hb : b ∈ cs.map (·.2)
      · have z' := (if_pos hb).symm.trans z
        cases z'
        exact isT b hb
      · have z' := (if_neg hb).symm.trans z
        cases z'
    · by_cases hb : b ∈ cs.map (·.2)
      · exact .inr hb
      · exact absurd (if_neg hb) z
  | none =>
    refine core (fun b => if b = a then some (.frz { cls := .type "list", data := .seq vs.toArray } (.lst (ns.map V.int))) else if b ∈ cs.map (·.2) then some (.tbl #[]) else none) (fun p hp => (if_neg (show ¬ p.2 = a from fun z => aT (by rw [← z]; exact memT p hp))).trans (if_pos (memT p hp))) (fun b => ?_)
      (.inl (.inr ⟨{ cls := .type "list", data := .seq vs.toArray }, if_pos rfl⟩)) (fun b u z => ?_) (fun b z => ?_) fun _ => hk
    · by_cases hb : b = a
      · exact .inr (.inr ⟨_, _, if_pos hb⟩)
      · by_cases hb2 : b ∈ cs.map (·.2)
        · exact .inr (.inl hb2)
        · exact .inl ((if_neg hb).trans (if_neg hb2))
    · by_cases hb : b = a
      · have z' := (if_pos hb).symm.trans z
        cases z'
        rw [hb]
        exact ⟨ha, by rw [List.length_map]; exact hl, vs, _, rv, ha⟩
      · have z1 := (if_neg hb).symm.trans z
        by_cases hb2 : b ∈ cs.map (·.2)
        · have z' := (if_pos hb2).symm.trans z1
          cases z'
          exact isT b hb2
        · have z' := (if_neg hb2).symm.trans z1
          cases z'
    · by_cases hb : b = a
      · exact .inl hb
      · by_cases hb2 : b ∈ cs.map (·.2)
        · exact .inr hb2
        · exact absurd ((if_neg hb).trans (if_neg hb2)) z
theorem walk_ofTsG {l : PySem.W.OpenLaw} {n k : Nat} {q : Program} {loose : List Str} {XP : (Str → Option Value) → Heap → Prop} {YP : World → Heap → Prop} {d : DefRec} {CX : World → CXT} {x : Str}
    (hn : l.most = some n) (hn2 : n ≤ sizeLine) (hdf : d.params.defaults = []) (hr : Room k callerA)
    (F : ∀ (w : World) (mg : Str → Option Value) (fa : Addr) (h : Heap), YP w h → h.Ns mainGlobals mg → mg d.name = some (.ref fa) →
      ∃ (K : PySem.W.Frag) (fd : FuncData) (cs : List (Addr × Addr)) (sp : Sp), K.In h ∧ (∀ p ∈ cs, h.get? p.2 = some { cls := .none, data := .fields #[] }) ∧ (∀ p ∈ cs, K.lookup p.2 = none) ∧ (∀ p ∈ cs, PySem.W.CodeHd h p.1 p.2) ∧
        (∀ (s : Shared) (u : Value), BindsTo s fd ⟨[u], []⟩ [(x, u)]) ∧
        (∀ (H : Hp) (a : Addr) (ns : List Int), ns.length ≤ n → (∀ p ∈ cs, H p.2 = some (.tbl #[])) → SqL K H a (ns.map V.int) → sp [.ref a] H (fun v _ => v = .bl true) fun _ _ _ => False) ∧
        ∀ base : Heap, K.In base → base.Ns mainGlobals mg → (∀ p ∈ cs, LamX.TabB base mg p.1 p.2) → FnG l.prog w K mg base (CX w) k fa fd [x] sp)
    (hCX : ∀ (w : World) (H : Hp) (s : Shared) (e : Value) (s' : Shared), CX w [] H s (fun _ _ _ => False) e s' → False) :
    PySem.W.WalkO q loose XP YP l.row.toRowW d [] (fun f vs => PySem.call f vs) := by
  refine Att.attach_call hn hdf fun w s₀ s₁ mg mb fa o pm cd doc a vs ns G Y ho hd hcd hmg hobj hints hlen hg => ?_
  obtain ⟨K, fd, cs, sp, KX, hT, nT, C, hb, hsp, hF⟩ := F w mg fa _ Y G.T.g hmg
  exact law_callTsG KX G.T.g G.T.b G.T.builtins G.T.nolimit hg hT nT C G.T.bmain hobj hints (Nat.le_trans hlen hn2) hr hF hb (fun H hH hS => hsp H a ns hlen hH hS) fun H e s' => hCX w H s₁ e s'
end Gh

set_option Elab.async false
set_option linter.all false
set_option maxRecDepth 100000
set_option maxHeartbeats 4000000
/-! Px: promises that hold whatever is being shown (FnOk), calls by them; errors made and raised; kinds of values. -/
namespace Gh
open PySem PySem.Spec PyProof.Rows L2
/-- as Prom, of FnOk -/
def PromO (P : Program) (w : World) (K : PySem.W.Frag) (mg : Str → Option Value) (base : Heap) (CX : CXT) (k : Nat) (f : Addr) (dvs : List V) (sp : Sp) : Prop :=
  ∃ (fd : FuncData) (ps : List Str) (ds : List Value), FnOk P w K mg base CX k f fd ps sp ∧ Binds K fd ps ds ∧ Vals dvs ds
theorem FnOk.toG {P : Program} {w : World} {K : PySem.W.Frag} {mg : Str → Option Value} {base : Heap} {CX : CXT} {k : Nat} {f : Addr} {fd : FuncData} {ps : List Str} {sp : Sp} (F : FnOk P w K mg base CX k f fd ps sp) : FnG P w K mg base CX k f fd ps sp :=
  ⟨F.len, fun A o s H a us vs Q E hr _ => F.run A o s H a us vs Q E hr⟩
theorem PromO.toG {P : Program} {w : World} {K : PySem.W.Frag} {mg : Str → Option Value} {base : Heap} {CX : CXT} {k : Nat} {f : Addr} {dvs : List V} {sp : Sp} (F : PromO P w K mg base CX k f dvs sp) : Prom P w K mg base CX k f dvs sp := by
  obtain ⟨fd, ps, ds, G, b, v⟩ := F
  exact ⟨fd, ps, ds, FnOk.toG G, b, v⟩
/-- a def that lets no error out -/
theorem fnO0 {P : Program} {w : World} {K : PySem.W.Frag} {mg : Str → Option Value} {base : Heap} {CX : CXT} {k : Nat} {f : Addr} {fd : FuncData} {ps : List Str} {sp : Sp} {dvs : List V} {x qual : Str} {params : Arguments} {body : List Stmt} {scope : Scope} {kws : List (Str × V)} {N : List Str}
    (F : FunD K x qual params body scope dvs kws f fd) (S : FnScope N ps scope) (len : ∀ vs H Q E, sp vs H Q E → vs.length = ps.length)
    (hbody : ∀ (cdv : Value) (A : Around) (outer : List Env) (s : Shared) (H : Hp) (vs : List V) (Q : VK) (E : XK), Room k (A.deeper (envOfC qual scope s.heap.objs.size f cdv)) → sp vs H Q E →
      ∃ t, PSs (cxOf CX P w K mg base N qual scope f cdv A outer s H E).nox body t ∧ t { nx := fun _ H' => Q .non H', rt := Q } (start N vs) H) : FnOk P w K mg base CX (k + 1) f fd ps sp :=
  F.ok S len fun cdv A outer s H vs Q E hr h => by
    obtain ⟨t, ht, q⟩ := hbody cdv A outer s H vs Q E hr h
    exact ⟨t, PSs.nox ht, q⟩
section
variable {X : Cx} {CX : CXT} {k : Nat} {f g C : Addr} {sp : Sp} {dvs : List V} {E : XK} {m : Str} {pos : Pos} {o : Expr} {ta : TE}
abbrev PromOX (X : Cx) (CX : CXT) (k : Nat) (f : Addr) (dvs : List V) (sp : Sp) : Prop := PromO X.prog X.w X.K X.mg X.base CX k f dvs sp
theorem PromO.call (F : PromOX X CX k f dvs sp) (hr : Room k X.A) (hx : Passes CX X E) : CallR X (.ref f) (rSp sp dvs E) := by
  intro pins s σ H xs us Q I r h
  obtain ⟨fd, ps, ds, G, b, hd⟩ := F
  exact run_fn G hr b hd hx I r h
theorem PromO.make (M : Mk X.K C f) (F : PromOX X CX k f dvs sp) (hr : Room (k + 1) X.A) (hx : Passes CX X E) : CallR X (.ref C) (rMk C sp dvs E) := by
  intro pins s σ H vs us Q I r h
  unfold rMk at h
  obtain ⟨fd, ps, ds, G, b, hd⟩ := F
  exact run_make M G hr b hd hx I r h
theorem pe_po {pp : Addr} (he : PE X o ta) (c : Cls X.K C) (hp : PropOf X.K C m pp g) (F : PromOX X CX k g dvs sp) (hr : Room (k + 1) X.A) (hx : Passes CX X.nox E)
    (hab : attributeBase o m X.env (eval o X.env) = eval o X.env := by rfl) : PE X (.Attribute o m pos) (tPr C sp dvs E ta) := by
  obtain ⟨fd, ps, ds, G, b, hd⟩ := F
  exact pe_prop he c hp G hr b hd hx hab
/-- the callee's error is the caller's -/
theorem pass_on (hs : X.stack = X.env :: X.outer) (hf : X.env.frame = some X.env.locals) (hex : X.ex = []) {E₁ : Value → Shared → Prop} (hx : X.xe = fun e s' => wpAny (model X.prog X.w) X.A (leaving X.env e) (fun _ s'' => L2.CX X.prog X.w X.outer X.H_0 X.s_0 E e s'') E₁ s') : Passes (L2.CX X.prog X.w) X E :=
  passes_call (takes_of hs hf hex hx) fun _ _ _ _ h => h
end
/-! ### errors -/
def oexB (x : Str) (K : PySem.W.Frag) : Bool := (match K.lookup (gd x K) with
  | some ⟨.type c, _, .cls ⟨_, _, .ref m :: bm, _, _, hd, _, _, _, _, dl⟩, ⟨[_, _, _, _, some (.builtin n), _]⟩⟩ => decide (c = "type") && (decide (m = gd x K) && (PySem.HandSPX.refsVE bm && (hd && (!dl && decide (n = "ValueError.__new__")))))
  | _ => false) && (He.eqO (PySem.W.findIn K (.ref (gd x K)) "__setattr__") (some (some (.builtin "object.__setattr__"))) && (decide (PySem.W.subIn K (.ref (gd x K)) (.type "BaseException") = some true) &&
  (decide (PySem.W.typeIn K (.ref (gd x K)) = some (.type "type")) && PySem.W.keepIn K (.ref (gd x K)))))
theorem oexB_ok {x : Str} {K : PySem.W.Frag} (h : oexB x K = true) : OexC K (gd x K) := by
  obtain ⟨h1, h⟩ := He.ba h
  obtain ⟨h2, h⟩ := He.ba h
  obtain ⟨h3, h⟩ := He.ba h
  obtain ⟨h4, h5⟩ := He.ba h
  refine ⟨?_, He.eqO_ok h2, of_decide_eq_true h3, of_decide_eq_true h4, h5⟩
  split at h1
  · rename_i c dd nm bs m bm ns qn hd sn sb ab col dl k0 k1 k2 k3 n k5 e
    obtain ⟨z1, h1⟩ := He.ba h1
    obtain ⟨z2, h1⟩ := He.ba h1
    obtain ⟨z3, h1⟩ := He.ba h1
    obtain ⟨z4, h1⟩ := He.ba h1
    obtain ⟨z5, z6⟩ := He.ba h1
    have y1 := of_decide_eq_true z1
    have y2 := of_decide_eq_true z2
    have y6 := of_decide_eq_true z6
    have y5 : dl = false := by simpa using z5
    subst y1 y6 y5 z4
    refine ⟨nm, qn, ns, bs, bm, sn, sb, ab, col, dd, k0, k1, k2, k3, k5, ?_, z3⟩
    rw [e, y2]
  · cases h1
/-- an error's __init__ with one field, with two -/
def spErr1 (C : Addr) (f : Str) : Sp := fun vs H Q _ => ∃ (a : Addr) (v : V), vs = [.ref a, v] ∧ H a = some (exo a C none) ∧ ∀ d, H d = none → d ≠ a → Q .non (upd (upd H d (exd d [(f, v)])) a (exo a C (some d)))
def spErr2 (C : Addr) (f g : Str) : Sp := fun vs H Q _ => ∃ (a : Addr) (v u : V), vs = [.ref a, v, u] ∧ H a = some (exo a C none) ∧ ∀ d, H d = none → d ≠ a → Q .non (upd (upd (upd H d (exd d [(f, v)])) a (exo a C (some d))) d (exd d [(g, u), (f, v)]))
theorem mk_err1 {C : Addr} {f : Str} {v : V} {H : Hp} {Q : XK} (h : ∀ d H', L2.Same H H' → H d = none → H' d = some (.xd [(f, v)]) → Q (.ref C) (some d) H') :
    ([v] : List V).length ≤ 1000 ∧ ∀ a, H a = none → spErr1 C f (.ref a :: ([v] ++ [])) (upd H a (exo a C none)) (fun u H2 => u = .non ∧ ∃ (d : Addr) (fs : List (Str × V)), H2 a = some (exo a C (some d)) ∧ H2 d = some (exd d fs) ∧ H d = none ∧ Q (.ref C) (some d) (upd (del H2 a) d (.xd fs))) (fun _ _ _ => False) := by
  refine ⟨by show 1 ≤ 1000; decide, fun a na => ⟨a, v, rfl, upd_same, fun d nd ne => ⟨rfl, d, [(f, v)], upd_same, ?_, ?_, ?_⟩⟩⟩
  · rw [upd_ne ne, upd_same]
  · rw [upd_ne ne] at nd
    exact nd
  · have nd0 : H d = none := by
      rw [upd_ne ne] at nd
      exact nd
    refine h d _ (fun b u e => ?_) nd0 upd_same
    have hb : b ≠ a := ne_of_none e na
    have hd : b ≠ d := ne_of_none e nd0
    rw [upd_ne hd, del_ne hb, upd_ne hb, upd_ne hd, upd_ne hb]
    exact e
/-! ### kinds of values -/
/-- the values that are passed: None, truths, numbers, texts, lists, tuples, dicts -/
inductive Kd (H : Hp) : V → Prop
  | non : Kd H .non
  | bl (b : Bool) : Kd H (.bl b)
  | int (i : Int) : Kd H (.int i)
  | str (x : Str) : Kd H (.str x)
  | lst {a : Addr} {xs : List V} (h : H a = some (.lst xs)) : Kd H (.ref a)
  | tup {a : Addr} {xs : List V} (h : H a = some (.tup xs)) : Kd H (.ref a)
  | dK {a : Addr} {kvs : List (Key × V)} (h : H a = some (.dK kvs)) : Kd H (.ref a)
/-- its class's name -/
theorem Kd.ty {K : PySem.W.Frag} {H : Hp} {v : V} (k : Kd H v) : ∃ n : String, TyX K H v (.type n) ∧ ((∃ i, v = .int i) ∧ n = "int" ∨ (∃ b, v = .bl b) ∧ n = "bool" ∨ (∀ i, v ≠ .int i) ∧ (∀ b, v ≠ .bl b) ∧ n ∈ (["NoneType", "str", "list", "tuple", "dict"] : List String)) := by
  cases k with
  | non => exact ⟨_, .base .non, .inr (.inr ⟨fun _ => nofun, fun _ => nofun, by decide⟩)⟩
  | bl b => exact ⟨_, .base (.bl b), .inr (.inl ⟨⟨b, rfl⟩, rfl⟩)⟩
  | int i => exact ⟨_, .base (.int i), .inl ⟨⟨i, rfl⟩, rfl⟩⟩
  | str x => exact ⟨_, .base (.str x), .inr (.inr ⟨fun _ => nofun, fun _ => nofun, by decide⟩)⟩
  | lst h => exact ⟨_, .base (.lst h), .inr (.inr ⟨fun _ => nofun, fun _ => nofun, by decide⟩)⟩
  | tup h => exact ⟨_, .base (.tup h), .inr (.inr ⟨fun _ => nofun, fun _ => nofun, by decide⟩)⟩
  | dK h => exact ⟨_, .base (.dK h), .inr (.inr ⟨fun _ => nofun, fun _ => nofun, by decide⟩)⟩
theorem Kd.same {H H' : Hp} {v : V} (k : Kd H v) (s : L2.Same H H') : Kd H' v := by
  cases k with
  | non => exact .non
  | bl b => exact .bl b
  | int i => exact .int i
  | str x => exact .str x
  | lst h => exact .lst (s _ _ h)
  | tup h => exact .tup (s _ _ h)
  | dK h => exact .dK (s _ _ h)
def isI : V → Bool
  | .int _ => true
  | _ => false
def withinV (v : V) (a b : Int) : Bool := match v with
  | .int i => decide (a ≤ i) && decide (i ≤ b)
  | _ => false
/-- isinstance(v, int), isinstance(v, bool) -/
theorem Kd.isInt {K : PySem.W.Frag} {H : Hp} {v : V} (k : Kd H v) : ∃ t b, TyX K H v t ∧ PySem.W.kitOne K t (.type "int") = some b ∧ PySem.W.kitOne K t (.type "bool") = some (b && !isI v) ∧ (b = false → isI v = false) := by
  obtain ⟨n, ty, h | h | h⟩ := k.ty (K := K)
  · obtain ⟨⟨i, rfl⟩, rfl⟩ := h
    exact ⟨_, true, ty, kit_ty (by decide +kernel), kit_ty (r := false) (by decide +kernel), fun z => by cases z⟩
  · obtain ⟨⟨b, rfl⟩, rfl⟩ := h
    exact ⟨_, true, ty, kit_ty (by decide +kernel), kit_ty (r := true) (by decide +kernel), fun _ => rfl⟩
  · obtain ⟨h1, h2, h3⟩ := h
    have e : isI v = false := by
      cases v with
      | int i => exact absurd rfl (h1 i)
      | _ => rfl
    refine ⟨_, false, ty, kit_ty ?_, kit_ty (r := false) ?_, fun _ => e⟩
    · revert n
      intro n _ h3
      simp only [List.mem_cons, List.mem_nil_iff, or_false] at h3
      rcases h3 with rfl | rfl | rfl | rfl | rfl <;> decide +kernel
    · revert n
      intro n _ h3
      simp only [List.mem_cons, List.mem_nil_iff, or_false] at h3
      rcases h3 with rfl | rfl | rfl | rfl | rfl <;> decide +kernel
end Gh

set_option Elab.async false
set_option linter.all false
set_option maxRecDepth 100000
set_option maxHeartbeats 4000000
/-! Py: instances called, static methods. -/
namespace Gh
open PySem PySem.Spec PyProof.Rows L2
/-- a static method's def -/
def staG (x m : Str) (K : PySem.W.Frag) : Addr := match PySem.W.recIn K (He.ma K (He.ga K x) m) "staticmethod" with
  | some (.ref g :: _) => g
  | _ => 0
structure StaT (K : PySem.W.Frag) (C : Addr) (m : Str) (p g : Addr) : Prop where
  rd : PySem.W.readsIn K C (.type "type") = true
  ga : PySem.W.specialIn K (.ref C) "__getattribute__" = some (some (.builtin "type.__getattribute__"))
  ty : PySem.W.typeIn K (.ref C) = some (.type "type")
  at_ : PySem.W.findCls K (.ref C) (.type "type") m = some (.get (.builtin "staticmethod.__get__") (.ref p) .none (.ref C))
  rc : ∃ rest, PySem.W.recIn K p "staticmethod" = some (.ref g :: rest)
  kp : PySem.W.keepIn K (.ref g) = true
def staB (x m : Str) (K : PySem.W.Frag) : Bool := PySem.W.readsIn K (gd x K) (.type "type") && (He.eqO (PySem.W.specialIn K (.ref (gd x K)) "__getattribute__") (some (some (.builtin "type.__getattribute__"))) &&
  (decide (PySem.W.typeIn K (.ref (gd x K)) = some (.type "type")) && ((match PySem.W.findCls K (.ref (gd x K)) (.type "type") m with
    | some (.get (.builtin b) (.ref p) .none (.ref C)) => decide (b = "staticmethod.__get__") && (decide (p = He.ma K (He.ga K x) m) && decide (C = gd x K))
    | _ => false) && ((match PySem.W.recIn K (He.ma K (He.ga K x) m) "staticmethod" with
    | some (.ref _ :: _) => true
    | _ => false) && PySem.W.keepIn K (.ref (staG x m K))))))
theorem staB_ok {x m : Str} {K : PySem.W.Frag} (h : staB x m K = true) : StaT K (gd x K) m (He.ma K (He.ga K x) m) (staG x m K) := by
  obtain ⟨h1, h⟩ := He.ba h
  obtain ⟨h2, h⟩ := He.ba h
  obtain ⟨h3, h⟩ := He.ba h
  obtain ⟨h4, h⟩ := He.ba h
  obtain ⟨h5, h6⟩ := He.ba h
  refine ⟨h1, He.eqO_ok h2, of_decide_eq_true h3, ?_, ?_, h6⟩
  · split at h4
    · rename_i b p C e
      obtain ⟨z1, z⟩ := He.ba h4
      obtain ⟨z2, z3⟩ := He.ba z
      rw [e, of_decide_eq_true z1, of_decide_eq_true z2, of_decide_eq_true z3]
    · cases h4
  · unfold staG
    split at h5
    · rename_i g r e
      rw [e]
      exact ⟨r, rfl⟩
    · cases h5
section
variable {X : Cx} {CX : CXT} {k : Nat} {f g C : Addr} {sp : Sp} {dvs : List V} {E : XK} {m : Str} {apos pos : Pos} {o e : Expr} {es : List Expr} {ta : TE} {t : TA} {r : List V → Hp → VK → Prop}
/-- C.m(e, ..), m a static method -/
def tSm (C : Addr) (r : List V → Hp → VK → Prop) (ta : TE) (t : TA) : TE := fun σ H Q => ta σ H fun x H1 => x = .ref C ∧ t σ H1 fun vs H2 => r vs H2 Q
theorem pe_sm {p : Addr} {pl : Sem Bool} (he : PE X o ta) (c : StaT X.K C m p g) (R : CallR X (.ref g) r) (ha : PA X (e :: es) t)
    (hst : starEach (e :: es) X.env = (false, eval e X.env) :: starEach es X.env := by rfl) (hpl : (backTo pos (starEach es X.env)).any (·.1) = false := by rfl)
    (ht : eval (.Call (.Attribute o m apos) (e :: es) [] pos) X.env = (do
      let ov ← eval o X.env
      standAt apos.atName
      let (f, first) ← holding [ov] (getMethod ov m pl)
      callWith pos f first (backTo pos (starEach (e :: es) X.env)) (backToKw pos (keywordEach [] X.env))) := by rfl) :
    PE X (.Call (.Attribute o m apos) (e :: es) [] pos) (tSm C r ta t) := by
  refine ⟨fun pins s σ H Q I h => ?_⟩
  refine PySem.W.methodCall_KW (pl := pl) (thn (he.run pins s σ H _ I h) fun u s1 ⟨x, H1, I1, rx, ex, q⟩ => ?_) ht
  subst ex
  obtain rfl : u = Value.ref C := rx
  obtain ⟨mm, fr⟩ := I1.fr
  obtain ⟨rest, hrc⟩ := c.rc
  refine PySem.W.method_of_cls fr I1.ok.mod.kin c.ga (PySem.W.cls_sm fr I1.ok.mod.kin c.ty c.rd c.at_ hrc rfl ?_)
  have I2 := I1.tok (s1.toks + 1)
  refine PySem.W.callWith_K (h₀ := X.base) I2.ok.mod.kin c.kp (thn (ha.run pos pins _ σ H1 _ I2 q) fun us s2 ⟨vs, H2, I3, rv, q2⟩ => ⟨I3.kIn, ?_⟩) hst hpl
  exact R pins s2 σ H2 vs us Q I3 rv q2
end
end Gh

set_option Elab.async false
set_option linter.all false
set_option maxRecDepth 100000
set_option maxHeartbeats 4000000
/-! Ro: an int times an instance, by the instance's own reflected method. -/
namespace PySem.W
open Lean Elab Tactic Meta PySem PySem.Calls PyProof.Rows
section
variable {prog : Program} {w : World} {A : Around} {E : Value → Shared → Prop} {s : Shared} {K : Frag} {x C L f g : Addr} {h₀ : Heap} {m : Str → Option Value} {ox : Obj} {od : Option Obj}
theorem gh_try_mul {k : Int} {t : Tok} {Q : Option Value → Shared → Prop} (hx : s.heap.get? x = some ox) (hd : ox.data = .plain) (h : Q none s) : wpAny (model prog w) A (tryMethod (.int k t) "__mul__" (.ref x)) Q E s := by
  unfold tryMethod
  refine wpAny_bind (wpAny_callSpecial?_slot (typeIs_int s k t) F.slot_int_mul (wpAny_call_entry F.slot_int_mul (typeIs_int s k t) F.entry_int_mul ?_ (F.args_int_mul_2 _ _)))
  obtain ⟨hp, g, d, tk, os⟩ := s
  wp_walk using AutoSeq1.wpAny_loadPart' hx
  rw [hd]
  refine wpAny_pure ?_
  wp_walk
  exact ⟨_, rfl, wpAny_pure h⟩
theorem gh_rmul {k : Int} {t : Tok} {Q : Value → Shared → Prop} (F' : Fr h₀ L s.heap m) (X₀ : K.In h₀) (I : InstAt s.heap x ox C od) (hd : ox.data = .plain) (hc : selfFirst K C = true) (hs : findIn K (.ref C) (PySem.dunder "mul") = some (some (.ref f)))
    (hr : findIn K (.ref C) (dunderR "mul") = some (some (.ref g))) (hf : isFn K (.ref g) = true) (hsub : subIn K (.ref C) (.type "int") = some false)
    (h : wpAny (model prog w) A (call (.ref g) [.ref x, .int k t]) (CmpBack Q) E s) : wpAny (model prog w) A (binaryOp .Mult (.int k t) (.ref x)) Q E s := by
  have X := X₀.keeps F'.keep
  obtain ⟨cd, rest, hcd, hm⟩ := ksp_first hc
  have one := ksp_try X I hr hf h
  have zero : wpAny (model prog w) A (tryMethod (.int k t) (PySem.dunder "mul") (.ref x)) (fun r s' => r = none ∧ s' = s) E s := gh_try_mul I.at_ hd ⟨rfl, rfl⟩
  obtain ⟨hh, gg, d, tt, os⟩ := s
  have L1 : Looks (model prog w) hh (typeOf (.int k t)) (.type "int") := Looks.of_pure rfl
  have L2 : Looks (model prog w) hh (typeOf (.ref x)) (.ref C) := I.type
  have L3 : Looks (model prog w) hh (fillsNumberSlot (.type "int") "mul") true := Looks.of_pure F.fills_int_mul
  have L4 : Looks (model prog w) hh (fillsNumberSlot (.ref C) "mul") true := fills_K X hcd hm hs
  have L5 : Looks (model prog w) hh (isSubtype (.ref C) (.type "int")) false := looks_subIn X hsub
  have L7 : Looks (model prog w) hh (numberSlotInPython (.type "int") "mul") false := Looks.of_pure rfl
  have hne : (Value.type "int" == Value.ref C) = false := Bool.eq_false_iff.mpr fun q => by cases beq_iff_eq.mp q
  have hi : (Operator.Mult).info = ("*", "mul") := rfl
  simp only [binaryOp, hi]
  refine wpAny_holding (wpAny_bind ?_)
  unfold binaryOp1
  refine wpAny_bind (L1.at (wpAny_bind (L2.at (wpAny_bind (L3.at ?_)))))
  simp only [hne, Bool.false_eq_true, if_false]
  ksp_lk
  refine wpAny_mono zero (fun r s' hr' => ?_) fun _ _ e => e
  obtain ⟨rfl, rfl⟩ := hr'
  ksp_lk
  refine wpAny_mono one (fun r s' hr' => ?_) fun _ _ e => e
  obtain ⟨v, rfl, hq⟩ := hr'
  ksp_lk
  exact hq
end
end PySem.W
namespace Gh
open PySem PySem.Spec PyProof.Rows L2
/-- k * o, o an instance -/
@[irreducible] def rRmul (C : Addr) (r : List V → Hp → VK → Prop) : R2 := fun x y H Q => ∃ a dx fs i, x = .int i ∧ y = .ref a ∧ H a = some (.ins C dx fs) ∧ r [y, x] H Q
theorem op_rmul {X : Cx} {C f g : Addr} {r : List V → Hp → VK → Prop} (hc : PySem.W.selfFirst X.K C = true) (hs : PySem.W.findIn X.K (.ref C) "__mul__" = some (some (.ref f))) (hr : PySem.W.findIn X.K (.ref C) "__rmul__" = some (some (.ref g)))
    (hf : PySem.W.isFn X.K (.ref g) = true) (hsub : PySem.W.subIn X.K (.ref C) (.type "int") = some false) (R : CallR X (.ref g) r) : OpR X (binaryOp .Mult) (rRmul C r) := by
  intro pins s σ H x y v u Q I rx ry h
  unfold rRmul at h
  obtain ⟨a, dx, fs, i, rfl, rfl, ha, q⟩ := h
  cases (show u = Value.ref a from ry)
  obtain ⟨t, z⟩ := (show ∃ t, v = Value.int i t from rx)
  subst z
  obtain ⟨ox, od, J, hd⟩ := StX.insC_at I (.inr ⟨dx, fs, ha⟩)
  obtain ⟨m, hF⟩ := I.fr
  refine PySem.W.gh_rmul hF I.ok.mod.kin J hd hc hs hr hf hsub ?_
  exact wpAny_mono (R pins s σ H [.ref a, .int i] [.ref a, .int i t] Q I (.cons rfl (.cons ⟨t, rfl⟩ .nil)) q) (fun w s' z => cmp_back z) fun _ _ x => x
end Gh

set_option Elab.async false
set_option linter.all false
set_option maxRecDepth 100000
set_option maxHeartbeats 4000000
/-! Pz: repr of any value that is told; errors raised by promises; instances that may be called. -/
namespace Gh
open PySem PySem.Spec PyProof.Rows L2
/-! ### what repr shows -/
inductive Shw (K : PySem.W.Frag) (H : Hp) : V → Str → Prop
  | non : Shw K H .non "None"
  | bl (b : Bool) : Shw K H (.bl b) (if b then "True" else "False")
  | int (i : Int) : i.natAbs.log2 < 1920 → Shw K H (.int i) (toString i)
  | str (x : Str) : (reprText x).length ≤ sizeLine → Shw K H (.str x) (reprText x)
  | dp {a : Addr} {d : PyData} : Dp K H (.ref a) d → d.showable = true → d.hasDict = false → d.depth ≤ 100 → d.shown.length ≤ sizeLine → Shw K H (.ref a) d.shown
theorem sqL_same {K : PySem.W.Frag} {H H' : Hp} {a : Addr} {xs : List V} (h : SqL K H a xs) (s : L2.Same H H') : SqL K H' a xs := by
  rcases h with (h | ⟨o, h⟩) | h
  · exact .inl (.inl (s _ _ h))
  · exact .inl (.inr ⟨o, s _ _ h⟩)
  · exact .inr h
theorem sqT_same {K : PySem.W.Frag} {H H' : Hp} {a : Addr} {xs : List V} (h : SqT K H a xs) (s : L2.Same H H') : SqT K H' a xs := by
  rcases h with (h | ⟨o, h⟩) | h
  · exact .inl (.inl (s _ _ h))
  · exact .inl (.inr ⟨o, s _ _ h⟩)
  · exact .inr h
mutual
theorem dp_same {K : PySem.W.Frag} {H H' : Hp} (s : L2.Same H H') : ∀ {v : V} {d : PyData}, Dp K H v d → Dp K H' v d
  | _, _, .non => .non
  | _, _, .bl b => .bl b
  | _, _, .int i => .int i
  | _, _, .str x => .str x
  | _, _, .lst h a => .lst (sqL_same h s) (dpAll_same s a)
  | _, _, .tup h a => .tup (sqT_same h s) (dpAll_same s a)
theorem dpAll_same {K : PySem.W.Frag} {H H' : Hp} (s : L2.Same H H') : ∀ {vs : List V} {ds : List PyData}, DpAll K H vs ds → DpAll K H' vs ds
  | _, _, .nil => .nil
  | _, _, .cons a r => .cons (dp_same s a) (dpAll_same s r)
end
theorem Shw.same {K : PySem.W.Frag} {H H' : Hp} {v : V} {t : Str} (h : Shw K H v t) (s : L2.Same H H') : Shw K H' v t := by
  cases h with
  | non => exact .non
  | bl b => exact .bl b
  | int i h => exact .int i h
  | str x h => exact .str x h
  | dp a b c d e => exact .dp (dp_same s a) b c d e
@[irreducible] def rShow (K : PySem.W.Frag) : List V → Hp → VK → Prop := fun xs H Q => ∃ v t, xs = [v] ∧ Shw K H v t ∧ Q (.str t) H
theorem rShow_of {K : PySem.W.Frag} {v : V} {t : Str} {H : Hp} {Q : VK} (h : Shw K H v t) (q : Q (.str t) H) : rShow K [v] H Q := by
  unfold rShow
  exact ⟨v, t, rfl, h, q⟩
section
variable {X : Cx} {K : PySem.W.Frag}
theorem call_show (hK : X.K = K) (hu : X.A.units + 102 < cLine) (hg : X.A.guards = some []) : CallR X (.builtin "repr") (rShow K) := by
  subst hK
  intro pins s σ H xs us Q I r h
  unfold rShow at h
  obtain ⟨v, t, rfl, hs, q⟩ := h
  obtain ⟨u, rfl, ru⟩ := vals1 r
  cases hs with
  | non =>
    cases (show u = Value.none from ru)
    exact PySem.P.repr_of_none ⟨.str _, H, I.tok _, ⟨_, rfl⟩, q⟩
  | bl b =>
    cases (show u = Value.bool b from ru)
    exact PySem.P.repr_of_bool ⟨.str _, H, I.tok _, ⟨_, rfl⟩, q⟩
  | int i h =>
    obtain ⟨t, rfl⟩ := ru
    exact PySem.P.repr_of_int h ⟨.str _, H, I.tok _, ⟨_, rfl⟩, q⟩
  | str x h =>
    obtain ⟨t, rfl⟩ := ru
    exact PySem.P.repr_of_str ⟨.str _, H, I.tok _, ⟨_, rfl⟩, q⟩ (hsz := h)
  | dp hd h1 h2 h3 h4 =>
    rename_i a d
    cases (show u = Value.ref a from ru)
    obtain ⟨as, rd⟩ := Dp.reads I d _ _ hd rfl
    exact repr_of_reads' rd h1 (fun z => by rw [h2] at z; cases z) hg (by omega) (fun _ _ e => e) (fun h' u tk k => ⟨.str d.shown, H, I.kept k, ⟨u, rfl⟩, q⟩) h4
/-! ### errors raised -/
variable {CX : CXT} {x : Str} {C fI : Addr} {k : Nat} {sp : Sp} {dvs : List V} {e : Expr} {es : List Expr} {ta : TA} {p pos : Pos}
theorem passF : Passes (L2.CX X.prog X.w) X (fun _ _ _ => False) := fun _ _ _ _ _ _ _ h => by
  obtain ⟨_, _, _, _, _, _, _, _, _, _, _, _, z⟩ := h
  exact z.elim
theorem pmk_po (T : OexC X.K C) (iC : PySem.W.findIn X.K (.ref C) "__init__" = some (some (.ref fI))) (tI : PySem.W.typeIn X.K (.ref fI) = some (.type "function")) (F : PromOX X CX k fI dvs sp) (hr : Room (k + 1) X.A) (hx : Passes CX X (fun _ _ _ => False)) (hm : X.mg x = some (.ref C)) (ha : PA X (e :: es) ta) (hg : Gl X x := by rfl)
    (hdb : (x == ("__debug__" : Str)) = false := by decide) (he : starEach (e :: es) X.env = (false, eval e X.env) :: starEach es X.env := by rfl) (hpl : (backTo pos (starEach es X.env)).any (·.1) = false := by rfl) : PMk X (.Call (.Name x p) (e :: es) [] pos) (tMkO C sp dvs ta) := by
  obtain ⟨fd, ps, ds, G, b, hd⟩ := F
  exact pmk_oex T iC tI G hr b hd hx hg hm ha hdb he hpl
end
structure IniT (K : PySem.W.Frag) (C f : Addr) : Prop where
  iC : PySem.W.findIn K (.ref C) "__init__" = some (some (.ref f))
  tI : PySem.W.typeIn K (.ref f) = some (.type "function")
def iniB (x : Str) (K : PySem.W.Frag) : Bool := He.eqO (PySem.W.findIn K (.ref (gd x K)) "__init__") (some (some (.ref (md x "__init__" K)))) && decide (PySem.W.typeIn K (.ref (md x "__init__" K)) = some (.type "function"))
theorem iniB_ok {x : Str} {K : PySem.W.Frag} (h : iniB x K = true) : IniT K (gd x K) (md x "__init__" K) := by
  obtain ⟨h1, h2⟩ := He.ba h
  exact ⟨He.eqO_ok h1, of_decide_eq_true h2⟩
def coB (x : Str) (K : PySem.W.Frag) : Bool := He.eqO (PySem.W.findIn K (.ref (gd x K)) "__call__") (some (some (.ref (md x "__call__" K)))) && (PySem.W.isFn K (.ref (md x "__call__" K)) && PySem.W.fnIn K (md x "__call__" K))
theorem coB_ok {x : Str} {K : PySem.W.Frag} (h : coB x K = true) : StX.CallO K (gd x K) (md x "__call__" K) := by
  obtain ⟨h1, h⟩ := He.ba h
  obtain ⟨h2, h3⟩ := He.ba h
  exact ⟨He.eqO_ok h1, h2, h3⟩
/-- a promise, raw -/
theorem PromO.raw {P : Program} {w : World} {K : PySem.W.Frag} {mg : Str → Option Value} {base : Heap} {CX : CXT} {k : Nat} {f : Addr} {sp : Sp} (F : PromO P w K mg base CX k f [] sp) : FnR P w K mg base CX k f sp := by
  obtain ⟨fd, ps, ds, G, b, hd⟩ := F
  have z := G.raw b hd
  intro A outer s H us vs Q E hr e0 r hs
  exact z A outer s H us vs Q E hr e0 r (show sp (vs ++ []) H Q E by rw [List.append_nil]; exact hs)
end Gh

set_option Elab.async false
set_option linter.all false
set_option maxRecDepth 100000
set_option maxHeartbeats 4000000
/-! Et: enumerate over a tuple. -/
namespace Gh
open PySem PySem.Spec PyProof.Rows L2
theorem meets_enumerate_newT (l : Addr) (items : Array Value) (n : Nat) (dct : Option Addr) (sl : Array (Option Value)) :
    Meets (Builtin.«enumerate.__new__» ⟨[.type "enumerate", .ref l], []⟩) (fun _ R s => s.heap.get? l = some { cls := .type "tuple", dict := dct, data := .seq items n, slots := sl } ∧
      R (.ok (.ret (.ref (s.heap.push { cls := .type "tuple_iterator", data := .fields #[.ref l, .int 0 0] }).objs.size)))
        { s with heap := (s.heap.push { cls := .type "tuple_iterator", data := .fields #[.ref l, .int 0 0] }).push { cls := .type "enumerate", data := .fields #[.none, .bool false, .ref s.heap.objs.size, rawInt 0, .none, .none] } }) :=
  .of_wp fun prog w A R s h => by
    obtain ⟨hp, g, d, tk, os⟩ := s; obtain ⟨hl, h⟩ := h
    have hsub := sub_enumerate
    have hL : Heap.IsTuple (Shared.heap ⟨hp, g, d, tk, os⟩) l items := ⟨_, hl, rfl, n, rfl⟩
    wp_walk using wpAny_loadPart' hl
    refine wpAny_stack_any fun st => wpAny_pure ?_
    split
    · rename_i c _ _ _ _ _
      cases (c == Value.type "enumerate")
      · wp_walk using wpAny_loadPart' hl, wpAny_pyIter_tuple hL
        exact ⟨_, rfl, h⟩
      · wp_walk using wpAny_loadPart' hl, wpAny_pyIter_tuple hL
        exact ⟨_, rfl, h⟩
    · wp_walk using wpAny_loadPart' hl, wpAny_pyIter_tuple hL
      exact ⟨_, rfl, h⟩
section
variable {prog : Program} {w : World} {A : Around} {E : Value → Shared → Prop} {s : Shared}
theorem call_enumerate_tup {l : Addr} {items : Array Value} {Q : Value → Shared → Prop} (hL : s.heap.IsTuple l items)
    (h : ∀ h', IsEnum h' (s.heap.objs.size + 1) s.heap.objs.size 0 .none → h'.IsTupleIter s.heap.objs.size l 0 → h'.objs.size = s.heap.objs.size + 2 →
      (∀ b o, s.heap.get? b = some o → h'.get? b = some o) → Q (.ref (s.heap.objs.size + 1)) { s with heap := h' }) :
    wpAny (model prog w) A (call (.type "enumerate") [.ref l]) Q E s := by
  obtain ⟨⟨c, dct, dt, sl⟩, hl, hc, n, hd⟩ := hL
  replace hc : c = .type "tuple" := hc
  replace hd : dt = .seq items n := hd
  subst hc hd
  refine callType_new F.called_enumerate (by decide) (F.typeCall_enumerate_1 _) (F.newCall_enumerate_1 _) (fun obj => F.args_object_init_2 obj _) F.entry_enumerate_new
    (meets_enumerate_newT l items n dct sl) ⟨hl, ?_⟩
  have hz : (s.heap.push { cls := .type "tuple_iterator", data := .fields #[.ref l, .int 0 0] }).objs.size = s.heap.objs.size + 1 := Heap.size_push ..
  show _ ∧ _
  rw [hz]
  have he : IsEnum ((s.heap.push { cls := .type "tuple_iterator", data := .fields #[.ref l, .int 0 0] }).push
      { cls := .type "enumerate", data := .fields #[.none, .bool false, .ref s.heap.objs.size, rawInt 0, .none, .none] }) (s.heap.objs.size + 1) s.heap.objs.size 0 .none := by
    have := Heap.get?_push_size (s.heap.push { cls := .type "tuple_iterator", data := .fields #[.ref l, .int 0 0] })
      (o := { cls := .type "enumerate", data := .fields #[.none, .bool false, .ref s.heap.objs.size, rawInt 0, .none, .none] }) rfl
    rw [hz] at this; exact this
  refine ⟨⟨_, he, rfl⟩, h _ he ⟨_, Heap.get?_push_of_some _ (Heap.get?_push_size _ rfl), rfl, rfl⟩ (by rw [Heap.size_push, hz]) fun b o x => Heap.get?_push_of_some _ (Heap.get?_push_of_some _ x)⟩
end
/-- the tuple at a, its items in new pairs -/
def Itu (K : PySem.W.Frag) (a : Addr) : It :=
  ⟨fun i H => ∃ (xs : List V) (x : V), SqT K H a xs ∧ xs[i]? = some x, fun i H v H' => ∃ T x, v = .ref T ∧ H T = none ∧ H' = upd H T (.tup [.int (i : Nat), x]) ∧ ∀ xs, SqT K H a xs → xs[i]? = some x, fun i H => ∃ xs : List V, SqT K H a xs ∧ xs.length = i⟩
theorem turn_enumT {P : Program} {w : World} {K : PySem.W.Frag} {elts : List Expr} {kk : Nat} {tpos : Pos} (a e it : Addr) :
    Turn P w K (.Tuple elts kk tpos) (Itu K a) [e, it] e (fun i h => (∃ old, IsEnum h e it ((i : Nat) : Int) old) ∧ h.IsTupleIter it a i ∧ e ≠ it ∧ a ≠ it ∧ e ≠ a) where
  mem := by simp
  obj := fun i h st b hb => by
    obtain ⟨⟨old, he⟩, ⟨o, ho, hc, hd⟩, _⟩ := st
    have e' : b = e ∨ b = it := by simpa using hb
    rcases e' with z | z
    · rw [z]; exact ⟨_, he, fun v q => nomatch q⟩
    · rw [z]; exact ⟨o, ho, fun v q => by rw [hd] at q; cases q⟩
  keep := fun i h h' st k => let ⟨⟨old, he⟩, hi, hne⟩ := st; ⟨⟨old, k e (by simp) _ he⟩, hi.at fun o q => k it (by simp) o q, hne⟩
  item := by
    intro X hP hw hK hc i pins s σ H E I hf st hg
    subst hP hw hK
    obtain ⟨⟨old, he⟩, hit, hne, hai, hea⟩ := st
    obtain ⟨xs, x, hq, hx⟩ := hg
    obtain ⟨its, rv, p, hz⟩ := I.tuple hq
    obtain ⟨u, hu, ru⟩ := rv.get hx
    have hel : e < s.heap.objs.size := Heap.lt_size he
    have hil : it < s.heap.objs.size := by obtain ⟨_, q, _⟩ := hit; exact Heap.lt_size q
    have hlt : i < its.toArray.size := by
      obtain ⟨z, _⟩ := List.getElem?_eq_some_iff.mp hu
      simpa using z
    refine wpAny_pyNext_enum_itemD (Draws.tuple (A := X.A.in1) (show X.A.in1.handled = none from I.ok.hd hc) it a hai its.toArray) he ⟨hit, p⟩ hlt hne (by simp; exact ⟨hne, hea⟩) fun u' h' tk pu ho hit' hT hsz hk => ?_
    have eu : u' = u := by
      have z : its.toArray[i]? = some u := by simpa using hu
      rw [z] at pu
      exact (Option.some.inj pu).symm
    subst eu
    refine ⟨_, rfl, wpAny_letOwnedTupleGo_enum (s := { s with heap := h', toks := tk + 1 }) ho fun h'' he' sb => ?_⟩
    have hT2 : h''.get? s.heap.objs.size = some { cls := .type "tuple", data := .seq #[.int i tk, u'] } := (sb.2 _ (Nat.ne_of_gt hel)).trans hT
    have new : ObjOk X.prog X.w (upd H s.heap.objs.size (.tup [.int (i : Nat), x])) h'' s.heap.objs.size (.tup [.int (i : Nat), x]) :=
      ⟨by show 2 ≤ sizeLine; decide, [.int i tk, u'], .cons ⟨_, rfl⟩ (.cons ru .nil), ⟨_, hT2, rfl, _, rfl⟩⟩
    have I1 : Inv X pins σ (upd H s.heap.objs.size (.tup [.int (i : Nat), x])) { s with heap := h'', toks := tk + 1 } :=
      I.turnedNew (ch := [e, it]) (fun b ob hb q => (sb.2 b (fun z => hb (by simp [z]))).trans (hk b ob (fun z => hb (by simp [z])) (fun z => hb (by simp [z])) q)) hf (Nat.le_refl _) new
    refine ⟨.ref s.heap.objs.size, _, I1, rfl, ⟨_, x, rfl, I.hok.fresh (Nat.le_refl _), rfl, fun ys hy => by rw [I.tuple_inj hy hq]; exact hx⟩, ⟨⟨u', ?_⟩, hit'.1.at fun o q => (sb.2 it (Ne.symm hne)).trans q, hne, hai, hea⟩, fun b hb => ?_⟩
    · have e1 : ((i + 1 : Nat) : Int) = (i : Int) + 1 := by omega
      rw [e1]; exact he'
    · have hb' : b < s.heap.objs.size := by
        have e' : b = e ∨ b = it := by simpa using hb
        rcases e' with z | z
        · rw [z]; exact hel
        · rw [z]; exact hil
      rw [upd_ne (Nat.ne_of_lt hb')]
      exact (hf b hb).1
  done := by
    intro X hP hw hK hc i pins s σ H E I hf st hg
    subst hP hw hK
    obtain ⟨⟨old, he⟩, hit, hne, hai, hea⟩ := st
    obtain ⟨xs, hq, hx⟩ := hg
    obtain ⟨its, rv, p, hz⟩ := I.tuple hq
    obtain ⟨f0, f1, f2, f3, f4, f5⟩ := hf it (by simp)
    have hl := rv.length
    have en : its.toArray.size = i := by
      rw [List.size_toArray]
      omega
    refine wpAny_pyNext_enum_endD (Draws.tuple (A := X.A.in1) (show X.A.in1.handled = none from I.ok.hd hc) it a hai its.toArray) he ⟨by rw [en]; exact hit, p⟩ fun h' eb => ⟨rfl, I.turned (t' := s.toks) (fun b o hb q => eb b o hb q) f0 f1 f3 f4 f5⟩
  self := fun A i s Q E st h => let ⟨⟨_, he⟩, _⟩ := st; wpAny_pyIter_enum he h
def iEnumT (K : PySem.W.Frag) (ta : TA) : TI := fun σ H R => ta σ H fun vs H1 => ∃ a xs, vs = [.ref a] ∧ SqT K H1 a xs ∧ R (Itu K a) H1
theorem pi_enumT {X : Cx} {e : Expr} {ta : TA} {p pos tpos : Pos} {elts : List Expr} {kk : Nat} (hg : Gl X "enumerate") (hm : X.mg "enumerate" = none) (ha : PA X [e] ta) (hs : starEach [e] X.env = [(false, eval e X.env)] := by rfl) :
    PI X (.Tuple elts kk tpos) (.Call (.Name "enumerate" p) [e] [] pos) (iEnumT X.K ta) := by
  refine ⟨fun pins s σ H R I h => ?_⟩
  refine Call_ (ld_blt I hg hm boot_enumerate (PyProof.Rows.callWith_type1 (thn (ha.run pos pins s σ H _ I h) fun us s1 ⟨vs, H1, I1, r1, q1⟩ => ?_) hs rfl))
  obtain ⟨a, xs, ex, hq, q⟩ := q1
  subst ex
  cases r1 with
  | cons r rr =>
    cases rr
    cases r
    obtain ⟨its, rv, p', hz⟩ := I1.tuple hq
    have hal : a < s1.heap.objs.size := by obtain ⟨_, z, _⟩ := p'; exact Heap.lt_size z
    refine call_enumerate_tup p' fun h' he hit hsz hk => wpAny_pyIter_enum he ?_
    have I2 : Inv X pins σ H1 { s1 with heap := h' } := I1.kept (t' := s1.toks) hk
    refine ⟨s1.heap.objs.size + 1, [s1.heap.objs.size + 1, s1.heap.objs.size], _, _, H1, rfl, I2, turn_enumT a (s1.heap.objs.size + 1) s1.heap.objs.size, ⟨⟨.none, he⟩, hit, Nat.succ_ne_self _, Nat.ne_of_lt hal, Nat.ne_of_gt (Nat.lt_succ_of_lt hal)⟩, fun b hb => ?_, q⟩
    have e' : b = s1.heap.objs.size + 1 ∨ b = s1.heap.objs.size := by simpa using hb
    have hle : s1.heap.objs.size ≤ b := by
      rcases e' with z | z
      · rw [z]; exact Nat.le_add_right _ _
      · rw [z]; exact Nat.le_refl _
    exact I1.fpOk hle (I1.hok.fresh hle)
/-- enumerate over a list or a tuple -/
theorem PI.or {X : Cx} {tg iter : Expr} {w1 w2 : TI} (a : PI X tg iter w1) (b : PI X tg iter w2) : PI X tg iter (fun σ H R => w1 σ H R ∨ w2 σ H R) :=
  ⟨fun pins s σ H R I h => h.elim (a.run pins s σ H R I) (b.run pins s σ H R I)⟩
/-- over a tuple that stays -/
theorem for_enumT {K : PySem.W.Frag} {a : Addr} {xs : List V} {g : TG} {tb : TS} {D : Ends} {σ : L2.St} {H : Hp} (Pv : Nat → L2.St → Hp → Prop) (h0 : Pv 0 σ H) (hl : ∀ i σ H, i ≤ xs.length → Pv i σ H → SqT K H a xs)
    (hs : ∀ i x σ H T, xs[i]? = some x → Pv i σ H → H T = none → g (.ref T) σ (upd H T (.tup [.int (i : Nat), x])) fun σ2 H2 => tb { D with nx := Pv (i + 1), ct := Pv (i + 1), bk := D.nx } σ2 H2) (hd : ∀ σ H, Pv xs.length σ H → D.nx σ H) :
    ∃ W : Nat → Nat → L2.St → Hp → Prop, (∃ m, W 0 m σ H) ∧ ∀ i m σ H, W i m σ H →
      ((Itu K a).stop i H ∧ D.nx σ H) ∨ ((Itu K a).go i H ∧ ∃ N : L2.St → Hp → Prop, (∀ σ' H', N σ' H' → ∃ m', m' < m ∧ W (i + 1) m' σ' H') ∧ ∀ x H', (Itu K a).yld i H x H' → g x σ H' fun σ2 H2 => tb { D with nx := N, ct := N, bk := D.nx } σ2 H2) := by
  refine ⟨fun i m σ H => m = xs.length - i ∧ i ≤ xs.length ∧ Pv i σ H, ⟨xs.length, by simp, Nat.zero_le _, h0⟩, ?_⟩
  rintro i m σ H ⟨rfl, hi, p⟩
  have q := hl i σ H hi p
  by_cases hlt : i < xs.length
  · refine .inr ⟨⟨xs, xs[i], q, by simp [hlt]⟩, Pv (i + 1), fun σ' H' p' => ⟨xs.length - (i + 1), by omega, rfl, hlt, p'⟩, fun x H' y => ?_⟩
    obtain ⟨T, x0, rfl, nT, rfl, y⟩ := y
    exact hs i x0 σ H T (y xs q) p nT
  · have e : i = xs.length := by omega
    subst e
    exact .inl ⟨⟨xs, q, rfl⟩, hd σ H p⟩
end Gh

set_option Elab.async false
set_option linter.all false
set_option maxRecDepth 100000
set_option maxHeartbeats 4000000
/-! Os: o[i], o[i] = v by own methods; -o. -/
namespace Gh
open PySem PySem.Spec PyProof.Rows L2
section
variable {X : Cx} {C f : Addr} {r : List V → Hp → VK → Prop}
/-- o[i] = v by the instance's own __setitem__ -/
@[irreducible] def rSetO (C : Addr) (r : List V → Hp → VK → Prop) : TSet := fun o i v H Q => ∃ a dx fs, o = .ref a ∧ H a = some (.ins C dx fs) ∧ r [o, i, v] H fun _ H' => Q H'
theorem set_own (hq : PySem.W.noSeq X.K C = true) (hs : PySem.W.findIn X.K (.ref C) "__setitem__" = some (some (.ref f))) (hf : PySem.W.isFn X.K (.ref f) = true) (R : CallR X (.ref f) r) : PSet X (rSetO C r) := by
  intro pins s σ H o i v ov iv u Q I ro ri rv h
  unfold rSetO at h
  obtain ⟨a, dx, fs, rfl, ha, q⟩ := h
  cases (show ov = Value.ref a from ro)
  obtain ⟨ox, od, J⟩ := ins_look I ha
  obtain ⟨m, hF⟩ := I.fr
  refine PySem.W.ksp_setItem hF I.ok.mod.kin J hq hs hf ?_
  exact wpAny_mono (R pins s σ H [.ref a, i, v] [.ref a, iv, u] _ I (.cons rfl (.cons ri (.cons rv .nil))) q) (fun w s' z => by
    obtain ⟨x, H', I', _, q'⟩ := z
    exact ⟨H', I', q'⟩) fun _ _ x => x
/-- o[i] by the instance's own __getitem__ -/
@[irreducible] def rIxO (C : Addr) (sp : Sp) (E : XK) : R2 := fun x y H Q => ∃ a dx fs, x = .ref a ∧ H a = some (.ins C dx fs) ∧ sp [x, y] H Q E
structure IxT (K : PySem.W.Frag) (C f : Addr) : Prop where
  at_ : PySem.W.findIn K (.ref C) "__getitem__" = some (some (.ref f))
  fi : PySem.W.fnIn K f = true
  fn : PySem.W.isFn K (.ref f) = true
def ixB (x : Str) (K : PySem.W.Frag) : Bool := He.eqO (PySem.W.findIn K (.ref (gd x K)) "__getitem__") (some (some (.ref (md x "__getitem__" K)))) && (PySem.W.fnIn K (md x "__getitem__" K) && PySem.W.isFn K (.ref (md x "__getitem__" K)))
theorem ixB_ok {x : Str} {K : PySem.W.Frag} (h : ixB x K = true) : IxT K (gd x K) (md x "__getitem__" K) := by
  obtain ⟨h1, h⟩ := He.ba h
  obtain ⟨h2, h3⟩ := He.ba h
  exact ⟨He.eqO_ok h1, h2, h3⟩
theorem pe_ixO {CX : CXT} {k : Nat} {sp : Sp} {E : XK} {value slice : Expr} {pos : Pos} {ta tb : TE} (hv : PE X value ta) (hs : PE X slice tb) (c : IxT X.K C f) (F : PromOX X CX k f [] sp) (hr : Room (k + 1) X.A) (hx : Passes CX X E)
    (hsl : ∀ o i, subscripted slice true o i = runValue (.builtin "lifetime.subscript" ⟨[o, i], []⟩) := by intro _ _; rfl) : PE X (.Subscript value slice pos) (tOp (rIxO C sp E) ta tb) := by
  refine ⟨fun pins s σ H Q I h => ?_⟩
  refine Subscript_ (thn (hv.run pins s σ H _ I h) fun u s1 ⟨x, H1, I1, rx, q1⟩ => thn (hs.run pins s1 σ H1 _ I1 q1) fun v s2 ⟨y, H2, I2, ry, q2⟩ => ?_)
  unfold rIxO at q2
  obtain ⟨a, dx, fs, rfl, ha, q⟩ := q2
  cases (show u = Value.ref a from rx)
  obtain ⟨ox, od, J⟩ := ins_look I2 ha
  obtain ⟨m, hF⟩ := I2.fr
  refine PySem.W.sub_K hF I2.ok.mod.kin J c.at_ c.fi c.fn ?_ (hsl _ _)
  refine wpAny_call (codeAny_mono ((PromO.raw F) X.A.in1 X.stack s2 H2 [.ref a, v] [.ref a, y] Q E hr.in1 I2.env0.in1 (.cons rfl (.cons ry .nil)) q) fun r s' hq => ?_)
  cases r with
  | error e => exact hx pins σ H2 s2 e s' I2 hq
  | ok fl =>
    cases fl with
    | ret u => exact I2.after hq
    | next => exact False.elim hq
    | brk => exact False.elim hq
    | cont => exact False.elim hq
end
end Gh

set_option Elab.async false
set_option linter.all false
set_option maxRecDepth 100000
set_option maxHeartbeats 4000000
/-! Lm: a def that makes lambdas; what stays when a table grows. -/
namespace Gh
open PySem PySem.Spec PyProof.Rows L2
/-- a def that lets no error out, its code object known -/
theorem fnG1 {P : Program} {w : World} {K : PySem.W.Frag} {mg : Str → Option Value} {base : Heap} {CX : CXT} {k : Nat} {f : Addr} {fd : FuncData} {ps : List Str} {sp : Sp} {dvs : List V} {x qual : Str} {params : Arguments} {body : List Stmt} {scope : Scope} {kws : List (Str × V)} {N : List Str}
    (F : FunD K x qual params body scope dvs kws f fd) (S : FnScope N ps scope) (len : ∀ vs H Q E, sp vs H Q E → vs.length = ps.length)
    (hbody : ∀ (cdv : Value) (A : Around) (outer : List Env) (s : Shared) (H : Hp) (vs : List V) (Q : VK) (E : XK), cdv = fd.code → Room k (A.deeper (envOfC qual scope s.heap.objs.size f cdv)) → (A.deeper (envOfC qual scope s.heap.objs.size f cdv)).guards = some [] → sp vs H Q E →
      ∃ t, PSs (cxOf CX P w K mg base N qual scope f cdv A outer s H E).nox body t ∧ t { nx := fun _ H' => Q .non H', rt := Q } (start N vs) H) : FnG P w K mg base CX (k + 1) f fd ps sp := by
  obtain ⟨oc, od, dV, kV, doc, pm, an, cdv, ct, osl, rfl, lk, hcd, _, _⟩ := F.ex
  refine ⟨len, fun A outer s H args us vs Q E hr hg e0 hb r hsp => ?_⟩
  refine LamX.run_ofS (N := N) (ps := ps) lk hcd S hr e0 hb r (len _ _ _ _ hsp) fun hr' => ?_
  obtain ⟨t, ht, q⟩ := hbody cdv A outer s H vs Q E rfl hr' hg hsp
  exact ⟨t, PSs.nox ht, q⟩
theorem codeOf_fn {K : PySem.W.Frag} {x qual : Str} {params : Arguments} {body : List Stmt} {scope : Scope} {dvs : List V} {kws : List (Str × V)} {fd : FuncData} {p : Str × Option Str} (F : FunD K x qual params body scope dvs kws (He.fAd K p) fd) : fd.code = .ref (He.codeOf K p) := by
  obtain ⟨oc, od, dV, kV, doc, pm, an, cdv, ct, osl, rfl, lk, hcd, _, _⟩ := F.ex
  obtain ⟨c, rfl⟩ := He.codeIn_ref hcd
  exact (congrArg Value.ref (He.codeOf_eq lk rfl)).symm
/-! ### what stays -/
section
variable {K : PySem.W.Frag} {H H' : Hp}
theorem extN_same (s : L2.Same H H') : LamX.ExtN H H' := LamX.ExtN.of s
theorem sqL_extN {a : Addr} {xs : List V} (h : SqL K H a xs) (s : LamX.ExtN H H') : SqL K H' a xs := by
  rcases h with (h | ⟨o, h⟩) | h
  · exact .inl (.inl (s _ _ h (fun _ z => by cases z)))
  · exact .inl (.inr ⟨o, s _ _ h (fun _ z => by cases z)⟩)
  · exact .inr h
theorem sqT_extN {a : Addr} {xs : List V} (h : SqT K H a xs) (s : LamX.ExtN H H') : SqT K H' a xs := by
  rcases h with (h | ⟨o, h⟩) | h
  · exact .inl (.inl (s _ _ h (fun _ z => by cases z)))
  · exact .inl (.inr ⟨o, s _ _ h (fun _ z => by cases z)⟩)
  · exact .inr h
mutual
theorem dp_extN (s : LamX.ExtN H H') : ∀ {v : V} {d : PyData}, Dp K H v d → Dp K H' v d
  | _, _, .non => .non
  | _, _, .bl b => .bl b
  | _, _, .int i => .int i
  | _, _, .str x => .str x
  | _, _, .lst h a => .lst (sqL_extN h s) (dpAll_extN s a)
  | _, _, .tup h a => .tup (sqT_extN h s) (dpAll_extN s a)
theorem dpAll_extN (s : LamX.ExtN H H') : ∀ {vs : List V} {ds : List PyData}, DpAll K H vs ds → DpAll K H' vs ds
  | _, _, .nil => .nil
  | _, _, .cons a r => .cons (dp_extN s a) (dpAll_extN s r)
end
theorem Shw.extN {v : V} {t : Str} (h : Shw K H v t) (s : LamX.ExtN H H') : Shw K H' v t := by
  cases h with
  | non => exact .non
  | bl b => exact .bl b
  | int i h => exact .int i h
  | str x h => exact .str x h
  | dp a b c d e => exact .dp (dp_extN s a) b c d e
theorem Kd.extN {v : V} (k : Kd H v) (s : LamX.ExtN H H') : Kd H' v := by
  cases k with
  | non => exact .non
  | bl b => exact .bl b
  | int i => exact .int i
  | str x => exact .str x
  | lst h => exact .lst (s _ _ h (fun _ z => by cases z))
  | tup h => exact .tup (s _ _ h (fun _ z => by cases z))
  | dK h => exact .dK (s _ _ h (fun _ z => by cases z))
theorem PenAt.extN {p : Addr} {b : Nat} (h : PenAt H p b) (s : LamX.ExtN H H') : PenAt H' p b := by
  obtain ⟨c, ns, i, z, h1, h2, r⟩ := h
  exact ⟨c, ns, i, z, s _ _ h1 (fun _ z => by cases z), s _ _ h2 (fun _ z => by cases z), r⟩
theorem tabs_keep {T : List (Addr × Str)} {p : Addr} {b : Nat} (t : LamX.Tabs T H) (pn : PenAt H p b) (k : Keep H H' p) : LamX.Tabs T H' := fun q hq => by
  obtain ⟨c, ns, i, z, hp, _⟩ := pn
  obtain ⟨ps, h1, h2, h3⟩ := t q hq
  refine ⟨ps, k _ _ h1 (ne_of h1 hp (by intro e; cases e)), h2, fun pos cv hc => ?_⟩
  obtain ⟨c', e1, e2⟩ := h3 pos cv hc
  exact ⟨c', e1, k _ _ e2 (ne_of e2 hp (by intro e; unfold LamX.CodeO at e; cases e))⟩
/-! ### shown lists -/
theorem log_lt {i : Int} (h1 : -(10 ^ 50) < i) (h2 : i < 10 ^ 50) : i.natAbs.log2 < 1920 := by
  have h : i.natAbs < 2 ^ 1920 := Nat.lt_of_lt_of_le (show i.natAbs < 10 ^ 50 by omega) (by decide)
  by_cases h0 : i.natAbs = 0
  · rw [h0]
    decide
  · exact (Nat.log2_lt h0).mpr h
theorem short_int {i : Int} (h1 : -(10 ^ 50) < i) (h2 : i < 10 ^ 50) : PyData.leavesShort 60 (.int i) = true := by
  have e := int_text_length_le10 (a := i) (k := 50) (by decide) (by omega)
  have z : ((PyData.int i).shown).length ≤ 60 := by
    show (Str.ofString (toString i)).length ≤ 60
    rw [PySem.ofString_length]
    omega
  show decide _ = true
  exact decide_eq_true z
theorem weight_int {i : Int} (h1 : -(10 ^ 50) < i) (h2 : i < 10 ^ 50) : PyData.weight (.int i) ≤ 2000 := by
  show (if i == 0 then 0 else i.natAbs.log2 + 1) ≤ 2000
  have := log_lt h1 h2
  split <;> omega
/-- a list of three numbers is shown -/
theorem shw3 {l : Addr} {a b c : Int} (hl : SqL K H l [.int a, .int b, .int c]) (a1 : -(10 ^ 50) < a) (a2 : a < 10 ^ 50) (b1 : -(10 ^ 50) < b) (b2 : b < 10 ^ 50) (c1 : -(10 ^ 50) < c) (c2 : c < 10 ^ 50) : Shw K H (.ref l) (PyData.list [.int a, .int b, .int c]).shown := by
  refine .dp (.lst hl (.cons (.int _) (.cons (.int _) (.cons (.int _) .nil)))) ?_ rfl ?_ ?_
  · show (decide _ && (decide _ && (decide _ && true))) = true
    rw [decide_eq_true (log_lt a1 a2), decide_eq_true (log_lt b1 b2), decide_eq_true (log_lt c1 c2)] <;> rfl
  · exact Nat.le_of_ble_eq_true rfl
  · have h := PyData.shown_le 60 (by decide) (.list [.int a, .int b, .int c]) (by
      show (_ && (_ && (_ && true))) = true
      rw [short_int a1 a2, short_int b1 b2, short_int c1 c2] <;> rfl)
    have e : PyData.weight (.list [.int a, .int b, .int c]) = PyData.weight (.int a) + 1 + (PyData.weight (.int b) + 1 + (PyData.weight (.int c) + 1 + 0)) := rfl
    have := weight_int a1 a2
    have := weight_int b1 b2
    have := weight_int c1 c2
    rw [sizeLine_eq]
    omega
end
/-! ### instances called, the reading free of the context -/
def tCallI (C : Addr) (sp : Sp) (E : XK) (tf : TE) (t : TA) : TE := fun σ H Q => tf σ H fun y H1 => ∃ a, y = V.ref a ∧ t σ H1 fun vs H2 => (∃ dx fs, H2 a = some (.ins C dx fs)) ∧ sp (V.ref a :: vs) H2 Q E
theorem pe_callI {X : Cx} {CX : CXT} {k : Nat} {C g : Addr} {sp : Sp} {E : XK} {fe e : Expr} {es : List Expr} {tf : TE} {t : TA} {pos : Pos} (hf : PE X fe tf) (c : StX.CallO X.K C g) (F : PromOX X CX k g [] sp) (hr : Room k X.A) (hx : Passes CX X E) (ha : PA X (e :: es) t)
    (ht : eval (.Call fe (e :: es) [] pos) X.env = (do callWith pos (← eval fe X.env) [] (backTo pos (starEach (e :: es) X.env)) (backToKw pos (keywordEach [] X.env))) := by rfl)
    (he : starEach (e :: es) X.env = (false, eval e X.env) :: starEach es X.env := by rfl) (hpl : (backTo pos (starEach es X.env)).any (·.1) = false := by rfl) : PE X (.Call fe (e :: es) [] pos) (tCallI C sp E tf t) := by
  refine ⟨fun pins s σ H Q I h => ?_⟩
  refine Call_ (thn (hf.run pins s σ H _ I h) fun u s1 ⟨y, H1, I1, ry, a, ey, q⟩ => ?_) ht
  subst ey
  obtain rfl : u = Value.ref a := ry
  refine StX.callO_with (thn (ha.run pos pins s1 σ H1 _ I1 q) fun us s2 ⟨vs, H2, I2, rv, hi, q2⟩ => ?_) he hpl
  obtain ⟨ox, od, J, hd⟩ := StX.insC_at I2 (.inr hi)
  exact ⟨⟨C, ox, od, J, hd⟩, StX.run_callO c (PromO.raw F) hr hx I2 (.inr hi) rv q2⟩
end Gh

set_option Elab.async false
set_option linter.all false
set_option maxRecDepth 100000
set_option maxHeartbeats 4000000
/-! St: steps of readings: heaps by names, one lemma for each construct's reading; rules of one's own whose readings have names. -/
namespace Gh
open PySem PySem.Spec PyProof.Rows L2
/-! ### heaps -/
/-- p is new, and o stands there -/
structure Nw (H H' : Hp) (p : Addr) (o : HO) : Prop where
  no : H p = none
  same : L2.Same H H'
  at_ : H' p = some o
/-- o stands at p, all else as it was -/
structure Mu (H H' : Hp) (p : Addr) (o : HO) : Prop where
  keep : Keep H H' p
  at_ : H' p = some o
section
variable {H H' : Hp} {p a l : Addr} {o u : HO}
theorem nw_upd (n : H p = none) : Nw H (upd H p o) p o := ⟨n, same_new n, upd_same⟩
theorem mu_upd : Mu H (upd H p o) p o := ⟨Keep.refl.put, upd_same⟩
theorem Nw.up (n : Nw H H' p o) (h : H a = some u) : H' a = some u := n.same _ _ h
theorem same_up (n : L2.Same H H') (h : H a = some u) : H' a = some u := n _ _ h
theorem Mu.up (n : Mu H H' p o) (e : a ≠ p) (h : H a = some u) : H' a = some u := n.keep _ _ h e
theorem keep_up (n : Keep H H' p) (e : a ≠ p) (h : H a = some u) : H' a = some u := n _ _ h e
theorem Mu.free (n : Mu H H' p o) (h : H' a = none) : H a = none := by
  cases e : H a with
  | none => rfl
  | some u =>
    by_cases q : a = p
    · subst q
      rw [n.at_] at h
      cases h
    · rw [n.up q e] at h
      cases h
theorem Nw.ne (n : Nw H H' l o) (h : H a = some u) : l ≠ a := fun e => by
  rw [← e, n.no] at h
  cases h
end
/-- a pen and its cells -/
def Pen (H : Hp) (p c : Addr) (b : Nat) : Prop := ∃ (ns : List Int) (i z : Int), H p = some (.lst [.ref c, .int i, .int z]) ∧ H c = some (.lst (ns.map V.int)) ∧ ns.length ≤ 63 ∧ 0 ≤ i ∧ i + b ≤ 1000000 ∧ 0 ≤ z
section
variable {H H' : Hp} {p c a l : Addr} {o u : HO} {b k : Nat} {xs : List V} {C dx : Addr} {fs : List (Str × V)}
theorem Pen.le (h : Pen H p c b) (q : k ≤ b) : Pen H p c k := by
  obtain ⟨ns, i, z, h1, h2, h3, h4, h5, h6⟩ := h
  exact ⟨ns, i, z, h1, h2, h3, h4, by omega, h6⟩
theorem Pen.same (n : L2.Same H H') (h : Pen H p c b) : Pen H' p c b := by
  obtain ⟨ns, i, z, h1, h2, h3⟩ := h
  exact ⟨ns, i, z, n _ _ h1, n _ _ h2, h3⟩
theorem Pen.nw (n : Nw H H' l o) (h : Pen H p c b) : Pen H' p c b := h.same n.same
theorem Pen.mu (n : Mu H H' l o) (e1 : l ≠ p) (e2 : l ≠ c) (h : Pen H p c b) : Pen H' p c b := by
  obtain ⟨ns, i, z, h1, h2, h3⟩ := h
  exact ⟨ns, i, z, n.up e1.symm h1, n.up e2.symm h2, h3⟩
theorem Pen.keep (n : Keep H H' l) (e1 : l ≠ p) (e2 : l ≠ c) (h : Pen H p c b) : Pen H' p c b := by
  obtain ⟨ns, i, z, h1, h2, h3⟩ := h
  exact ⟨ns, i, z, n _ _ h1 e1.symm, n _ _ h2 e2.symm, h3⟩
theorem nw_pen (n : Nw H H' l o) (h : Pen H p c b) : l ≠ p := by
  obtain ⟨ns, i, z, h1, h2, h3⟩ := h
  exact n.ne h1
theorem nw_cell (n : Nw H H' l o) (h : Pen H p c b) : l ≠ c := by
  obtain ⟨ns, i, z, h1, h2, h3⟩ := h
  exact n.ne h2
theorem tup_pen (n : H a = some (.tup xs)) (h : Pen H p c b) : a ≠ p := by
  obtain ⟨ns, i, z, h1, h2, h3⟩ := h
  exact ne_of n h1 (by intro e; cases e)
theorem tup_cell (n : H a = some (.tup xs)) (h : Pen H p c b) : a ≠ c := by
  obtain ⟨ns, i, z, h1, h2, h3⟩ := h
  exact ne_of n h2 (by intro e; cases e)
theorem ins_pen (n : H a = some (.ins C dx fs)) (h : Pen H p c b) : a ≠ p := by
  obtain ⟨ns, i, z, h1, h2, h3⟩ := h
  exact ne_of n h1 (by intro e; cases e)
theorem ins_cell (n : H a = some (.ins C dx fs)) (h : Pen H p c b) : a ≠ c := by
  obtain ⟨ns, i, z, h1, h2, h3⟩ := h
  exact ne_of n h2 (by intro e; cases e)
theorem Pen.cells (h : Pen H p c b) : c ≠ p := by
  obtain ⟨ns, i, z, h1, h2, h3⟩ := h
  exact pen_ne h1 h2
end
section
variable {H H' : Hp} {a t l : Addr} {o u : HO} {xs ys : List V} {C dx : Addr} {fs : List (Str × V)}
theorem ins_lst (h : H a = some (.ins C dx fs)) (k : H t = some (.lst xs)) : a ≠ t := ne_of h k (by intro e; cases e)
theorem ins_tup (h : H a = some (.ins C dx fs)) (k : H t = some (.tup xs)) : a ≠ t := ne_of h k (by intro e; cases e)
theorem tup_lst (h : H a = some (.tup ys)) (k : H t = some (.lst xs)) : a ≠ t := ne_of h k (by intro e; cases e)
theorem nw_ne (n : Nw H H' l o) (h : H a = some u) : l ≠ a := n.ne h
end
/-- the promise of the def that draws -/
def spDr : Sp := fun vs H Q _ => ∃ (p c : Addr) (b : Nat) (m : Int), vs = [.ref p, .int m] ∧ 0 < m ∧ m.natAbs.log2 < 9000 ∧ Pen H p c (b + 1) ∧
  ∀ (d : Int) (H' : Hp), 0 ≤ d → d < m → Pen H' p c b → Keep H H' p → Q (.int d) H'
/-- the promise of the def that makes a pen -/
def spPn (K : PySem.W.Frag) : Sp := fun vs H Q _ => ∃ (a : Addr) (ns : List Int), vs = [.ref a] ∧ SqL K H a (ns.map V.int) ∧ ns.length ≤ 63 ∧ ∀ (p c : Addr) (H' : Hp), H p = none → Pen H' p c 1000000 → L2.Same H H' → Q (.ref p) H'
/-- the promise of the def that picks -/
def spPk : Sp := fun vs H Q _ => ∃ (p c : Addr) (b : Nat) (l : Addr) (xs : List V), vs = [.ref p, .ref l] ∧ H l = some (.lst xs) ∧ 0 < xs.length ∧ xs.length ≤ 1000 ∧ l ≠ p ∧ Pen H p c (b + 1) ∧
  ∀ (j : Nat) (v : V) (H' : Hp), xs[j]? = some v → Pen H' p c b → Keep H H' p → Q v H'
section
variable {H : Hp} {E : XK} {Q : VK} {p c l : Addr} {b : Nat} {m : Int} {xs : List V}
theorem st_draw (pn : Pen H p c (b + 1)) (h0 : 0 < m) (h9 : m.natAbs.log2 < 9000) (q : ∀ (d : Int) (H' : Hp), 0 ≤ d → d < m → Pen H' p c b → Keep H H' p → Q (.int d) H') : rSp spDr [] E [.ref p, .int m] H Q :=
  ⟨p, c, b, m, rfl, h0, h9, pn, q⟩
theorem st_pick (hl : H l = some (.lst xs)) (pn : Pen H p c (b + 1)) (h0 : 0 < xs.length) (h9 : xs.length ≤ 1000) (ne : l ≠ p) (q : ∀ (j : Nat) (v : V) (H' : Hp), xs[j]? = some v → Pen H' p c b → Keep H H' p → Q v H') : rSp spPk [] E [.ref p, .ref l] H Q :=
  ⟨p, c, b, l, xs, rfl, hl, h0, h9, ne, pn, q⟩
theorem log_of (h0 : 0 < m) (h : m < 10 ^ 100) : m.natAbs.log2 < 9000 := by
  have h2 : m.natAbs < 2 ^ 9000 := Nat.lt_of_lt_of_le (show m.natAbs < 10 ^ 100 by omega) (by decide)
  exact (Nat.log2_lt (by omega)).mpr h2
end
/-! ### rules whose readings have names -/
@[irreducible] def rLn (K : PySem.W.Frag) : List V → Hp → VK → Prop := fun xs H Q => ∃ x n, xs = [x] ∧ LenV K x H n ∧ Q (.int n) H
@[irreducible] def rListOf (K : PySem.W.Frag) : List V → Hp → VK → Prop := fun xs H Q => ∃ p ys, xs = [.ref p] ∧ (SqL K H p ys ∨ SqT K H p ys) ∧ ∀ l, H l = none → Q (.ref l) (upd H l (.lst ys))
@[irreducible] def rTupOf (K : PySem.W.Frag) : List V → Hp → VK → Prop := fun xs H Q => ∃ p ys, xs = [.ref p] ∧ ((SqL K H p ys ∧ ∀ l, H l = none → Q (.ref l) (upd H l (.tup ys))) ∨ (SqT K H p ys ∧ Q (.ref p) H))
@[irreducible] def rInt : List V → Hp → VK → Prop := rInt1
@[irreducible] def rAbs : List V → Hp → VK → Prop := fun xs H Q => ∃ i, xs = [.int i] ∧ Q (.int (if i < 0 then -i else i)) H
@[irreducible] def rStrI : List V → Hp → VK → Prop := fun xs H Q => ∃ i, xs = [.int i] ∧ i.natAbs.log2 < 1920 ∧ Q (.str (toString i)) H
@[irreducible] def rIsN : R2 := fun x y H Q => y = .non ∧ Q (.bl (decide (x = .non))) H
@[irreducible] def rNotN : R2 := fun x y H Q => y = .non ∧ Q (.bl (!decide (x = .non))) H
section
variable {X : Cx} {K : PySem.W.Frag}
theorem cr_len (h : X.K = K) : CallR X (.builtin "len") (rLn K) := by unfold rLn; exact h ▸ call_len
theorem cr_listOf (h : X.K = K) : CallR X (.type "list") (rListOf K) := by unfold rListOf; exact h ▸ call_list_of
theorem cr_tupOf (h : X.K = K) : CallR X (.type "tuple") (rTupOf K) := by unfold rTupOf; exact h ▸ call_tuple_of
theorem cr_int : CallR X (.type "int") rInt := by unfold rInt; exact call_int1
theorem cr_abs : CallR X (.builtin "abs") rAbs := by unfold rAbs; exact call_abs
theorem cr_strI : CallR X (.type "str") rStrI := by unfold rStrI; exact call_str_int
theorem or_isN : OpR X (compareOp .Is) rIsN := by unfold rIsN; exact op_isN
theorem or_notN : OpR X (compareOp .IsNot) rNotN := by unfold rNotN; exact op_notN
theorem sl_listK (h : X.K = K) : SlR X (rSlL K) := h ▸ sl_list
theorem sl_tupK (h : X.K = K) : SlR X (rSlT K) := h ▸ sl_tup
theorem op_inK (h : X.K = K) : OpR X (compareOp .In) (rIn K false) := h ▸ op_in_seq
theorem op_eqDK (h : X.K = K) (hu : X.A.units + 64 < cLine) : OpR X (compareOp .Eq) (rEqD K) := h ▸ op_eqD hu
theorem op_neDK (h : X.K = K) (hu : X.A.units + 64 < cLine) : OpR X (compareOp .NotEq) (rNeD K) := h ▸ op_neD hu
theorem call_isiTK {X : Cx} {K : PySem.W.Frag} (h : X.K = K) : CallR X (.builtin "isinstance") (rIsiT K) := h ▸ call_isiT
/-- o.f, the class told -/
@[irreducible] def rFld (C : Addr) (f : Str) : V → Hp → VK → Prop := fun x H Q => ∃ a dx fs v, x = .ref a ∧ H a = some (.ins C dx fs) ∧ fs.lookup f = some v ∧ Q v H
theorem pe_f {C : Addr} {e : Expr} {f : Str} {pos : Pos} {ta : TE} (he : PE X e ta) (c : Cls X.K C) (n : NoAttr X.K C f) (hb : attributeBase e f X.env (eval e X.env) = eval e X.env := by rfl) : PE X (.Attribute e f pos) (tUn (rFld C f) ta) := by
  refine ⟨fun pins s σ H Q I h => ?_⟩
  refine attr_of hb (thn (he.run pins s σ H _ I h) fun u s1 ⟨x, H1, I1, rx, q0⟩ => ?_)
  unfold rFld at q0
  obtain ⟨a, dx, fs, v, ex, ea, l, q⟩ := q0
  subst ex
  obtain rfl : u = Value.ref a := rx
  exact getattr_ok I1 ea c n l fun u' s2 I2 ru => ⟨v, H1, I2, ru, q⟩
/-- o.f = e, the class told -/
@[irreducible] def sF (C : Addr) (ta tv : TE) (f : Str) : TS := fun D σ H => tv σ H fun y H1 => ta σ H1 fun x H2 => ∃ a dx fs, x = .ref a ∧ H2 a = some (.ins C dx fs) ∧ fs.length < 1000 ∧ D.nx σ (upd H2 a (.ins C dx (putF f y fs)))
theorem ps_f {C : Addr} {o value : Expr} {f : Str} {pos pos' : Pos} {ta tv : TE} (ha : PE X o ta) (hv : PE X value tv) (c : Cls X.K C) (n : NoAttr X.K C f) (hs : swapsWith value (some (.Attribute o f pos')) pos.line X.env = pure false := by rfl) : PS X (.Assign [.Attribute o f pos'] value pos) (sF C ta tv f) := by
  refine ⟨fun pins s σ H D I h => ?_⟩
  unfold sF at h
  refine plainObj_wpAny_Assign_Attribute (thn (hv.run pins s σ H _ I h) fun u s1 ⟨y, H1, I1, ry, q⟩ => thn (ha.run pins s1 σ H1 _ I1 q) fun ov s2 ⟨x, H2, I2, rx, a, dx, fs, ex, ea, l, q2⟩ => ?_) hs
  subst ex
  obtain rfl : ov = Value.ref a := rx
  exact setattr_ok I2 ea c n l ry fun s3 I3 => ⟨σ, _, I3, q2⟩
/-- o.NAME, a constant of the class, the class told -/
@[irreducible] def rConst (C : Addr) (f : Str) (v : V) : V → Hp → VK → Prop := fun x H Q => ∃ a dx fs, x = .ref a ∧ H a = some (.ins C dx fs) ∧ fs.lookup f = none ∧ Q v H
theorem pe_c {C : Addr} {e : Expr} {f : Str} {pos : Pos} {ta : TE} {v : V} {u0 : Value} (he : PE X e ta) (c : Cls X.K C) (k : Con X.K C f v u0) (hb : attributeBase e f X.env (eval e X.env) = eval e X.env := by rfl) : PE X (.Attribute e f pos) (tUn (rConst C f v) ta) := by
  refine ⟨fun pins s σ H Q I h => ?_⟩
  refine attr_of hb (thn (he.run pins s σ H _ I h) fun u s1 ⟨x, H1, I1, rx, q0⟩ => ?_)
  unfold rConst at q0
  obtain ⟨a, dx, fs, ex, ea, l, q⟩ := q0
  subst ex
  obtain rfl : u = Value.ref a := rx
  exact getcon_ok I1 ea c k l fun s2 I2 => ⟨v, H1, I2, k.rel, q⟩
end
/-! ### steps -/
theorem len_ok {n : Nat} (h : n ≤ 100000) : n ≤ sizeLine := Nat.le_trans h (by decide)
/-- a ** b of two written numbers -/
@[irreducible] def rPowK (r : Int) : R2 := fun x y H Q => ∃ i j, x = .int i ∧ y = .int j ∧ CPow i j ∧ i ^ j.toNat = r ∧ Q (.int r) H
theorem op_powK {X : Cx} (r : Int) : OpR X (binaryOp .Pow) (rPowK r) := by
  intro pins s σ H x y v u Q I rx ry h
  unfold rPowK at h
  obtain ⟨i, j, h1, h2, h3, h4, q⟩ := h
  exact op_pow pins s σ H x y v u Q I rx ry ⟨i, j, h1, h2, h3, by show Q (.int (i ^ j.toNat)) H; rw [h4]; exact q⟩
section
variable {K : PySem.W.Frag} {H : Hp} {σ : L2.St} {Q : VK} {D : Ends} {i j n : Int} {x y v : V} {ta tb tc te tf : TE} {t u : TS} {c d : TT} {k : Bool} {a l p C dx : Addr} {xs ys : List V} {A B : Prop}
theorem st_seq (h : t { D with nx := u D } σ H) : tSeq t u D σ H := h
theorem st_nx (h : D.nx σ H) : tNext D σ H := h
theorem st_asg {g : TG} (h : te σ H fun x H1 => g x σ H1 D.nx) : tAsg te g D σ H := h
theorem st_name {m : Nat} {Q : L2.St → Hp → Prop} (h : Q (σ.set m (some v)) H) : gName m v σ H Q := h
theorem st_drop (h : te σ H fun _ H1 => D.nx σ H1) : tDrop te D σ H := h
theorem st_ret (h : te σ H D.rt) : tRet te D σ H := h
theorem st_retN (h : D.rt .non H) : tRetN D σ H := h
theorem st_ifS (h : c σ H fun b H1 => if b = true then t D σ H1 else u D σ H1) : tIfS c t u D σ H := h
theorem st_brk (h : D.bk σ H) : tBreak D σ H := h
theorem st_cnt (h : D.ct σ H) : tCont D σ H := h
theorem st_par {m m' : Nat} {t : TA} (h : t σ H fun vs H1 => ∃ v w, vs = [v, w] ∧ D.nx ((σ.set m (some v)).set m' (some w)) H1) : tPar m m' t D σ H := h
theorem st_par2 {P : V → V → Prop} (h : P x y) : ∃ v w, [x, y] = [v, w] ∧ P v w := ⟨x, y, rfl, h⟩
theorem st_aug {m : Nat} {ti : TIp} (e : σ[m]? = some (some x)) (h : te σ H fun y H1 => ti x y H1 fun z H2 => D.nx (σ.set m (some z)) H2) : tAug m te ti D σ H := ⟨x, e, h⟩
theorem st_var {m : Nat} (e : σ[m]? = some (some v)) (h : Q v H) : tVar m σ H Q := ⟨v, e, h⟩
theorem st_c (h : Q v H) : tC v σ H Q := h
theorem st_op {r : R2} (h : ta σ H fun x H1 => tb σ H1 fun y H2 => r x y H2 Q) : tOp r ta tb σ H Q := h
theorem st_un {r : V → Hp → VK → Prop} (h : ta σ H fun x H1 => r x H1 Q) : tUn r ta σ H Q := h
theorem st_rI0 {g : Int → Int → V} (h : Q (g i j) H) : rI0 g (.int i) (.int j) H Q := ⟨i, j, rfl, rfl, h⟩
theorem st_rI {g : Int → Int → V} {R : Int → Int → Prop} (hc : R i j) (h : Q (g i j) H) : rI R g (.int i) (.int j) H Q := ⟨i, j, rfl, rfl, hc, h⟩
theorem st_rU {g : Int → V} (h : Q (g i) H) : rU g (.int i) H Q := ⟨i, rfl, h⟩
theorem st_rAdd (h : Q (.int (i + j)) H) : rAdd (.int i) (.int j) H Q := ⟨i, j, rfl, rfl, h⟩
theorem st_rSub (h : Q (.int (i - j)) H) : rSub (.int i) (.int j) H Q := ⟨i, j, rfl, rfl, h⟩
theorem st_eq (e : scal x y = true) (h : Q (.bl (decide (x = y))) H) : rEq x y H Q := ⟨e, h⟩
theorem st_ne (e : scal x y = true) (h : Q (.bl (!decide (x = y))) H) : rNe x y H Q := ⟨e, h⟩
theorem st_isN (h : Q (.bl (decide (x = .non))) H) : rIsN x .non H Q := by unfold rIsN; exact ⟨rfl, h⟩
theorem st_notN (h : Q (.bl (!decide (x = .non))) H) : rNotN x .non H Q := by unfold rNotN; exact ⟨rfl, h⟩
theorem st_test {Q : Bool → Hp → Prop} (h : te σ H fun x H' => ∃ k, x = .bl k ∧ Q k H') : tTest te σ H Q := h
theorem st_tB {Q : Bool → Hp → Prop} (h : te σ H fun x H' => ∃ k, x = .bl k ∧ Q k H') : tB te σ H Q := h
theorem st_ebl {P : Bool → Prop} (h : P k) : ∃ k', V.bl k = .bl k' ∧ P k' := ⟨k, rfl, h⟩
theorem st_eint {P : Int → Prop} (h : P i) : ∃ k', V.int i = .int k' ∧ P k' := ⟨i, rfl, h⟩
theorem st_and {Q : Bool → Hp → Prop} (h : c σ H fun k H1 => if k = true then d σ H1 Q else Q false H1) : tAnd c d σ H Q := h
theorem st_or {Q : Bool → Hp → Prop} (h : c σ H fun k H1 => if k = true then Q true H1 else d σ H1 Q) : tOr c d σ H Q := h
theorem st_not {Q : Bool → Hp → Prop} (h : c σ H fun k H1 => Q (!k) H1) : tNot c σ H Q := h
theorem st_andV (h : ta σ H fun x H1 => ∃ c, x = .bl c ∧ if c = true then tb σ H1 Q else Q (.bl false) H1) : tAndV ta tb σ H Q := h
theorem st_orV (h : ta σ H fun x H1 => ∃ c, x = .bl c ∧ if c = true then Q (.bl true) H1 else tb σ H1 Q) : tOrV ta tb σ H Q := h
theorem st_notV (h : ta σ H fun x H1 => ∃ c, x = .bl c ∧ Q (.bl (!c)) H1) : tNotV ta σ H Q := h
theorem st_ifE (h : c σ H fun k H1 => if k = true then ta σ H1 Q else tb σ H1 Q) : tIf c ta tb σ H Q := h
theorem st_chain {r r' : R2} (h : ta σ H fun x H1 => tb σ H1 fun y H2 => r x y H2 fun z H3 => ∃ k, z = .bl k ∧ if k = true then tc σ H3 fun w H4 => r' y w H4 Q else Q (.bl false) H3) : tChain r r' ta tb tc σ H Q := h
theorem st_if1 (e : k = true) (h : A) : if k = true then A else B := by rw [if_pos e]; exact h
theorem st_if0 (e : k = false) (h : B) : if k = true then A else B := by rw [e, if_neg (by decide)]; exact h
theorem st_nil {Q : List V → Hp → Prop} (h : Q [] H) : tNil σ H Q := h
theorem st_cons {t : TA} {Q : List V → Hp → Prop} (h : ta σ H fun x H1 => t σ H1 fun xs H2 => Q (x :: xs) H2) : tCons ta t σ H Q := h
theorem st_cl {r : List V → Hp → VK → Prop} {t : TA} (h : t σ H fun vs H1 => r vs H1 Q) : tCl r t σ H Q := h
theorem st_cb {r : List V → Hp → VK → Prop} {t : TA} (h : t σ H fun vs H1 => r vs H1 Q) : tCB r t σ H Q := h
theorem st_mt {m : Str} {r : List V → Hp → VK → Prop} {t : TA} (h : ta σ H fun x H1 => ∃ a dx fs, x = .ref a ∧ H1 a = some (.ins C dx fs) ∧ fs.lookup m = none ∧ t σ H1 fun vs H2 => r (x :: vs) H2 Q) : tMt C m r ta t σ H Q := h
theorem st_emt {m : Str} {fs : List (Str × V)} {P : Prop} (h : H a = some (.ins C dx fs)) (e : fs.lookup m = none) (q : P) : ∃ a' dx fs, V.ref a = .ref a' ∧ H a' = some (.ins C dx fs) ∧ fs.lookup m = none ∧ P := ⟨a, dx, fs, rfl, h, e, q⟩
theorem st_pr {sp : Sp} {dvs : List V} {E : XK} (h : ta σ H fun x H1 => ∃ a dx fs, x = .ref a ∧ H1 a = some (.ins C dx fs) ∧ sp (.ref a :: dvs) H1 Q E) : tPr C sp dvs E ta σ H Q := h
theorem st_epr {fs : List (Str × V)} {sp : Sp} {dvs : List V} {E : XK} (h : H a = some (.ins C dx fs)) (q : rSp sp dvs E [.ref a] H Q) : ∃ a' dx fs, V.ref a = .ref a' ∧ H a' = some (.ins C dx fs) ∧ sp (.ref a' :: dvs) H Q E := ⟨a, dx, fs, rfl, h, q⟩
theorem st_fld {f : Str} {fs : List (Str × V)} (h : H a = some (.ins C dx fs)) (e : fs.lookup f = some v) (q : Q v H) : rFld C f (.ref a) H Q := by unfold rFld; exact ⟨a, dx, fs, v, rfl, h, e, q⟩
theorem st_const {f : Str} {fs : List (Str × V)} (h : H a = some (.ins C dx fs)) (e : fs.lookup f = none) (q : Q v H) : rConst C f v (.ref a) H Q := by unfold rConst; exact ⟨a, dx, fs, rfl, h, e, q⟩
def rSetF (C : Addr) (f : Str) (y x : V) (H : Hp) (P : Hp → Prop) : Prop := ∃ a dx fs, x = .ref a ∧ H a = some (.ins C dx fs) ∧ fs.length < 1000 ∧ P (upd H a (.ins C dx (putF f y fs)))
theorem st_sF {f : Str} (h : te σ H fun y H1 => ta σ H1 fun x H2 => rSetF C f y x H2 fun H3 => D.nx σ H3) : sF C ta te f D σ H := by unfold sF; exact h
theorem st_setF {f : Str} {fs : List (Str × V)} {P : Hp → Prop} (h : H a = some (.ins C dx fs)) (e : fs.length < 1000) (q : ∀ H', Mu H H' a (.ins C dx (putF f y fs)) → P H') : rSetF C f y (.ref a) H P := ⟨a, dx, fs, rfl, h, e, q _ mu_upd⟩
theorem st_powK {r : Int} (h1 : CPow i j) (h2 : i ^ j.toNat = r) (q : Q (.int r) H) : rPowK r (.int i) (.int j) H Q := by unfold rPowK; exact ⟨i, j, rfl, rfl, h1, h2, q⟩
/-! lists and tuples -/
def rNewL (xs : List V) (H : Hp) (Q : VK) : Prop := xs.length ≤ sizeLine ∧ ∀ p, H p = none → Q (.ref p) (upd H p (.lst xs))
def rNewT (xs : List V) (H : Hp) (Q : VK) : Prop := xs.length ≤ sizeLine ∧ ∀ p, H p = none → Q (.ref p) (upd H p (.tup xs))
theorem st_lst {t : TA} (h : t σ H fun xs H1 => rNewL xs H1 Q) : tLst t σ H Q := h
theorem st_tup {t : TA} (h : t σ H fun xs H1 => rNewT xs H1 Q) : tTup t σ H Q := h
theorem st_newL (e : xs.length ≤ sizeLine) (h : ∀ p H', Nw H H' p (.lst xs) → Q (.ref p) H') : rNewL xs H Q := ⟨e, fun p np => h p _ (nw_upd np)⟩
theorem st_newT (e : xs.length ≤ sizeLine) (h : ∀ p H', Nw H H' p (.tup xs) → Q (.ref p) H') : rNewT xs H Q := ⟨e, fun p np => h p _ (nw_upd np)⟩
theorem new_of {o : HO} (h : ∀ p H', Nw H H' p o → Q (.ref p) H') : ∀ p, H p = none → Q (.ref p) (upd H p o) := fun p np => h p _ (nw_upd np)
theorem st_ixL (h : H p = some (.lst xs)) (e : atI xs i = some v) (q : Q v H) : rIxL K (.ref p) (.int i) H Q := ⟨p, xs, i, v, rfl, rfl, SqL.of h, e, q⟩
theorem st_ixLs (h : SqL K H p xs) (e : atI xs i = some v) (q : Q v H) : rIxL K (.ref p) (.int i) H Q := ⟨p, xs, i, v, rfl, rfl, h, e, q⟩
theorem st_ixT (h : H p = some (.tup xs)) (e : atI xs i = some v) (q : Q v H) : rIxT K (.ref p) (.int i) H Q := ⟨p, xs, i, v, rfl, rfl, SqT.of h, e, q⟩
theorem st_ixTs (h : SqT K H p xs) (e : atI xs i = some v) (q : Q v H) : rIxT K (.ref p) (.int i) H Q := ⟨p, xs, i, v, rfl, rfl, h, e, q⟩
theorem st_lenL (h : H p = some (.lst xs)) (q : Q (.int xs.length) H) : rLn K [.ref p] H Q := by unfold rLn; exact ⟨_, _, rfl, .inl ⟨xs, SqL.of h, rfl⟩, q⟩
theorem st_lenT (h : H p = some (.tup xs)) (q : Q (.int xs.length) H) : rLn K [.ref p] H Q := by unfold rLn; exact ⟨_, _, rfl, .inr ⟨xs, SqT.of h, rfl⟩, q⟩
theorem st_lenS {z : Str} (e : z.length ≤ sizeLine) (q : Q (.int z.length) H) : rLn K [.str z] H Q := by unfold rLn; exact ⟨_, _, rfl, ⟨e, rfl⟩, q⟩
theorem st_listL (h : H p = some (.lst xs)) (q : ∀ l H', Nw H H' l (.lst xs) → Q (.ref l) H') : rListOf K [.ref p] H Q := by unfold rListOf; exact ⟨p, xs, rfl, .inl (SqL.of h), new_of q⟩
theorem st_listT (h : H p = some (.tup xs)) (q : ∀ l H', Nw H H' l (.lst xs) → Q (.ref l) H') : rListOf K [.ref p] H Q := by unfold rListOf; exact ⟨p, xs, rfl, .inr (SqT.of h), new_of q⟩
theorem st_tupL (h : H p = some (.lst xs)) (q : ∀ l H', Nw H H' l (.tup xs) → Q (.ref l) H') : rTupOf K [.ref p] H Q := by unfold rTupOf; exact ⟨p, xs, rfl, .inl ⟨SqL.of h, new_of q⟩⟩
theorem st_tupT (h : H p = some (.tup xs)) (q : Q (.ref p) H) : rTupOf K [.ref p] H Q := by unfold rTupOf; exact ⟨p, xs, rfl, .inr ⟨SqT.of h, q⟩⟩
theorem st_int (q : Q (.int i) H) : rInt [.int i] H Q := by unfold rInt; exact .inl ⟨i, rfl, q⟩
theorem st_intB (q : Q (.int (if k = true then 1 else 0)) H) : rInt [.bl k] H Q := by unfold rInt; exact .inr ⟨k, rfl, q⟩
theorem st_abs (q : Q (.int (if i < 0 then -i else i)) H) : rAbs [.int i] H Q := by unfold rAbs; exact ⟨i, rfl, q⟩
theorem st_strI (e : i.natAbs.log2 < 1920) (q : Q (.str (toString i)) H) : rStrI [.int i] H Q := by unfold rStrI; exact ⟨i, rfl, e, q⟩
theorem st_sl {r : V → Option Int → Option Int → Hp → VK → Prop} {tl th : TO} (h : te σ H fun x H1 => tl σ H1 fun l H2 => th σ H2 fun u H3 => r x l u H3 Q) : tSl r te tl th σ H Q := h
theorem st_part {Q : Option Int → Hp → Prop} (h : te σ H fun x H1 => ∃ i, x = .int i ∧ Q (some i) H1) : tPart te σ H Q := h
theorem st_nopart {Q : Option Int → Hp → Prop} (h : Q none H) : tNoPart σ H Q := h
theorem st_slL {lo hi : Option Int} (h : H p = some (.lst xs)) (q : ∀ l H', Nw H H' l (.lst (cutV xs lo hi)) → Q (.ref l) H') : rSlL K (.ref p) lo hi H Q := ⟨p, xs, rfl, SqL.of h, new_of q⟩
theorem st_slLs {lo hi : Option Int} (h : SqL K H p xs) (q : ∀ l H', Nw H H' l (.lst (cutV xs lo hi)) → Q (.ref l) H') : rSlL K (.ref p) lo hi H Q := ⟨p, xs, rfl, h, new_of q⟩
theorem st_cat (h : H l = some (.lst xs)) (h' : H p = some (.lst ys)) (e : xs.length + ys.length ≤ sizeLine) (q : ∀ a H', Nw H H' a (.lst (xs ++ ys)) → Q (.ref a) H') : rCat (.ref l) (.ref p) H Q := ⟨l, p, xs, ys, rfl, rfl, h, h', e, new_of q⟩
theorem st_bm {T : String} {r : V → List V → Hp → VK → Prop} {t : TA} (h : te σ H fun x H1 => tyV K T x H1 ∧ t σ H1 fun xs H2 => r x xs H2 Q) : tBM K T r te t σ H Q := h
theorem st_bm0 {T : String} {r : V → List V → Hp → VK → Prop} (h : te σ H fun x H1 => tyV K T x H1 ∧ r x [] H1 Q) : tBM0 K T r te σ H Q := h
theorem st_tyL {P : Prop} (h : H p = some (.lst xs)) (q : P) : tyV K "list" (.ref p) H ∧ P := ⟨.inl ⟨rfl, xs, SqL.of h⟩, q⟩
theorem st_tyS {z : Str} {P : Prop} (q : P) : tyV K "str" (.str z) H ∧ P := ⟨rfl, q⟩
theorem st_app (h : H l = some (.lst xs)) (e : xs.length < sizeLine) (q : ∀ H', Mu H H' l (.lst (xs ++ [y])) → Q .non H') : rAppend (.ref l) [y] H Q := ⟨l, xs, y, rfl, rfl, h, e, q _ mu_upd⟩
theorem st_gsub {to ti : TE} {ts : TSet} {Q : L2.St → Hp → Prop} (h : to σ H fun o H1 => ti σ H1 fun i H2 => ts o i v H2 fun H3 => Q σ H3) : gSub to ti ts v σ H Q := h
theorem st_setL {m : Nat} {Q : Hp → Prop} (h : H p = some (.lst xs)) (e : ixN xs.length i = some m) (q : ∀ H', Mu H H' p (.lst (xs.set m v)) → Q H') : rSetL (.ref p) (.int i) v H Q := ⟨p, xs, i, m, rfl, rfl, h, e, q _ mu_upd⟩
theorem st_show {z : Str} (h : Shw K H v z) (q : Q (.str z) H) : rShow K [v] H Q := rShow_of h q
theorem st_isi {cv : V} {tv uv : Value} {b : Bool} (h1 : ClsV cv uv) (h2 : TyX K H x tv) (h3 : PySem.W.kitOne K tv uv = some b) (q : Q (.bl b) H) : rIsi K [x, cv] H Q := ⟨x, cv, tv, uv, b, rfl, h1, h2, h3, q⟩
theorem st_eqD {d e : PyData} (h1 : Dp K H x d) (h2 : Dp K H y e) (h3 : SeqAt.shaped d = true) (h4 : SeqAt.shaped e = true) (q : Q (.bl (PyData.eqv d e)) H) : rEqD K x y H Q := ⟨d, e, h1, h2, h3, h4, q⟩
theorem st_neD {d e : PyData} (h1 : Dp K H x d) (h2 : Dp K H y e) (h3 : SeqAt.shaped d = true) (h4 : SeqAt.shaped e = true) (q : Q (.bl (!PyData.eqv d e)) H) : rNeD K x y H Q := ⟨d, e, h1, h2, h3, h4, q⟩
theorem st_gtup {m : Nat} {g : TGs} {Q : L2.St → Hp → Prop} (h : H a = some (.tup xs)) (e : xs.length = m) (q : g xs σ H Q) : gTup K m g (.ref a) σ H Q := ⟨a, xs, rfl, SqT.of h, e, q⟩
theorem st_gcons {g : TG} {gs : TGs} {Q : L2.St → Hp → Prop} (h : g v σ H fun σ' H' => gs xs σ' H' Q) : gCons g gs (v :: xs) σ H Q := ⟨v, xs, rfl, h⟩
theorem st_gnil {Q : L2.St → Hp → Prop} (h : Q σ H) : gNil [] σ H Q := ⟨rfl, h⟩
theorem st_list {R : It → Hp → Prop} (h : te σ H fun x H1 => ∃ a, x = .ref a ∧ (∃ xs, SqL K H1 a xs) ∧ R (Itl K a) H1) : iList K te σ H R := h
theorem st_elist {P : Addr → Prop} (h : H a = some (.lst xs)) (q : P a) : ∃ a', V.ref a = .ref a' ∧ (∃ xs, SqL K H a' xs) ∧ P a' := ⟨a, rfl, ⟨xs, SqL.of h⟩, q⟩
theorem st_itup {R : It → Hp → Prop} (h : te σ H fun x H1 => ∃ a, x = .ref a ∧ (∃ xs, SqT K H1 a xs) ∧ R (Itt K a) H1) : iTup K te σ H R := h
theorem st_eitup {P : Addr → Prop} (h : H a = some (.tup xs)) (q : P a) : ∃ a', V.ref a = .ref a' ∧ (∃ xs, SqT K H a' xs) ∧ P a' := ⟨a, rfl, ⟨xs, SqT.of h⟩, q⟩
end
end Gh

set_option Elab.async false
set_option linter.all false
set_option maxRecDepth 100000
set_option maxHeartbeats 4000000
/-! Sw: three comparisons in a row; a list's slice set; calls with keywords. -/
namespace Gh
open PySem PySem.Spec PyProof.Rows L2
section
variable {X : Cx} {a b c d : Expr} {ta tb tc td : TE} {pos : Pos}
/-- a op1 b op2 c op3 d -/
def tChain3 (r r' r2 : R2) (ta tb tc td : TE) : TE := fun σ H Q => ta σ H fun x H1 => tb σ H1 fun y H2 => r x y H2 fun z H3 => ∃ k, z = .bl k ∧
  (if k = true then tc σ H3 fun w H4 => r' y w H4 fun z' H5 => ∃ k', z' = .bl k' ∧ (if k' = true then td σ H5 fun v H6 => r2 w v H6 Q else Q (.bl false) H5) else Q (.bl false) H3)
theorem pt_chain3 {op op' op2 : CmpOp} {r r' r2 : R2} (ho : OpR X (compareOp op) r) (ho' : OpR X (compareOp op') r') (ho2 : OpR X (compareOp op2) r2) (ha : PE X a ta) (hb : PE X b tb) (hc : PE X c tc) (hd : PE X d td)
    (hm : lastMarks [op, op', op2] [b, c, d] = false := by with_unfolding_all rfl) : PT X (.Compare a [op, op', op2] [b, c, d] pos) (tTest (tChain3 r r' r2 ta tb tc td)) := by
  refine ⟨fun pins s σ H Q I h => ?_⟩
  refine isTrue_chain (thn (ha.run pins s σ H _ I h) fun v s1 ⟨x, H1, I1, r1, q1⟩ => test_link (thn (hb.run pins s1 σ H1 _ I1 q1) fun u s2 ⟨y, H2, I2, rr2, q2⟩ =>
    thn (ho pins s2 σ H2 x y v u _ I2 r1 rr2 q2) fun d s3 ⟨z, H3, I3, r3, k, e, q3⟩ => ?_)) hm
  subst e
  cases r3
  refine wpAny_truthy_bool ?_
  cases k with
  | false =>
    obtain ⟨k', e', q'⟩ := q3
    cases e'
    exact ite_ff ⟨H3, I3, q'⟩
  | true =>
    refine ite_tt (test_link (thn (hc.run pins s3 σ H3 _ I3 q3) fun w' s4 ⟨z', H4, I4, r4, q4⟩ => thn (ho' pins s4 σ H4 y z' u w' _ I4 rr2 r4 q4) fun d' s5 ⟨z2, H5, I5, r5, k2, e2, q5⟩ => ?_))
    subst e2
    cases r5
    refine wpAny_truthy_bool ?_
    cases k2 with
    | false =>
      obtain ⟨k', e', q'⟩ := q5
      cases e'
      exact ite_ff ⟨H5, I5, q'⟩
    | true =>
      refine ite_tt (test_last (thn (hd.run pins s5 σ H5 _ I5 q5) fun w2 s6 ⟨z3, H6, I6, r6, q6⟩ => thn (ho2 pins s6 σ H6 z' z3 w' w2 _ I6 r4 r6 q6) fun d2 s7 ⟨z4, H7, I7, r7, k3, e3, q7⟩ => ?_))
      subst e3
      cases r7
      exact wpAny_truthy_bool ⟨H7, I7, q7⟩
theorem st_chain3 {σ : L2.St} {H : Hp} {Q : VK} {r r' r2 : R2} (h : ta σ H fun x H1 => tb σ H1 fun y H2 => r x y H2 fun z H3 => ∃ k, z = .bl k ∧
  (if k = true then tc σ H3 fun w H4 => r' y w H4 fun z' H5 => ∃ k', z' = .bl k' ∧ (if k' = true then td σ H5 fun v H6 => r2 w v H6 Q else Q (.bl false) H5) else Q (.bl false) H3)) : tChain3 r r' r2 ta tb tc td σ H Q := h
/-! ### xs[a:c] = ys -/
/-- x[lo:hi] = v, lists both -/
def gSl (to tl th : TE) : TG := fun v σ H Q => to σ H fun x H1 => tl σ H1 fun lo H2 => th σ H2 fun hi H3 => ∃ (l m : Addr) (i j : Int) (xs ys : List V), x = .ref l ∧ v = .ref m ∧ lo = .int i ∧ hi = .int j ∧ H3 l = some (.lst xs) ∧ H3 m = some (.lst ys) ∧ l ≠ m ∧ 0 ≤ i ∧ i ≤ j ∧ j ≤ xs.length ∧ xs.length + ys.length ≤ sizeLine ∧
  Q σ (upd H3 l (.lst (xs.take i.toNat ++ ys ++ xs.drop j.toNat)))
theorem pg_sl {o lo hi : Expr} {to tl th : TE} {p2 pos : Pos} (ho : PE X o to) (hl : PE X lo tl) (hh : PE X hi th)
    (ha : ∀ v, assign (.Subscript o (.Slice (some lo) (some hi) none p2) pos) X.env v = (do
      let ov ← holding [v] (eval o X.env)
      let iv ← holding [v, ov] (eval (.Slice (some lo) (some hi) none p2) X.env)
      standAt pos
      holding [v, ov, iv] (setItem ov iv v)
      release [iv, v, ov] []) := by intro _; rfl) : PG X (.Subscript o (.Slice (some lo) (some hi) none p2) pos) (gSl to tl th) := by
  refine ⟨fun pins s σ H v u Q I r h => ?_⟩
  rw [ha]
  refine wpAny_bind (wpAny_holding (thn (ho.run pins s σ H _ I h) fun ov s1 ⟨x, H1, I1, r1, q1⟩ => ?_))
  refine wpAny_bind (wpAny_holding (wpAny_Slice ?_))
  rw [evalPart_some, evalPart_some, evalPart_none]
  refine thn (hl.run pins s1 σ H1 _ I1 q1) fun vl s2 ⟨y, H2, I2, r2, q2⟩ => thn (hh.run pins s2 σ H2 _ I2 q2) fun vu s3 ⟨y', H3, I3, r3, q3⟩ => wpAny_pure ?_
  have I4 : Inv X pins σ H3 { s3 with heap := s3.heap.push { cls := .type "slice", data := .fields #[vl, vu, .none] } } := I3.kept (t' := s3.toks) fun b ob q => Heap.get?_push_of_some _ q
  obtain ⟨l, m, i, j, xs, ys, rfl, rfl, rfl, rfl, e1, e2, ne, h0, h1, h2, hz, q⟩ := q3
  cases (show ov = Value.ref l from r1)
  cases (show u = Value.ref m from r)
  refine wpAny_bind (wpAny_standAt (wpAny_bind (wpAny_holding (set_slice (sl := s3.heap.objs.size) (vl := vl) (vu := vu) (a := i) (c := j) I4 e1 e2 ne (Heap.IsSliceOf.new ..) r2 r3 h0 h1 h2 hz fun s' I5 => ?_))))
  exact wpAny_release ⟨σ, _, I5, q⟩
def rSlS (v x lo hi : V) (H : Hp) (P : Hp → Prop) : Prop := ∃ (l m : Addr) (i j : Int) (xs ys : List V), x = .ref l ∧ v = .ref m ∧ lo = .int i ∧ hi = .int j ∧ H l = some (.lst xs) ∧ H m = some (.lst ys) ∧ l ≠ m ∧ 0 ≤ i ∧ i ≤ j ∧ j ≤ xs.length ∧ xs.length + ys.length ≤ sizeLine ∧ P (upd H l (.lst (xs.take i.toNat ++ ys ++ xs.drop j.toNat)))
theorem st_gsl {σ : L2.St} {H : Hp} {v : V} {Q : L2.St → Hp → Prop} {to tl th : TE} (h : to σ H fun x H1 => tl σ H1 fun lo H2 => th σ H2 fun hi H3 => rSlS v x lo hi H3 fun H4 => Q σ H4) : gSl to tl th v σ H Q := h
theorem st_slS {l m : Addr} {i j : Int} {xs ys : List V} {H : Hp} {P : Hp → Prop} (h1 : H l = some (.lst xs)) (h2 : H m = some (.lst ys)) (ne : l ≠ m) (h3 : 0 ≤ i) (h4 : i ≤ j) (h5 : j ≤ xs.length) (h6 : xs.length + ys.length ≤ sizeLine) (q : ∀ H', Mu H H' l (.lst (xs.take i.toNat ++ ys ++ xs.drop j.toNat)) → P H') : rSlS (.ref m) (.ref l) (.int i) (.int j) H P :=
  ⟨l, m, i, j, xs, ys, rfl, rfl, rfl, rfl, h1, h2, ne, h3, h4, h5, h6, q _ mu_upd⟩
end
/-! ### keywords -/
def CallK (X : Cx) (u : Value) (ks : List Str) (r : List V → List V → Hp → VK → Prop) : Prop := ∀ (pins : List (Addr × Obj)) (s : Shared) (σ : L2.St) (H : Hp) (vs zs : List V) (us ws : List Value) (Q : VK), Inv X pins σ H s → Vals vs us → Vals zs ws → r vs zs H Q → wpAny (model X.prog X.w) X.A (call u us (ks.zip ws)) (EP X pins σ Q) X.xe s
/-- a def called with n values and keywords ks -/
def PromK (P : Program) (w : World) (K : PySem.W.Frag) (mg : Str → Option Value) (base : Heap) (CX : CXT) (k : Nat) (f : Addr) (n : Nat) (ks : List Str) (gV : List V → List V → List V) (sp : Sp) : Prop :=
  ∃ (fd : FuncData) (ps : List Str) (g : List Value → List Value → List Value), FnOk P w K mg base CX k f fd ps sp ∧ KBn K fd ps n ks g gV
/-- values picked by indexes -/
def picks {α : Type} (l : List (Nat ⊕ Nat)) (its ws : List α) : List α := l.filterMap fun z => match z with
  | .inl i => ws[i]?
  | .inr j => its[j]?
theorem Vals.getO {zs : List V} {ws : List Value} (r : Vals zs ws) (i : Nat) : (zs[i]? = none ∧ ws[i]? = none) ∨ ∃ x v, zs[i]? = some x ∧ ws[i]? = some v ∧ RelV x v := by
  induction r generalizing i with
  | nil => exact .inl ⟨rfl, rfl⟩
  | cons h t ih =>
    cases i with
    | zero => exact .inr ⟨_, _, rfl, rfl, h⟩
    | succ i => exact ih i
theorem picks_rel (l : List (Nat ⊕ Nat)) {ds zs : List V} {its ws : List Value} (r1 : Vals ds its) (r2 : Vals zs ws) : Vals (picks l ds zs) (picks l its ws) := by
  induction l with
  | nil => exact .nil
  | cons z r ih =>
    unfold picks at ih ⊢
    rw [List.filterMap_cons, List.filterMap_cons]
    cases z with
    | inl i =>
      rcases Vals.getO r2 i with ⟨e1, e2⟩ | ⟨x, v, e1, e2, rv⟩
      · simp only [e1, e2]
        exact ih
      · simp only [e1, e2]
        exact .cons rv ih
    | inr j =>
      rcases Vals.getO r1 j with ⟨e1, e2⟩ | ⟨x, v, e1, e2, rv⟩
      · simp only [e1, e2]
        exact ih
      · simp only [e1, e2]
        exact .cons rv ih
section
variable {K : PySem.W.Frag} {x qual : Str} {params : Arguments} {body : List Stmt} {scope : Scope} {dvs : List V} {kws : List (Str × V)} {f : Addr} {fd : FuncData} {ps : List Str}
/-- no defaults -/
theorem FunD.kbN (F : FunD K x qual params body scope [] kws f fd) (n : Nat) (ks : List Str) (l : List (Nat ⊕ Nat))
    (h : ∀ (kV doc pm : Value) (an : Option Addr) (cdv ct : Value) (us ws : List Value), us.length = n → ws.length = ks.length → bindArgs (PySem.W.fnOf x qual params body scope .none kV doc pm an cdv ct) ⟨us, ks.zip ws⟩ = pure (ps.zip (us ++ picks l [] ws))) :
    KBn K fd ps n ks (fun us ws => us ++ picks l [] ws) (fun vs zs => vs ++ picks l [] zs) := by
  obtain ⟨oc, od, dV, kV, doc, pm, an, cdv, ct, osl, rfl, lk, hcd, hD, hK⟩ := F.ex
  rcases hD with ⟨_, rfl⟩ | ⟨e, _⟩
  · exact ⟨fun s us ws X l1 l2 => .of_eq (h kV doc pm an cdv ct us ws l1 l2), fun r1 r2 => r1.append (picks_rel l .nil r2)⟩
  · exact absurd rfl e
/-- with defaults -/
theorem FunD.kbD (F : FunD K x qual params body scope dvs kws f fd) (n : Nat) (ks : List Str) (l : List (Nat ⊕ Nat)) (hd : dvs ≠ [])
    (h : ∀ (T : Addr) (kV doc pm : Value) (an : Option Addr) (cdv ct : Value) (us its ws : List Value), us.length = n → its.length = dvs.length → ws.length = ks.length →
      ∃ k, bindArgs (PySem.W.fnOf x qual params body scope (.ref T) kV doc pm an cdv ct) ⟨us, ks.zip ws⟩ = seqItems? (.ref T) >>= k ∧ k (some its.toArray) = pure (ps.zip (us ++ picks l its ws))) :
    ∃ g, KBn K fd ps n ks g (fun vs zs => vs ++ picks l dvs zs) := by
  obtain ⟨its, b⟩ := FunD.kbindsD F n ks (fun us its ws => us ++ picks l its ws) hd (fun r1 r2 r3 => r1.append (picks_rel l r2 r3)) h
  exact ⟨_, b⟩
end
section
variable {X : Cx} {CX : CXT} {k n : Nat} {f C : Addr} {ks : List Str} {sp : Sp} {E : XK} {x m : Str} {p pos apos : Pos} {e o : Expr} {es : List Expr} {kws : List Keyword} {t tk : TA} {ta : TE} {gV : List V → List V → List V} {r : List V → List V → Hp → VK → Prop}
def rSpK (n m : Nat) (gV : List V → List V → List V) (sp : Sp) (E : XK) : List V → List V → Hp → VK → Prop := fun vs zs H Q => vs.length = n ∧ zs.length = m ∧ sp (gV vs zs) H Q E
theorem PromK.call (F : PromK X.prog X.w X.K X.mg X.base CX k f n ks gV sp) (hr : Room k X.A) (hx : Passes CX X E) : CallK X (.ref f) ks (rSpK n ks.length gV sp E) := by
  intro pins s σ H vs zs us ws Q I rv rz ⟨l1, l2, h⟩
  obtain ⟨fd, ps, g, G, b⟩ := F
  exact run_fnN G hr b hx I rv rz l1 l2 h
def rMkK (C : Addr) (n m : Nat) (gV : List V → List V → List V) (sp : Sp) (E : XK) : List V → List V → Hp → VK → Prop := fun vs zs H Q => vs.length = n ∧ zs.length = m ∧ rMk C (fun us H Q E => sp us H Q E) [] E (gV vs zs) H Q
theorem PromK.make (M : Mk X.K C f) (F : PromK X.prog X.w X.K X.mg X.base CX k f (n + 1) ks (fun vs zs => vs ++ gV [] zs) sp) (hr : Room (k + 1) X.A) (hx : Passes CX X E) : CallK X (.ref C) ks (rMkK C n ks.length (fun vs zs => vs ++ gV [] zs) sp E) := by
  intro pins s σ H vs zs us ws Q I rv rz ⟨l1, l2, h⟩
  obtain ⟨fd, ps, g, G, b⟩ := F
  refine run_makeN M G hr b hx I rv rz l1 l2 fun x dx nx ndx ne => ?_
  unfold rMk at h
  have z := h x dx nx ndx ne
  rw [List.append_nil] at z
  exact z
def tClK (r : List V → List V → Hp → VK → Prop) (t tk : TA) : TE := fun σ H Q => t σ H fun vs H1 => tk σ H1 fun zs H2 => r vs zs H2 Q
/-- x(e, .., k = v, ..) -/
theorem pe_gk (R : CallK X (.ref f) ks r) (hg : Gl X x) (hm : X.mg x = some (.ref f)) (hk : PySem.W.keepIn X.K (.ref f) = true) (ha : PA X (e :: es) t) (hkw : PK X kws tk) (hall : (backToKw pos (keywordEach kws X.env)).all (·.1.isSome) = true := by rfl) (hks : (backToKw pos (keywordEach kws X.env)).filterMap (·.1) = ks := by rfl)
    (hdb : (x == ("__debug__" : Str)) = false := by decide) (he : starEach (e :: es) X.env = (false, eval e X.env) :: starEach es X.env := by rfl)
    (hpl : ((backTo pos (starEach (e :: es) X.env)).any (·.1) || (backToKw pos (keywordEach kws X.env)).any (·.1.isNone)) = false := by rfl) : PE X (.Call (.Name x p) (e :: es) kws pos) (tClK r t tk) := by
  refine ⟨fun pins s σ H Q I h => ?_⟩
  refine wpAny_Call_Name_kw (ld_glob I hg hm ?_ hdb)
  refine PySem.W.callWith_KW (h₀ := X.base) I.ok.mod.kin hk hall (thn (ha.run pos pins s σ H _ I h) fun us s1 ⟨vs, H1, I1, rv, q⟩ => ?_) hpl he
  refine thn (hkw.run pos pins s1 σ H1 _ I1 q) fun ws s2 ⟨zs, H2, I2, rz, q2⟩ => ⟨I2.kIn, ?_⟩
  rw [hks]
  exact R pins s2 σ H2 vs zs us ws Q I2 rv rz q2
/-- x(k = v, ..) -/
theorem pe_gk0 (R : CallK X (.ref f) ks r) (hg : Gl X x) (hm : X.mg x = some (.ref f)) (hk : PySem.W.keepIn X.K (.ref f) = true) (hkw : PK X kws tk) (hall : (backToKw pos (keywordEach kws X.env)).all (·.1.isSome) = true := by rfl) (hks : (backToKw pos (keywordEach kws X.env)).filterMap (·.1) = ks := by rfl)
    (hdb : (x == ("__debug__" : Str)) = false := by decide)
    (hpl : ((backTo pos (starEach [] X.env)).any (·.1) || (backToKw pos (keywordEach kws X.env)).any (·.1.isNone)) = false := by rfl) : PE X (.Call (.Name x p) [] kws pos) (tClK r tNil tk) := by
  refine ⟨fun pins s σ H Q I h => ?_⟩
  refine wpAny_Call_Name_kw (ld_glob I hg hm ?_ hdb)
  refine PySem.W.callWith_KW0 (h₀ := X.base) I.ok.mod.kin hk hall (thn (hkw.run pos pins s σ H _ I h) fun ws s2 ⟨zs, H2, I2, rz, q2⟩ => ⟨I2.kIn, ?_⟩) hpl
  rw [hks]
  exact R pins s2 σ H2 [] zs [] ws Q I2 .nil rz q2
/-- o.m(.., k = v, ..) -/
def tMtK (C : Addr) (m : Str) (r : List V → List V → Hp → VK → Prop) (ta : TE) (t tk : TA) : TE := fun σ H Q => ta σ H fun x H1 => ∃ a dx fs, x = .ref a ∧ H1 a = some (.ins C dx fs) ∧ fs.lookup m = none ∧ t σ H1 fun vs H2 => tk σ H2 fun zs H3 => r (x :: vs) zs H3 Q
theorem pe_mk {pl : Sem Bool} (he : PE X o ta) (c : Cls X.K C) (hm : Meth X.K C m f) (R : CallK X (.ref f) ks r) (ha : PA X (e :: es) t) (hkw : PK X kws tk) (hall : (backToKw pos (keywordEach kws X.env)).all (·.1.isSome) = true := by rfl) (hks : (backToKw pos (keywordEach kws X.env)).filterMap (·.1) = ks := by rfl)
    (hst : starEach (e :: es) X.env = (false, eval e X.env) :: starEach es X.env := by rfl) (hpl : ((backTo pos (starEach (e :: es) X.env)).any (·.1) || (backToKw pos (keywordEach kws X.env)).any (·.1.isNone)) = false := by rfl)
    (ht : eval (.Call (.Attribute o m apos) (e :: es) kws pos) X.env = (do
      let ov ← eval o X.env
      standAt apos.atName
      let (f, first) ← holding [ov] (getMethod ov m pl)
      callWith pos f first (backTo pos (starEach (e :: es) X.env)) (backToKw pos (keywordEach kws X.env))) := by rfl) :
    PE X (.Call (.Attribute o m apos) (e :: es) kws pos) (tMtK C m r ta t tk) := by
  refine ⟨fun pins s σ H Q I h => ?_⟩
  refine PySem.W.methodCall_KW (pl := pl) (thn (he.run pins s σ H _ I h) fun u s1 ⟨x, H1, I1, rx, a, dx, fs, ex, ea, l, q⟩ => ?_) ht
  subst ex
  obtain rfl : u = Value.ref a := rx
  refine getmeth_ok I1 ea c hm l ?_
  refine PySem.W.callWith_KW (first := [.ref a]) (h₀ := X.base) I.ok.mod.kin hm.kp hall (thn (ha.run pos pins s1 σ H1 _ I1 q) fun us s2 ⟨vs, H2, I2, rv, q2⟩ => ?_) hpl hst
  refine thn (hkw.run pos pins s2 σ H2 _ I2 q2) fun ws s3 ⟨zs, H3, I3, rz, q3⟩ => ⟨I3.kIn, ?_⟩
  rw [hks]
  exact R pins s3 σ H3 (.ref a :: vs) zs (.ref a :: us) ws Q I3 (.cons rfl rv) rz q3
theorem pe_mk0 {pl : Sem Bool} (he : PE X o ta) (c : Cls X.K C) (hm : Meth X.K C m f) (R : CallK X (.ref f) ks r) (hkw : PK X kws tk) (hall : (backToKw pos (keywordEach kws X.env)).all (·.1.isSome) = true := by rfl) (hks : (backToKw pos (keywordEach kws X.env)).filterMap (·.1) = ks := by rfl)
    (hpl : ((backTo pos (starEach [] X.env)).any (·.1) || (backToKw pos (keywordEach kws X.env)).any (·.1.isNone)) = false := by rfl)
    (ht : eval (.Call (.Attribute o m apos) [] kws pos) X.env = (do
      let ov ← eval o X.env
      standAt apos.atName
      let (f, first) ← holding [ov] (getMethod ov m pl)
      callWith pos f first (backTo pos (starEach [] X.env)) (backToKw pos (keywordEach kws X.env))) := by rfl) :
    PE X (.Call (.Attribute o m apos) [] kws pos) (tMtK C m r ta tNil tk) := by
  refine ⟨fun pins s σ H Q I h => ?_⟩
  refine PySem.W.methodCall_KW (pl := pl) (thn (he.run pins s σ H _ I h) fun u s1 ⟨x, H1, I1, rx, a, dx, fs, ex, ea, l, q⟩ => ?_) ht
  subst ex
  obtain rfl : u = Value.ref a := rx
  refine getmeth_ok I1 ea c hm l ?_
  refine PySem.W.callWith_KW0 (first := [.ref a]) (h₀ := X.base) I.ok.mod.kin hm.kp hall (thn (hkw.run pos pins s1 σ H1 _ I1 q) fun ws s3 ⟨zs, H3, I3, rz, q3⟩ => ⟨I3.kIn, ?_⟩) hpl
  rw [hks]
  exact R pins s3 σ H3 [.ref a] zs [.ref a] ws Q I3 (.cons rfl .nil) rz q3
end
section
variable {H : Hp} {σ : L2.St} {Q : VK} {ta : TE} {t tk : TA} {r : List V → List V → Hp → VK → Prop} {C : Addr} {m : Str} {n k : Nat} {gV : List V → List V → List V} {sp : Sp} {E : XK} {vs zs : List V}
theorem st_clK (h : t σ H fun vs H1 => tk σ H1 fun zs H2 => r vs zs H2 Q) : tClK r t tk σ H Q := h
theorem st_mtK (h : ta σ H fun x H1 => ∃ a dx fs, x = .ref a ∧ H1 a = some (.ins C dx fs) ∧ fs.lookup m = none ∧ t σ H1 fun vs H2 => tk σ H2 fun zs H3 => r (x :: vs) zs H3 Q) : tMtK C m r ta t tk σ H Q := h
theorem st_spK (h1 : vs.length = n) (h2 : zs.length = k) (h : rSp sp [] E (gV vs zs) H Q) : rSpK n k gV sp E vs zs H Q := ⟨h1, h2, by
  unfold rSp at h
  rw [List.append_nil] at h
  exact h⟩
end
end Gh

set_option Elab.async false
set_option linter.all false
set_option maxRecDepth 100000
set_option maxHeartbeats 4000000
/-! Dt: data that can be shown and compared: its depth and size told. -/
namespace Gh
open PySem PySem.Spec PyProof.Rows L2
/-- d is at most n deep and has at most b parts; its numbers have at most 100 figures -/
structure Fn (d : PyData) (n b : Nat) : Prop where
  cl : d.canLay0 = true
  sh : d.showable = true
  nd : d.hasDict = false
  ls : d.leavesShort 200 = true
  dp : d.depth ≤ n
  bk : d.bulk ≤ b
structure FnAll (ds : List PyData) (n b : Nat) : Prop where
  cl : PyData.canLayAll0 ds = true
  sh : PyData.showableAll ds = true
  nd : PyData.hasDictAll ds = false
  ls : PyData.leavesShortAll 200 ds = true
  dp : PyData.depthAll ds ≤ n
  bk : PyData.bulkAll ds ≤ b
theorem log_lt100 {i : Int} (h1 : -(10 ^ 100) < i) (h2 : i < 10 ^ 100) : i.natAbs.log2 < 1920 := by
  have h : i.natAbs < 2 ^ 1920 := Nat.lt_of_lt_of_le (show i.natAbs < 10 ^ 100 by omega) (by decide)
  by_cases h0 : i.natAbs = 0
  · rw [h0]
    decide
  · exact (Nat.log2_lt h0).mpr h
theorem Fn.int {i : Int} (h1 : -(10 ^ 100) < i) (h2 : i < 10 ^ 100) : Fn (.int i) 0 0 := by
  refine ⟨rfl, decide_eq_true (log_lt100 h1 h2), rfl, ?_, Nat.le_refl _, Nat.le_refl _⟩
  have e := int_text_length_le10 (a := i) (k := 100) (by decide) (by omega)
  refine decide_eq_true ?_
  show (Str.ofString (toString i)).length ≤ 200
  rw [PySem.ofString_length]
  omega
theorem Fn.bool (b : Bool) : Fn (.bool b) 0 0 := ⟨rfl, rfl, rfl, rfl, Nat.le_refl _, Nat.le_refl _⟩
theorem Fn.none : Fn .none 0 0 := ⟨rfl, rfl, rfl, rfl, Nat.le_refl _, Nat.le_refl _⟩
theorem Fn.str {x : Str} (h0 : (PyData.str x).canLay0 = true) (h : (x.cps.toList.all fun c => decide (c < 16 ^ 8)) = true) : Fn (.str x) 0 x.cps.size := ⟨h0, rfl, rfl, h, Nat.le_refl _, Nat.le_refl _⟩
theorem Fn.le {d : PyData} {n b n' b' : Nat} (h : Fn d n b) (h1 : n ≤ n') (h2 : b ≤ b') : Fn d n' b' := ⟨h.cl, h.sh, h.nd, h.ls, Nat.le_trans h.dp h1, Nat.le_trans h.bk h2⟩
theorem FnAll.nil {n b : Nat} : FnAll [] n b := ⟨rfl, rfl, rfl, rfl, Nat.zero_le _, Nat.zero_le _⟩
theorem FnAll.cons {d : PyData} {ds : List PyData} {n b c : Nat} (h : Fn d n b) (k : FnAll ds n c) : FnAll (d :: ds) n (b + 1 + c) := by
  refine ⟨?_, ?_, ?_, ?_, ?_, ?_⟩
  · show (d.canLay0 && _) = true
    rw [h.cl, k.cl] <;> rfl
  · show (d.showable && _) = true
    rw [h.sh, k.sh] <;> rfl
  · show (d.hasDict || _) = false
    rw [h.nd, k.nd] <;> rfl
  · show (d.leavesShort 200 && _) = true
    rw [h.ls, k.ls] <;> rfl
  · show max _ _ ≤ n
    exact Nat.max_le.mpr ⟨h.dp, k.dp⟩
  · show d.bulk + 1 + _ ≤ _
    have := h.bk
    have := k.bk
    omega
theorem Fn.list {ds : List PyData} {n b : Nat} (h : FnAll ds n b) : Fn (.list ds) (n + 1) b := ⟨h.cl, h.sh, h.nd, h.ls, Nat.succ_le_succ h.dp, h.bk⟩
theorem Fn.tuple {ds : List PyData} {n b : Nat} (h : FnAll ds n b) : Fn (.tuple ds) (n + 1) b := ⟨h.cl, h.sh, h.nd, h.ls, Nat.succ_le_succ h.dp, h.bk⟩
theorem FnAll.each {n b : Nat} : ∀ {ds : List PyData}, (∀ d ∈ ds, Fn d n b) → FnAll ds n ((b + 1) * ds.length)
  | [], _ => FnAll.nil
  | d :: r, h => by
    have z := FnAll.cons (h d List.mem_cons_self) (FnAll.each fun e he => h e (List.mem_cons_of_mem _ he))
    have e : b + 1 + (b + 1) * r.length = (b + 1) * (d :: r).length := by
      rw [List.length_cons, Nat.mul_add, Nat.mul_one, Nat.add_comm]
    rw [e] at z
    exact z
theorem FnAll.ints {ns : List Int} (h : ∀ n ∈ ns, -(10 ^ 100) < n ∧ n < 10 ^ 100) : FnAll (ns.map PyData.int) 0 ns.length := by
  have z := FnAll.each (n := 0) (b := 0) (ds := ns.map PyData.int) fun d hd => by
    obtain ⟨n, hn, rfl⟩ := List.mem_map.mp hd
    exact Fn.int (h n hn).1 (h n hn).2
  rw [List.length_map, Nat.zero_add, Nat.one_mul] at z
  exact z
theorem Fn.shaped {d : PyData} {n b : Nat} (h : Fn d n b) (hn : n ≤ 64) : SeqAt.shaped d = true := by
  unfold SeqAt.shaped
  rw [h.cl, decide_eq_true (Nat.le_trans h.dp hn)] <;> rfl
theorem Fn.eqv {d : PyData} {n b : Nat} (h : Fn d n b) : PyData.eqv d d = true := SeqAt.eqv_refl d h.cl
theorem Fn.shw {K : PySem.W.Frag} {H : Hp} {a : Addr} {d : PyData} {n b : Nat} (h : Fn d n b) (k : Dp K H (.ref a) d) (hn : n ≤ 100) (hb : b ≤ 80000) : Shw K H (.ref a) d.shown := by
  refine .dp k h.sh h.nd (Nat.le_trans h.dp hn) ?_
  have z := PyData.shown_le_bulk 200 (by decide) d h.ls
  have := h.bk
  rw [sizeLine_eq]
  omega
section
variable {K : PySem.W.Frag} {H : Hp} {a : Addr} {ns : List Int}
theorem shw_lst (h : H a = some (.lst (ns.map V.int))) (l : ns.length ≤ 80000) (b : ∀ n ∈ ns, -(10 ^ 100) < n ∧ n < 10 ^ 100) : Shw K H (.ref a) (PyData.list (ns.map .int)).shown :=
  (Fn.list (FnAll.ints b)).shw (.lst (SqL.of h) (dp_ints K H ns)) (by decide) l
theorem shw_tup (h : H a = some (.tup (ns.map V.int))) (l : ns.length ≤ 80000) (b : ∀ n ∈ ns, -(10 ^ 100) < n ∧ n < 10 ^ 100) : Shw K H (.ref a) (PyData.tuple (ns.map .int)).shown :=
  (Fn.tuple (FnAll.ints b)).shw (.tup (SqT.of h) (dp_ints K H ns)) (by decide) l
theorem shaped_tup (ns : List Int) : SeqAt.shaped (.tuple (ns.map PyData.int)) = true := PySem.W.ke_shaped_ints ns
end
section
variable {H H' : Hp} {a l p c : Addr} {u : HO} {b : Nat}
theorem none_ne (n : H l = none) (h : H a = some u) : l ≠ a := fun e => by
  rw [← e, n] at h
  cases h
theorem none_pen (n : H l = none) (h : Pen H p c b) : l ≠ p := by
  obtain ⟨ns, i, z, h1, h2, h3⟩ := h
  exact none_ne n h1
theorem none_cell (n : H l = none) (h : Pen H p c b) : l ≠ c := by
  obtain ⟨ns, i, z, h1, h2, h3⟩ := h
  exact none_ne n h2
/-- all stands but at p and t -/
def Keep2 (H H' : Hp) (p t : Addr) : Prop := ∀ a o, H a = some o → a ≠ p → a ≠ t → H' a = some o
theorem keep2_up {t : Addr} (n : Keep2 H H' p t) (e : a ≠ p) (e' : a ≠ t) (h : H a = some u) : H' a = some u := n _ _ h e e'
theorem st_setO {C dx : Addr} {fs : List (Str × V)} {r : List V → Hp → VK → Prop} {i v : V} {Q : Hp → Prop} (h : H a = some (.ins C dx fs)) (q : r [.ref a, i, v] H fun _ H' => Q H') : rSetO C r (.ref a) i v H Q := by
  unfold rSetO
  exact ⟨a, dx, fs, rfl, h, q⟩
theorem st_ixO {C dx : Addr} {fs : List (Str × V)} {sp : Sp} {E : XK} {y : V} {Q : VK} (h : H a = some (.ins C dx fs)) (q : rSp sp [] E [.ref a, y] H Q) : rIxO C sp E (.ref a) y H Q := by
  unfold rIxO
  exact ⟨a, dx, fs, rfl, h, q⟩
end
/-! ### comprehensions -/
section
variable {K : PySem.W.Frag} {H : Hp} {σ : L2.St} {Q : VK} {m : Nat} {tt : TT} {te tl : TE} {vs : List Nat} {t : TA} {a : Addr} {xs : List V}
def rLc (J : It) (m : Nat) (tt : TT) (te : TE) (vs : List Nat) (σ : L2.St) (H : Hp) (Q : VK) : Prop := ∀ D, H D = none → ∃ W : Nat → Nat → Hp → Prop, (∃ k, W 0 k (upd H D (.lst []))) ∧ ∀ i k H, W i k H →
  (J.stop i H ∧ Q (.ref D) H) ∨ (J.go i H ∧ ∃ Nx : Hp → Prop, (∀ H', Nx H' → ∃ k', k' < k ∧ W (i + 1) k' H') ∧ ∀ x H', J.yld i H x H' → gName m x (wipe σ vs) H' fun σ2 H2 => wipe σ2 vs = wipe σ vs ∧ tt σ2 H2 fun b H3 =>
    if b = true then te σ2 H3 fun y H4 => ∃ acc, H4 D = some (.lst acc) ∧ acc.length < sizeLine ∧ Nx (upd H4 D (.lst (acc ++ [y]))) else Nx H3)
theorem st_lcR1 (h : t σ H fun us H1 => ∃ j : Int, us = [.int j] ∧ -(2 ^ 62) ≤ j ∧ j < 2 ^ 62 ∧ rLc (Itr 0 j.toNat) m tt te vs σ H1 Q) : tLc (iRng1 t) (gName m) tt te vs σ H Q := h
theorem st_lcR2 (h : t σ H fun us H1 => ∃ i j : Int, us = [.int i, .int j] ∧ (-(2 ^ 62) ≤ i ∧ i < 2 ^ 62 ∧ -(2 ^ 62) ≤ j ∧ j < 2 ^ 62) ∧ rLc (Itr i (j - i).toNat) m tt te vs σ H1 Q) : tLc (iRng2 t) (gName m) tt te vs σ H Q := h
theorem st_lcL (h : tl σ H fun x H1 => ∃ a, x = .ref a ∧ (∃ xs, SqL K H1 a xs) ∧ rLc (Itl K a) m tt te vs σ H1 Q) : tLc (iList K tl) (gName m) tt te vs σ H Q := h
theorem st_lcT (h : tl σ H fun x H1 => ∃ a, x = .ref a ∧ (∃ xs, SqT K H1 a xs) ∧ rLc (Itt K a) m tt te vs σ H1 Q) : tLc (iTup K tl) (gName m) tt te vs σ H Q := h
theorem st_eR1 {j : Int} {P : Int → Prop} (h0 : -(2 ^ 62) ≤ j) (h1 : j < 2 ^ 62) (h : P j) : ∃ j', [V.int j] = [.int j'] ∧ -(2 ^ 62) ≤ j' ∧ j' < 2 ^ 62 ∧ P j' := ⟨j, rfl, h0, h1, h⟩
theorem st_eR2 {i j : Int} {P : Int → Int → Prop} (h0 : -(2 ^ 62) ≤ i ∧ i < 2 ^ 62 ∧ -(2 ^ 62) ≤ j ∧ j < 2 ^ 62) (h : P i j) : ∃ i' j', [V.int i, V.int j] = [.int i', .int j'] ∧ (-(2 ^ 62) ≤ i' ∧ i' < 2 ^ 62 ∧ -(2 ^ 62) ≤ j' ∧ j' < 2 ^ 62) ∧ P i' j' := ⟨i, j, rfl, h0, h⟩
theorem st_yes {Q : Bool → Hp → Prop} (h : Q true H) : tYes σ H Q := h
/-- what holds ahead of the turn i: the list at D is acc -/
def LcI (Pv : Nat → Hp → List V → Prop) (D : Addr) (i : Nat) (H : Hp) : Prop := ∃ acc, acc.length ≤ i ∧ H D = some (.lst acc) ∧ Pv i H acc
/-- y is put behind -/
def rPush (D : Addr) (P : Hp → Prop) (y : V) (H : Hp) : Prop := ∃ acc, H D = some (.lst acc) ∧ acc.length < sizeLine ∧ P (upd H D (.lst (acc ++ [y])))
theorem st_push {Pv : Nat → Hp → List V → Prop} {D : Addr} {i : Nat} {y : V} {acc : List V} (h : H D = some (.lst acc)) (l : acc.length ≤ i) (hi : i < 100000) (q : ∀ H', Mu H H' D (.lst (acc ++ [y])) → Pv (i + 1) H' (acc ++ [y])) : rPush D (LcI Pv D (i + 1)) y H :=
  ⟨acc, h, Nat.lt_of_le_of_lt l (Nat.lt_of_lt_of_le hi (len_ok (Nat.le_refl _))), acc ++ [y], by rw [List.length_append]; exact Nat.succ_le_succ l, upd_same, q _ mu_upd⟩
/-- over a range -/
theorem lcR {lo : Int} {n : Nat} (Pv : Addr → Nat → Hp → List V → Prop) (hw : ∀ x, wipe ((wipe σ vs).set m (some x)) vs = wipe σ vs) (h0 : ∀ D H1, Nw H H1 D (.lst []) → Pv D 0 H1 [])
    (hs : ∀ D i H1 acc, H D = none → i < n → acc.length ≤ i → H1 D = some (.lst acc) → Pv D i H1 acc → tt ((wipe σ vs).set m (some (.int (lo + (i : Nat))))) H1 fun b H2 => if b = true then te ((wipe σ vs).set m (some (.int (lo + (i : Nat))))) H2 fun y H3 => rPush D (LcI (Pv D) D (i + 1)) y H3 else LcI (Pv D) D (i + 1) H2)
    (hd : ∀ D H1 acc, H D = none → acc.length ≤ n → H1 D = some (.lst acc) → Pv D n H1 acc → Q (.ref D) H1) : rLc (Itr lo n) m tt te vs σ H Q := by
  intro D nD
  exact lc_range (Qd := fun H => Q (.ref D) H) (LcI (Pv D) D) ⟨[], Nat.zero_le _, upd_same, h0 D _ (nw_upd nD)⟩ (fun i H1 hi ⟨acc, l, e, p⟩ => ⟨hw _, hs D i H1 acc nD hi l e p⟩) (fun H1 ⟨acc, l, e, p⟩ => hd D H1 acc nD l e p)
/-- over a list that stays -/
theorem lcL (Pv : Addr → Nat → Hp → List V → Prop) (hw : ∀ x, wipe ((wipe σ vs).set m (some x)) vs = wipe σ vs) (h0 : ∀ D H1, Nw H H1 D (.lst []) → Pv D 0 H1 []) (hl : ∀ D i H1 acc, H D = none → Pv D i H1 acc → H1 a = some (.lst xs))
    (hs : ∀ D i x H1 acc, H D = none → xs[i]? = some x → acc.length ≤ i → H1 D = some (.lst acc) → Pv D i H1 acc → tt ((wipe σ vs).set m (some x)) H1 fun b H2 => if b = true then te ((wipe σ vs).set m (some x)) H2 fun y H3 => rPush D (LcI (Pv D) D (i + 1)) y H3 else LcI (Pv D) D (i + 1) H2)
    (hd : ∀ D H1 acc, H D = none → acc.length ≤ xs.length → H1 D = some (.lst acc) → Pv D xs.length H1 acc → Q (.ref D) H1) : rLc (Itl K a) m tt te vs σ H Q := by
  intro D nD
  exact lc_list (Qd := fun H => Q (.ref D) H) (xs := xs) (LcI (Pv D) D) ⟨[], Nat.zero_le _, upd_same, h0 D _ (nw_upd nD)⟩ (fun i H1 _ ⟨acc, l, e, p⟩ => SqL.of (hl D i H1 acc nD p)) (fun i x H1 hi ⟨acc, l, e, p⟩ => ⟨hw _, hs D i x H1 acc nD hi l e p⟩) (fun H1 ⟨acc, l, e, p⟩ => hd D H1 acc nD l e p)
/-- over a tuple -/
theorem lcT (Pv : Addr → Nat → Hp → List V → Prop) (hw : ∀ x, wipe ((wipe σ vs).set m (some x)) vs = wipe σ vs) (h0 : ∀ D H1, Nw H H1 D (.lst []) → Pv D 0 H1 []) (hl : ∀ D i H1 acc, H D = none → Pv D i H1 acc → SqT K H1 a xs)
    (hs : ∀ D i x H1 acc, H D = none → xs[i]? = some x → acc.length ≤ i → H1 D = some (.lst acc) → Pv D i H1 acc → tt ((wipe σ vs).set m (some x)) H1 fun b H2 => if b = true then te ((wipe σ vs).set m (some x)) H2 fun y H3 => rPush D (LcI (Pv D) D (i + 1)) y H3 else LcI (Pv D) D (i + 1) H2)
    (hd : ∀ D H1 acc, H D = none → acc.length ≤ xs.length → H1 D = some (.lst acc) → Pv D xs.length H1 acc → Q (.ref D) H1) : rLc (Itt K a) m tt te vs σ H Q := by
  intro D nD
  exact lc_tup (Qd := fun H => Q (.ref D) H) (xs := xs) (LcI (Pv D) D) ⟨[], Nat.zero_le _, upd_same, h0 D _ (nw_upd nD)⟩ (fun i H1 _ ⟨acc, l, e, p⟩ => hl D i H1 acc nD p) (fun i x H1 hi ⟨acc, l, e, p⟩ => ⟨hw _, hs D i x H1 acc nD hi l e p⟩) (fun H1 ⟨acc, l, e, p⟩ => hd D H1 acc nD l e p)
end
section
variable {H H' : Hp} {a l p c : Addr} {u : HO} {b : Nat}
theorem nw_pen' {H0 : Hp} {b0 : Nat} {o : HO} (_ : Pen H0 p c b0) (n : Nw H H' l o) (h : Pen H p c b) : l ≠ p := nw_pen n h
theorem nw_cell' {H0 : Hp} {b0 : Nat} {o : HO} (_ : Pen H0 p c b0) (n : Nw H H' l o) (h : Pen H p c b) : l ≠ c := nw_cell n h
theorem none_pen' {H0 : Hp} {b0 : Nat} (_ : Pen H0 p c b0) (n : H l = none) (h : Pen H p c b) : l ≠ p := none_pen n h
theorem none_cell' {H0 : Hp} {b0 : Nat} (_ : Pen H0 p c b0) (n : H l = none) (h : Pen H p c b) : l ≠ c := none_cell n h
theorem tup_pen' {H0 : Hp} {b0 : Nat} {xs : List V} (_ : Pen H0 p c b0) (n : H l = some (.tup xs)) (h : Pen H p c b) : l ≠ p := tup_pen n h
theorem tup_cell' {H0 : Hp} {b0 : Nat} {xs : List V} (_ : Pen H0 p c b0) (n : H l = some (.tup xs)) (h : Pen H p c b) : l ≠ c := tup_cell n h
theorem ins_pen' {H0 : Hp} {b0 : Nat} {C dx : Addr} {fs : List (Str × V)} (_ : Pen H0 p c b0) (n : H l = some (.ins C dx fs)) (h : Pen H p c b) : l ≠ p := ins_pen n h
theorem ins_cell' {H0 : Hp} {b0 : Nat} {C dx : Addr} {fs : List (Str × V)} (_ : Pen H0 p c b0) (n : H l = some (.ins C dx fs)) (h : Pen H p c b) : l ≠ c := ins_cell n h
theorem ite2d {q : Prop} [Decidable q] {A B : Prop} (h1 : q → A) (h2 : ¬ q → B) : if decide q = true then A else B := by
  by_cases h : q
  · rw [if_pos (decide_eq_true h)]
    exact h1 h
  · rw [if_neg (by simpa using h)]
    exact h2 h
theorem ite2n {q : Prop} [Decidable q] {A B : Prop} (h1 : ¬ q → A) (h2 : q → B) : if (!decide q) = true then A else B := by
  by_cases h : q
  · rw [if_neg (by simpa using h)]
    exact h2 h
  · rw [if_pos (by simpa using h)]
    exact h1 h
end
/-! ### loops -/
section
variable {K : PySem.W.Frag} {H : Hp} {σ : L2.St} {D : Ends} {m : Nat} {g : TG} {tb : TS} {tl : TE} {t : TA} {a : Addr} {xs : List V}
def rFor (J : It) (g : TG) (tb : TS) (D : Ends) (σ : L2.St) (H : Hp) : Prop := ∃ W : Nat → Nat → L2.St → Hp → Prop, (∃ m, W 0 m σ H) ∧ ∀ i m σ H, W i m σ H →
  (J.stop i H ∧ D.nx σ H) ∨ (J.go i H ∧ ∃ N : L2.St → Hp → Prop, (∀ σ' H', N σ' H' → ∃ m', m' < m ∧ W (i + 1) m' σ' H') ∧ ∀ x H', J.yld i H x H' → g x σ H' fun σ2 H2 => tb { D with nx := N, ct := N, bk := D.nx } σ2 H2)
theorem st_forR1 (h : t σ H fun us H1 => ∃ j : Int, us = [.int j] ∧ -(2 ^ 62) ≤ j ∧ j < 2 ^ 62 ∧ rFor (Itr 0 j.toNat) g tb D σ H1) : tFor (iRng1 t) g tb D σ H := h
theorem st_forR2 (h : t σ H fun us H1 => ∃ i j : Int, us = [.int i, .int j] ∧ (-(2 ^ 62) ≤ i ∧ i < 2 ^ 62 ∧ -(2 ^ 62) ≤ j ∧ j < 2 ^ 62) ∧ rFor (Itr i (j - i).toNat) g tb D σ H1) : tFor (iRng2 t) g tb D σ H := h
theorem st_forL (h : tl σ H fun x H1 => ∃ a, x = .ref a ∧ (∃ xs, SqL K H1 a xs) ∧ rFor (Itl K a) g tb D σ H1) : tFor (iList K tl) g tb D σ H := h
theorem st_forT (h : tl σ H fun x H1 => ∃ a, x = .ref a ∧ (∃ xs, SqT K H1 a xs) ∧ rFor (Itt K a) g tb D σ H1) : tFor (iTup K tl) g tb D σ H := h
theorem st_forE (h : t σ H fun us H1 => ∃ a xs, us = [.ref a] ∧ SqL K H1 a xs ∧ rFor (Ite K a) g tb D σ H1) : tFor (iEnum K t) g tb D σ H := h
theorem st_eE {P : Addr → Prop} (h : H a = some (.lst xs)) (q : P a) : ∃ a' xs, [V.ref a] = [.ref a'] ∧ SqL K H a' xs ∧ P a' := ⟨a, xs, rfl, SqL.of h, q⟩
theorem forR {lo : Int} {n : Nat} (Pv : Nat → L2.St → Hp → Prop) (h0 : Pv 0 σ H) (hs : ∀ i σ H, i < n → Pv i σ H → tb { D with nx := Pv (i + 1), ct := Pv (i + 1), bk := D.nx } (σ.set m (some (.int (lo + (i : Nat))))) H) (hd : ∀ σ H, Pv n σ H → D.nx σ H) : rFor (Itr lo n) (gName m) tb D σ H := for_range Pv h0 hs hd
theorem forL (Pv : Nat → L2.St → Hp → Prop) (h0 : Pv 0 σ H) (hl : ∀ i σ H, i ≤ xs.length → Pv i σ H → H a = some (.lst xs)) (hs : ∀ i x σ H, xs[i]? = some x → Pv i σ H → g x σ H fun σ2 H2 => tb { D with nx := Pv (i + 1), ct := Pv (i + 1), bk := D.nx } σ2 H2) (hd : ∀ σ H, Pv xs.length σ H → D.nx σ H) : rFor (Itl K a) g tb D σ H := for_list (xs := xs) Pv h0 (fun i σ H z p => SqL.of (hl i σ H z p)) hs hd
theorem forT (Pv : Nat → L2.St → Hp → Prop) (h0 : Pv 0 σ H) (hl : ∀ i σ H, i ≤ xs.length → Pv i σ H → SqT K H a xs) (hs : ∀ i x σ H, xs[i]? = some x → Pv i σ H → g x σ H fun σ2 H2 => tb { D with nx := Pv (i + 1), ct := Pv (i + 1), bk := D.nx } σ2 H2) (hd : ∀ σ H, Pv xs.length σ H → D.nx σ H) : rFor (Itt K a) g tb D σ H := for_tup (xs := xs) Pv h0 hl hs hd
theorem forE (Pv : Nat → L2.St → Hp → Prop) (h0 : Pv 0 σ H) (hl : ∀ i σ H, i ≤ xs.length → Pv i σ H → H a = some (.lst xs)) (hs : ∀ i x σ H T H', xs[i]? = some x → Pv i σ H → Nw H H' T (.tup [.int (i : Nat), x]) → g (.ref T) σ H' fun σ2 H2 => tb { D with nx := Pv (i + 1), ct := Pv (i + 1), bk := D.nx } σ2 H2) (hd : ∀ σ H, Pv xs.length σ H → D.nx σ H) : rFor (Ite K a) g tb D σ H := by
  refine ⟨fun i m σ H => m = xs.length - i ∧ i ≤ xs.length ∧ Pv i σ H, ⟨xs.length, by simp, Nat.zero_le _, h0⟩, ?_⟩
  rintro i m σ H ⟨rfl, hi, p⟩
  have q : SqL K H a xs := SqL.of (hl i σ H hi p)
  by_cases hlt : i < xs.length
  · refine .inr ⟨⟨xs, xs[i], q, by simp [hlt]⟩, Pv (i + 1), fun σ' H' p' => ⟨xs.length - (i + 1), by omega, rfl, hlt, p'⟩, fun x H' y => ?_⟩
    obtain ⟨T, x0, rfl, nT, rfl, y⟩ := y
    exact hs i x0 σ H T _ (y xs q) p (nw_upd nT)
  · have e : i = xs.length := by omega
    subst e
    exact .inl ⟨⟨xs, q, Nat.le_refl _⟩, hd σ H p⟩
end
section
theorem mem_ints {ns : List Int} {j : Nat} {v : V} (h : (ns.map V.int)[j]? = some v) : ∃ n ∈ ns, v = .int n := by
  obtain ⟨n, hn, e⟩ := List.mem_map.mp (List.mem_of_getElem? h)
  exact ⟨n, hn, e.symm⟩
end
end Gh

set_option Elab.async false
set_option linter.all false
set_option maxRecDepth 100000
set_option maxHeartbeats 4000000
/-! Lx: lambdas that are handed to a def which calls them in a try: tables that grow, the try's body. -/
namespace Gh
open PySem PySem.Spec PyProof.Rows L2
section
variable {H H' : Hp} {a l p c t : Addr} {o u : HO} {b : Nat} {xs : List V} {T : List (Addr × Str)} {C dx : Addr} {fs : List (Str × V)}
theorem extN_up (n : LamX.ExtN H H') (h : H a = some u) (hu : ∀ ps, u ≠ .tbl ps) : H' a = some u := n _ _ h hu
theorem Pen.extN (n : LamX.ExtN H H') (h : Pen H p c b) : Pen H' p c b := by
  obtain ⟨ns, i, z, h1, h2, h3⟩ := h
  exact ⟨ns, i, z, n _ _ h1 (fun _ z => by cases z), n _ _ h2 (fun _ z => by cases z), h3⟩
theorem tabs_same (n : L2.Same H H') (h : LamX.Tabs T H) : LamX.Tabs T H' := h.ext n
theorem tabs_nw (n : Nw H H' l o) (h : LamX.Tabs T H) : LamX.Tabs T H' := h.ext n.same
/-- all objects but some that are no tables and no codes stay -/
theorem tabs_of (h : LamX.Tabs T H) (k1 : ∀ a ps, H a = some (.tbl ps) → H' a = some (.tbl ps)) (k2 : ∀ a c q, H a = some (LamX.CodeO c q) → H' a = some (LamX.CodeO c q)) : LamX.Tabs T H' := fun q hq => by
  obtain ⟨ps, h1, h2, h3⟩ := h q hq
  refine ⟨ps, k1 _ _ h1, h2, fun pos cv hc => ?_⟩
  obtain ⟨c', e1, e2⟩ := h3 pos cv hc
  exact ⟨c', e1, k2 _ _ _ e2⟩
theorem tabs_keepL (n : Keep H H' l) (e : H l = some (.lst xs)) (h : LamX.Tabs T H) : LamX.Tabs T H' :=
  tabs_of h (fun a ps q => n _ _ q (ne_of q e (by intro z; cases z))) (fun a c q z => n _ _ z (ne_of z e (by intro y; unfold LamX.CodeO at y; cases y)))
theorem tabs_keepP (n : Keep H H' p) (pn : Pen H p c b) (h : LamX.Tabs T H) : LamX.Tabs T H' := by
  obtain ⟨ns, i, z, h1, h2, h3⟩ := pn
  exact tabs_keepL n h1 h
theorem tabs_muL (n : Mu H H' l o) (e : H l = some (.lst xs)) (h : LamX.Tabs T H) : LamX.Tabs T H' := tabs_keepL n.keep e h
theorem tabs_muI (n : Mu H H' l o) (e : H l = some (.ins C dx fs)) (h : LamX.Tabs T H) : LamX.Tabs T H' :=
  tabs_of h (fun a ps q => n.up (ne_of q e (by intro z; cases z)) q) (fun a c q z => n.up (ne_of z e (by intro y; unfold LamX.CodeO at y; cases y)) z)
theorem tabs_keep2 (n : Keep2 H H' p t) (pn : Pen H p c b) (e : H t = some (.lst xs)) (h : LamX.Tabs T H) : LamX.Tabs T H' := by
  obtain ⟨ns, i, z, h1, h2, h3⟩ := pn
  exact tabs_of h (fun a ps q => n _ _ q (ne_of q h1 (by intro z; cases z)) (ne_of q e (by intro z; cases z))) (fun a c q z => n _ _ z (ne_of z h1 (by intro y; unfold LamX.CodeO at y; cases y)) (ne_of z e (by intro y; unfold LamX.CodeO at y; cases y)))
/-- what stands that is no table stays, but at p -/
def Fr (H H' : Hp) (p : Addr) : Prop := ∀ a o, H a = some o → a ≠ p → (∀ ps, o ≠ .tbl ps) → H' a = some o
theorem Fr.refl : Fr H H p := fun _ _ h _ _ => h
theorem fr_up (n : Fr H H' p) (e : a ≠ p) (h : H a = some u) (hu : ∀ ps, u ≠ .tbl ps) : H' a = some u := n _ _ h e hu
theorem keep_fr (n : Keep H H' p) : Fr H H' p := fun a o h e _ => n a o h e
theorem ext_fr (n : LamX.ExtN H H') : Fr H H' p := fun a o h _ z => n a o h z
theorem Fr.trans {H1 : Hp} (n : Fr H H1 p) (k : Fr H1 H' p) : Fr H H' p := fun a o h e z => k a o (n a o h e z) e z
end
section
variable {X : Cx} {H : Hp} {σ : L2.St} {Q : VK} {T : List (Addr × Str)} {TT : (XK → Hp → VK → Prop) → Hp → VK → Prop} {t : XK → TE}
theorem st_lam (ht : LamX.Tabs T H) (q : ∀ H1, LamX.ExtN H H1 → LamX.Tabs T H1 → TT (fun E H' Q' => t E σ H' Q') H1 Q) : LamX.tLam T TT t σ H Q := ⟨ht, q⟩
/-- the lambda's call -/
def tAct (f c' : Addr) (q : Str) (tl : Hp → VK → Prop) : TE := fun σ H Q => σ[0]? = some (some (.ref f)) ∧ H c' = some (LamX.CodeO c' q) ∧ tl H Q
theorem st_act {f c' : Addr} {q : Str} {tl : Hp → VK → Prop} (h1 : σ[0]? = some (some (.ref f))) (h2 : H c' = some (LamX.CodeO c' q)) (h : tl H Q) : tAct f c' q tl σ H Q := ⟨h1, h2, h⟩
theorem takes_len {W : WX} (t : Takes X W) : Takes X (fun c d σ H => σ.length = X.N.length → W c d σ H) := fun u s' ⟨a, B, sI, pins, σ, H, cls, d, e, I, nb, up, sky, na, os, ag, w⟩ =>
  t u s' ⟨a, B, sI, pins, σ, H, cls, d, e, I, nb, up, sky, na, os, ag, w I.len⟩
/-- a try's body with the lambda's call in it; n: the number of names -/
def tTry (n : Nat) (body : XK → TS) : WX → TS := fun W D σ H => ∃ E : XK, (∀ cls d σ' H', E cls d H' → σ'.length = n → W cls d σ' H') ∧ body E D σ H
theorem try_act {W : WX} {st : List Stmt} {body : XK → TS} (n : Nat) (hn : X.N.length = n) (tk : Takes X W) (h : ∀ E : XK, (∃ W' : WX, Takes X W' ∧ ∀ cls d σ' H', E cls d H' → W' cls d σ' H') → PSs X st (body E)) : PSs X st (tTry n body W) := by
  refine ⟨fun pins s σ H D I h' => ?_⟩
  obtain ⟨E, hW, h1⟩ := h'
  refine (h E ⟨_, takes_len tk, fun cls d σ' H' e l => hW cls d σ' H' e (l.trans hn)⟩).run pins s σ H D I h1
theorem st_try {n : Nat} {body : XK → TS} {W : WX} {D : Ends} (E : XK) (h1 : ∀ cls d σ' H', E cls d H' → σ'.length = n → W cls d σ' H') (h : body E D σ H) : tTry n body W D σ H := ⟨E, h1, h⟩
end
end Gh

set_option Elab.async false
set_option linter.all false
set_option maxRecDepth 100000
set_option maxHeartbeats 4000000
/-! Ow: special methods of one's own: len(o), x in o, -o, ~o, o *= x, str(o), o == x. -/
namespace Gh
open PySem PySem.Spec PyProof.Rows L2
section
variable {X : Cx} {CX : CXT} {k : Nat} {C f : Addr} {sp : Sp} {E : XK} {r : List V → Hp → VK → Prop}
/-- a promise's call one builtin deeper -/
theorem promO_in1 {pins : List (Addr × Obj)} {s : Shared} {σ : L2.St} {H : Hp} {vs : List V} {us : List Value} {Q : VK} (F : PromOX X CX k f [] sp) (hr : Room (k + 1) X.A) (hx : Passes CX X E) (I : Inv X pins σ H s) (rv : Vals vs us) (h : sp vs H Q E) :
    wpAny (model X.prog X.w) X.A.in1 (call (.ref f) us) (EP X pins σ Q) X.xe s := by
  refine wpAny_call (codeAny_mono ((PromO.raw F) X.A.in1 X.stack s H us vs Q E hr.in1 I.env0.in1 rv h) fun r s' hq => ?_)
  cases r with
  | error e => exact hx pins σ H s e s' I hq
  | ok fl =>
    cases fl with
    | ret u => exact I.after hq
    | next => exact False.elim hq
    | brk => exact False.elim hq
    | cont => exact False.elim hq
/-- len(o) -/
@[irreducible] def rLenO (C : Addr) (sp : Sp) (E : XK) : List V → Hp → VK → Prop := fun xs H Q => ∃ a dx fs, xs = [.ref a] ∧ H a = some (.ins C dx fs) ∧ sp [.ref a] H (fun v H' => ∃ n : Nat, v = .int n ∧ n < 2 ^ 62 ∧ Q (.int n) H') E
theorem cr_lenO (hm : Meth X.K C "__len__" f) (F : PromOX X CX k f [] sp) (hr : Room (k + 1) X.A) (hx : Passes CX X E) : CallR X (.builtin "len") (rLenO C sp E) := by
  intro pins s σ H xs us Q I rv h
  unfold rLenO at h
  obtain ⟨a, dx, fs, rfl, ha, q⟩ := h
  obtain ⟨u, rfl, ru⟩ := vals1 rv
  cases (show u = Value.ref a from ru)
  obtain ⟨ox, od, J⟩ := ins_look I ha
  obtain ⟨m, hF⟩ := I.fr
  refine PySem.W.len_K hF I.ok.mod.kin J hm.at_ hm.fn (wpAny_mono (promO_in1 (vs := [.ref a]) F hr hx I (.cons rfl .nil) q) (fun w s' z => ?_) fun _ _ x => x)
  obtain ⟨v, H', I', rv', n, rfl, hn, q'⟩ := z
  obtain ⟨t, rfl⟩ := rv'
  exact ⟨⟨by omega, by omega⟩, .int n, H', I'.tok _, ⟨_, rfl⟩, q'⟩
/-- x in o, x not in o -/
@[irreducible] def rInO (C : Addr) (neg : Bool) (r : List V → Hp → VK → Prop) : R2 := fun x y H Q => ∃ a dx fs, y = .ref a ∧ H a = some (.ins C dx fs) ∧ r [y, x] H fun v H' => ∃ b, v = .bl b ∧ Q (.bl (if neg then !b else b)) H'
theorem op_inO (hm : Meth X.K C "__contains__" f) (R : CallR X (.ref f) r) : OpR X (compareOp .In) (rInO C false r) := by
  intro pins s σ H x y v u Q I rx ry h
  unfold rInO at h
  obtain ⟨a, dx, fs, rfl, ha, q⟩ := h
  cases (show u = Value.ref a from ry)
  obtain ⟨ox, od, J⟩ := ins_look I ha
  obtain ⟨m, hF⟩ := I.fr
  refine PySem.W.in_K hF I.ok.mod.kin J hm.at_ hm.fn (wpAny_mono (R pins s σ H [.ref a, x] [.ref a, v] _ I (.cons rfl (.cons rx .nil)) q) (fun w s' z => ?_) fun _ _ x => x)
  obtain ⟨v', H', I', rv', b, rfl, q'⟩ := z
  cases (show w = Value.bool b from rv')
  exact wpAny_truthy_bool ⟨.bl b, H', I', rfl, q'⟩
theorem op_notinO (hm : Meth X.K C "__contains__" f) (R : CallR X (.ref f) r) : OpR X (compareOp .NotIn) (rInO C true r) := by
  intro pins s σ H x y v u Q I rx ry h
  unfold rInO at h
  obtain ⟨a, dx, fs, rfl, ha, q⟩ := h
  cases (show u = Value.ref a from ry)
  obtain ⟨ox, od, J⟩ := ins_look I ha
  obtain ⟨m, hF⟩ := I.fr
  refine PySem.W.notIn_K hF I.ok.mod.kin J hm.at_ hm.fn (wpAny_mono (R pins s σ H [.ref a, x] [.ref a, v] _ I (.cons rfl (.cons rx .nil)) q) (fun w s' z => ?_) fun _ _ x => x)
  obtain ⟨v', H', I', rv', b, rfl, q'⟩ := z
  cases (show w = Value.bool b from rv')
  exact wpAny_truthy_bool ⟨.bl (!b), H', I', rfl, q'⟩
/-- str(o) -/
@[irreducible] def rStrO (C : Addr) (sp : Sp) (E : XK) : List V → Hp → VK → Prop := fun xs H Q => ∃ a dx fs, xs = [.ref a] ∧ H a = some (.ins C dx fs) ∧ sp [.ref a] H (fun v H' => ∃ z, v = .str z ∧ Q (.str z) H') E
theorem cr_strO (hm : Meth X.K C "__str__" f) (F : PromOX X CX k f [] sp) (hr : Room (k + 2) X.A) (hx : Passes CX X E) : CallR X (.type "str") (rStrO C sp E) := by
  intro pins s σ H xs us Q I rv h
  unfold rStrO at h
  obtain ⟨a, dx, fs, rfl, ha, q⟩ := h
  obtain ⟨u, rfl, ru⟩ := vals1 rv
  cases (show u = Value.ref a from ru)
  obtain ⟨ox, od, J⟩ := ins_look I ha
  have hu : X.A.in1.in1.units < cLine := (hr.in1.in1).units0
  refine PySem.W.kso_call hu I.kIn J hm.at_ hm.fn ?_
  refine wpAny_call (codeAny_mono ((PromO.raw F) X.A.in1.in1 X.stack s H [.ref a] [.ref a] _ E hr.in1.in1 I.env0.in1.in1 (.cons rfl .nil) q) fun r s' hq => ?_)
  cases r with
  | error e => exact hx pins σ H s e s' I hq
  | ok fl =>
    cases fl with
    | ret u =>
      obtain ⟨v, H', I', rv', z, rfl, q'⟩ := I.after hq
      obtain ⟨t, rfl⟩ := rv'
      exact ⟨.str z, H', I', ⟨t, rfl⟩, q'⟩
    | next => exact False.elim hq
    | brk => exact False.elim hq
    | cont => exact False.elim hq
/-- -o, ~o -/
@[irreducible] def rUnO (C : Addr) (r : List V → Hp → VK → Prop) : V → Hp → VK → Prop := fun x H Q => ∃ a dx fs, x = .ref a ∧ H a = some (.ins C dx fs) ∧ r [x] H Q
theorem un_negO (hm : Meth X.K C "__neg__" f) (R : CallR X (.ref f) r) : UnR X (unaryOp .USub) (rUnO C r) := by
  intro pins s σ H x v Q I rx h
  unfold rUnO at h
  obtain ⟨a, dx, fs, rfl, ha, q⟩ := h
  cases (show v = Value.ref a from rx)
  obtain ⟨ox, od, J⟩ := ins_look I ha
  obtain ⟨m, hF⟩ := I.fr
  exact PySem.W.ksp_neg hF I.ok.mod.kin J hm.at_ hm.fn (R pins s σ H [.ref a] [.ref a] Q I (.cons rfl .nil) q)
theorem un_invO (hm : Meth X.K C "__invert__" f) (R : CallR X (.ref f) r) : UnR X (unaryOp .Invert) (rUnO C r) := by
  intro pins s σ H x v Q I rx h
  unfold rUnO at h
  obtain ⟨a, dx, fs, rfl, ha, q⟩ := h
  cases (show v = Value.ref a from rx)
  obtain ⟨ox, od, J⟩ := ins_look I ha
  obtain ⟨m, hF⟩ := I.fr
  exact PySem.W.ksp_inv hF I.ok.mod.kin J hm.at_ hm.fn (R pins s σ H [.ref a] [.ref a] Q I (.cons rfl .nil) q)
/-- o op= y by the class's own method -/
@[irreducible] def rIpO (C : Addr) (r : List V → Hp → VK → Prop) : TIp := fun x y H Q => ∃ a dx fs, x = .ref a ∧ H a = some (.ins C dx fs) ∧ r [x, y] H Q
theorem ip_O {op : Operator} (hc : PySem.W.selfFirst X.K C = true) (hs : PySem.W.findIn X.K (.ref C) (dunderI op.info.2) = some (some (.ref f))) (hf : PySem.W.isFn X.K (.ref f) = true) (R : CallR X (.ref f) r) : PIp X op (rIpO C r) := by
  intro pins s σ H x y v u Q I rx ry h
  unfold rIpO at h
  obtain ⟨a, dx, fs, rfl, ha, q⟩ := h
  cases (show v = Value.ref a from rx)
  obtain ⟨ox, od, J⟩ := ins_look I ha
  obtain ⟨m, hF⟩ := I.fr
  refine PySem.W.ksp_inplace hF I.ok.mod.kin J hc hs hf ?_
  exact wpAny_mono (R pins s σ H [.ref a, y] [.ref a, u] Q I (.cons rfl (.cons ry .nil)) q) (fun w s' z => cmp_back z) fun _ _ x => x
/-- o == y, y any value whose type is told -/
@[irreducible] def rEqO (K : PySem.W.Frag) (C : Addr) (r : List V → Hp → VK → Prop) : R2 := fun x y H Q => ∃ a dx fs tb, x = .ref a ∧ H a = some (.ins C dx fs) ∧ TyX K H y tb ∧ PySem.W.notFirst K C tb = true ∧ r [x, y] H Q
theorem op_eqO {K : PySem.W.Frag} (hK : X.K = K) (hm : Meth X.K C "__eq__" f) (hu : X.A.units < cLine) (R : CallR X (.ref f) r) : OpR X (compareOp .Eq) (rEqO K C r) := by
  subst hK
  intro pins s σ H x y v u Q I rx ry h
  unfold rEqO at h
  obtain ⟨a, dx, fs, tb, rfl, ha, ty, hn, q⟩ := h
  cases (show v = Value.ref a from rx)
  obtain ⟨ox, od, J⟩ := ins_look I ha
  obtain ⟨m, hF⟩ := I.fr
  obtain ⟨P, Z, p, hx⟩ := kit_of I ry ty
  refine PySem.W.cmp_K (op := .Eq) (tb := tb) hu hF I.ok.mod.kin J (Z.ty _ _ I.kIn p) hn hm.at_ hm.fn ?_
  exact wpAny_mono (R pins s σ H [.ref a, y] [.ref a, u] Q I (.cons rfl (.cons ry .nil)) q) (fun w s' z => cmp_back z) fun _ _ x => x
/-- the built-in kinds do not come ahead of the class -/
def nfB (x : Str) (K : PySem.W.Frag) : Bool := (["NoneType", "bool", "int", "str", "list", "tuple", "dict"] : List String).all fun n => PySem.W.notFirst K (gd x K) (.type n)
structure NfT (K : PySem.W.Frag) (C : Addr) : Prop where
  ok : ∀ n ∈ (["NoneType", "bool", "int", "str", "list", "tuple", "dict"] : List String), PySem.W.notFirst K C (.type n) = true
  me : PySem.W.notFirst K C (.ref C) = true
theorem nfB_ok {x : Str} {K : PySem.W.Frag} (h : nfB x K = true) : NfT K (gd x K) := ⟨fun n hn => List.all_eq_true.mp h n hn, by
  unfold PySem.W.notFirst
  simp⟩
/-- an own instance's type -/
theorem InsT.ty {K : PySem.W.Frag} {H : Hp} {a C dx : Addr} {fs : List (Str × V)} (t : InsT K C) (c : Cls K C) (h : H a = some (.ins C dx fs)) : TyX K H (.ref a) (.ref C) := .base (.ins h c t.ha t.hn t.htk t.hm)
end
end Gh

set_option Elab.async false
set_option linter.all false
set_option maxRecDepth 100000
set_option maxHeartbeats 4000000
/-! Ne: o != y where the class has an __eq__ of its own and no __ne__. -/
namespace Gh
open PySem PySem.Spec PyProof.Rows L2
section
variable {prog : Program} {w : World} {A : Around} {E : Value → Shared → Prop} {s : Shared} {K : PySem.W.Frag} {x C f L : Addr} {h₀ : Heap} {m : Str → Option Value} {ox : Obj} {od : Option Obj} {b tb : Value}
open PySem.W in
theorem ifBoundB_K {M : Model} {name : Str} {id : String} {args : List Value} {Q : Option Value → Shared → Prop} (X : K.In s.heap) (I : InstAt s.heap x ox C od) (hs : findIn K (.ref C) name = some (some (.builtin id))) (hb : ∀ self, bindSpecial (.builtin id) self = pure (.builtin id, [self]))
    (h : wpAny M A (call (.builtin id) (.ref x :: args)) (fun v => Q (some v)) E s) : wpAny M A (callSpecialIfBound? (.ref x) name args) Q E s := by
  simp only [callSpecialIfBound?, bindSpecialIfBound?]
  refine wpAny_holding (wpAny_bind (wpAny_bind (wpAny_bind (I.type.here ((looks_findIn X hs).here ?_)))))
  refine wpAny_bind (wpAny_askSetting (wpAny_ite ?_))
  have fin : wpAny M A (call (.builtin id) ([.ref x] ++ args) >>= fun v => pure (some v)) Q E s := wpAny_bind (wpAny_mono h (fun v s' h' => wpAny_pure h') fun _ _ h' => h')
  simp only [hb]
  split
  · exact wpAny_bind (wpAny_pure (wpAny_pure fin))
  · exact wpAny_tryCatch (wpAny_bind (wpAny_pure (wpAny_pure fin)))
open PySem.W in
theorem ne_K {Q : Value → Shared → Prop} (hu : A.units + 1 < cLine) (F : PyProof.Rows.Fr h₀ L s.heap m) (X₀ : K.In h₀) (I : InstAt s.heap x ox C od) (hb : Looks (model prog w) s.heap (typeOf b) tb) (hn : notFirst K C tb = true)
    (h1 : findIn K (.ref C) "__ne__" = some (some (.builtin "object.__ne__"))) (ho : subIn K (.ref C) (.type "object") = some true) (h2 : findIn K (.ref C) "__eq__" = some (some (.ref f))) (hf : isFn K (.ref f) = true)
    (h : wpAny (model prog w) A.in1 (call (.ref f) [.ref x, b]) (fun v s' => ∃ k, v = .bool k ∧ Q (.bool (!k)) s') E s) : wpAny (model prog w) A (richCompare .NotEq (.ref x) b) Q E s := by
  have X := X₀.keeps F.keep
  have one : wpAny (model prog w) A (tryCompare (.ref x) "__ne__" b) (fun r s' => ∃ v, r = some v ∧ Q v s') E s := by
    simp only [tryCompare]
    refine wpAny_bind (ifBoundB_K X I h1 (fun _ => rfl) (wpAny_call (codeAny_call_builtin (by decide +kernel) PySem.F.cmpEntry_ne
      (@check_slot (model prog w) _ _ s "object.__ne__" "object" "__ne__" (.ref x) [b] [] _ PySem.F.cmpKind_ne PySem.F.cmpSplit_ne (I.type.andThen (looks_subIn X ho)) (PySem.F.cmpArgs_ne _ _) ?_))))
    unfold Builtin.«object.__ne__»
    refine wpAny_bind (m := slotArgs "__ne__" 1 _) (wpAny_pure ?_)
    refine wpAny_bind (wpAny_cRoomFor (show A.in1.units < cLine by show A.units + 1 < cLine; exact hu) ?_)
    refine wpAny_bind (ifBound_K X I h2 hf (wpAny_mono h (fun v s' hv => ?_) fun _ _ e => e))
    obtain ⟨k, rfl, hq⟩ := hv
    exact wpAny_bind (wpAny_truthy_bool (wpAny_pure (wpAny_pure ⟨_, rfl, hq⟩)))
  unfold richCompare
  simp only [oneThing_ref]
  refine wpAny_holding (wpAny_bind (wpAny_cRoomFor (Nat.lt_of_succ_lt hu) ?_))
  refine wpAny_bind (I.type.here (wpAny_bind (hb.here ?_)))
  split
  · rename_i q
    have e : subIn K tb (.ref C) = some false := by
      rcases Bool.or_eq_true_iff.mp hn with e | e
      · rw [beq_iff_eq.mp e] at q; simp at q
      · exact beq_iff_eq.mp e
    refine wpAny_bind ((looks_subIn X e).here ?_)
    simp only [Bool.false_eq_true, if_false]
    refine wpAny_bind (wpAny_mono one (fun r s' z => ?_) fun _ _ e => e)
    obtain ⟨v, rfl, hq⟩ := z
    exact wpAny_pure hq
  · refine wpAny_bind (wpAny_pure ?_)
    simp only [Bool.false_eq_true, if_false]
    refine wpAny_bind (wpAny_mono one (fun r s' z => ?_) fun _ _ e => e)
    obtain ⟨v, rfl, hq⟩ := z
    exact wpAny_pure hq
end
section
variable {X : Cx} {CX : CXT} {k : Nat} {C f : Addr} {sp : Sp} {E : XK}
/-- what != by the own == asks of the class -/
structure NeT (K : PySem.W.Frag) (C : Addr) : Prop where
  ne : PySem.W.findIn K (.ref C) "__ne__" = some (some (.builtin "object.__ne__"))
  ob : PySem.W.subIn K (.ref C) (.type "object") = some true
def neB (x : Str) (K : PySem.W.Frag) : Bool := He.eqO (PySem.W.findIn K (.ref (gd x K)) "__ne__") (some (some (.builtin "object.__ne__"))) && decide (PySem.W.subIn K (.ref (gd x K)) (.type "object") = some true)
theorem neB_ok {x : Str} {K : PySem.W.Frag} (h : neB x K = true) : NeT K (gd x K) := by
  obtain ⟨h1, h2⟩ := He.ba h
  exact ⟨He.eqO_ok h1, of_decide_eq_true h2⟩
@[irreducible] def rNeO (K : PySem.W.Frag) (C : Addr) (sp : Sp) (E : XK) : R2 := fun x y H Q => ∃ a dx fs tb, x = .ref a ∧ H a = some (.ins C dx fs) ∧ TyX K H y tb ∧ PySem.W.notFirst K C tb = true ∧ sp [x, y] H (fun v H' => ∃ b, v = .bl b ∧ Q (.bl (!b)) H') E
theorem op_neO {K : PySem.W.Frag} (hK : X.K = K) (hm : Meth X.K C "__eq__" f) (hn : NeT X.K C) (F : PromOX X CX k f [] sp) (hr : Room (k + 1) X.A) (hx : Passes CX X E) : OpR X (compareOp .NotEq) (rNeO K C sp E) := by
  subst hK
  intro pins s σ H x y v u Q I rx ry h
  unfold rNeO at h
  obtain ⟨a, dx, fs, tb, rfl, ha, ty, nf, q⟩ := h
  cases (show v = Value.ref a from rx)
  obtain ⟨ox, od, J⟩ := ins_look I ha
  obtain ⟨m, hF⟩ := I.fr
  obtain ⟨P, Z, p, hx'⟩ := kit_of I ry ty
  refine ne_K (b := u) (tb := tb) (by have := hr.un; omega) hF I.ok.mod.kin J (Z.ty _ _ I.kIn p) nf hn.ne hn.ob hm.at_ hm.fn (wpAny_mono (promO_in1 (vs := [.ref a, y]) F hr hx I (.cons rfl (.cons ry .nil)) q) (fun w s' z => ?_) fun _ _ x => x)
  obtain ⟨v', H', I', rv', b, rfl, q'⟩ := z
  cases (show w = Value.bool b from rv')
  exact ⟨b, rfl, .bl (!b), H', I', rfl, q'⟩
end
end Gh

set_option Elab.async false
set_option linter.all false
set_option maxRecDepth 100000
set_option maxHeartbeats 4000000
/-! Gi: if in a generator's body. -/
namespace Gh
open PySem PySem.Spec PyProof.Rows L2 GenW
def tGIf (tc : TT) (ta tb : TGn) : TGn := fun D ys σ H => tc σ H fun r H1 => if r = true then ta D ys σ H1 else tb D ys σ H1
theorem gs_if {X : Cx} {test : Expr} {a b : List Stmt} {pos : Pos} {tc : TT} {ta tb : TGn} (hc : PT X test tc) (ha : GSs X a ta) (hb : GSs X b tb) : GS X (.If test a b pos) (tGIf tc ta tb) := by
  refine ⟨fun A S ip R n ys s₀ c fs K J gd lv s σ H D g hn k hI ht => ?_⟩
  obtain ⟨acc, cc, r, I⟩ := hI
  rw [exec_If]
  show Seg _ _ _ _ _ _ _ (.at pos fun _ => (isTrue test X.env (eval test X.env) >>= fun d => if d = true then execs a X.env else execs b X.env).wrap K J gd lv) _ _
  refine seg_at (seg_bind_wrap ?_)
  rw [g.over]
  refine wpAny_mono (hc.run _ s σ H _ I ht) (fun d s1 hd => ?_) fun x s' hx => k.exc n s₀ x s' hx
  obtain ⟨H1, I1, q1⟩ := hd
  cases d with
  | true => exact ha.run A S ip R n ys s₀ c fs K J gd lv s1 σ H1 D g hn k ⟨acc, cc, r, I1⟩ q1
  | false => exact hb.run A S ip R n ys s₀ c fs K J gd lv s1 σ H1 D g hn k ⟨acc, cc, r, I1⟩ q1
end Gh

set_option Elab.async false
set_option linter.all false
set_option maxRecDepth 100000
set_option maxHeartbeats 4000000
/-! Gf: for in a generator's body. -/
namespace Gh
open PySem PySem.Spec PyProof.Rows L2 GenW
/-- what a loop's code does with an exception of its turn -/
def loopEx (env : Env) (e : Value) : Sem PySem.Fin := (do noteFrame e env; theTreesLotGoes e : Sem Unit).wrap (fun _ => .raise e) .raise id id
section
variable {prog : Program} {w : World} {A : Around} {R : GenEnd} {Y : Protocol} {n : Nat} {s₀ : Shared} {fs : List Frame} {s : Shared} {env : Env}
theorem seg_forLoop {target : Expr} {it : Value} {body : List Stmt}
    (h : wpAny (model prog w) (A.over (.forLoop target it body [] env) fs) (pyNext it) (fun r s₁ => match r with
      | none => Seg (model prog w) A R Y n s₀ (.block [] env) (.pure (.done .next)) fs s₁
      | some v => wpAny (model prog w) (A.over (.forLoop target it body [] env) fs) (letOwnedTupleGo target it v) (fun _ s₂ =>
          wpAny (model prog w) (A.over (.forLoop target it body [] env) fs) (assign target env v) (fun _ s₃ =>
            Seg (model prog w) A R Y n s₀ (.forLoop target it body [] env) ((execs body env).wrap (fun f => match f with
              | .next | .cont => .pure (.again (.forLoop target it body [] env))
              | .brk => .pure (.done .next)
              | .ret v => .pure (.done (.ret v))) (loopEx env) id id) fs s₃) (fun x s' => Seg (model prog w) A R Y n s₀ (.forLoop target it body [] env) (loopEx env x) fs s') s₂)
          (fun x s' => Seg (model prog w) A R Y n s₀ (.forLoop target it body [] env) (loopEx env x) fs s') s₁) (fun x s' => Seg (model prog w) A R Y n s₀ (.forLoop target it body [] env) (loopEx env x) fs s') s) :
    Seg (model prog w) A R Y n s₀ (.forLoop target it body [] env) ((model prog w).den (.forLoop target it body [] env)) fs s := by
  show Seg _ A R Y n s₀ _ ((forTurn target it body [] env).onRaise (fun x => do noteFrame x env; theTreesLotGoes x)) fs s
  have eH : ∀ x : Value, ((do noteFrame x env; theTreesLotGoes x : Sem Unit).bind fun _ => (.raise x : Sem PySem.Fin)) = loopEx env x := fun x => Sem.bind_eq_wrap _ _
  rw [Sem.onRaise_eq_wrap]
  unfold forTurn
  refine seg_bind_wrap (wpAny_standAt ?_)
  refine seg_bind_wrap (wpAny_onRaise (wpAny_mono h (fun r s₁ h₁ => ?_) fun x s₁ hx => wpAny_standAt ?_))
  · cases r with
    | none => exact seg_again rfl h₁
    | some v =>
      refine seg_bind_wrap (wpAny_mono h₁ (fun _ s₂ h₂ => ?_) fun x s' hx => ?_)
      · refine seg_bind_wrap (wpAny_mono h₂ (fun _ s₃ h₃ => ?_) fun x s' hx => ?_)
        · rw [Sem.bind_eq_wrap', Sem.wrap_wrap]
          rw [Sem.wrap_congr (execs body env) _ _ (K' := fun f => match f with
              | .next | .cont => .pure (.again (.forLoop target it body [] env))
              | .brk => .pure (.done .next)
              | .ret v => .pure (.done (.ret v))) (H' := loopEx env) (fun f => by cases f <;> rfl) (fun e => by exact eH e)]
          exact h₃
        · rw [← eH] at hx
          exact hx
      · rw [← eH] at hx
        exact hx
  · rw [← eH] at hx
    exact hx
end
section
variable {X : Cx}
def tGFor (wi : TI) (g : TG) (tb : TGn) : TGn := fun D ys σ H => wi σ H fun J H1 => ∃ W : Nat → Nat → List V → L2.St → Hp → Prop, (∃ m, W 0 m ys σ H1) ∧ ∀ i m ys σ H, W i m ys σ H →
  (J.stop i H ∧ D.nx ys σ H) ∨ (J.go i H ∧ ∃ N : List V → L2.St → Hp → Prop, (∀ ys' σ' H', N ys' σ' H' → ∃ m', m' < m ∧ W (i + 1) m' ys' σ' H') ∧ ∀ x H', J.yld i H x H' → g x σ H' fun σ2 H2 => tb { D with nx := N, ct := N, bk := D.nx } ys σ2 H2)
theorem gs_for {tg iter : Expr} {body : List Stmt} {pos : Pos} {wi : TI} {g : TG} {tb : TGn} (hp : PassesOwn (model X.prog X.w) X.A X.env X.xe) (hc : X.calm = true) (hi : PI X tg iter wi) (hg : PG X tg g) (hb : GSs X body tb)
    (hs : ∀ x, foldedSetIterable iter X.env x = pure x := by intro _; rfl) : GS X (.For tg iter body [] pos) (tGFor wi g tb) := by
  refine ⟨fun A S ip R n ys s₀ c fs K J gd lv s σ H D gc hn k hI ht => ?_⟩
  obtain ⟨acc, cc, r, I⟩ := hI
  rw [exec_For]
  refine seg_bind_wrap (wpAny_standAt ?_)
  refine seg_bind_wrap ?_
  rw [gc.over]
  refine wpAny_mono (hi.run _ s σ H _ I ht) (fun v s1 h1 => ?_) fun x s' hx => k.exc n s₀ x s' hx
  refine seg_bind_wrap ?_
  rw [gc.over]
  refine wpAny_of_eq (hs v) ?_
  refine seg_bind_wrap (wpAny_standAt ?_)
  refine seg_bind_wrap ?_
  rw [gc.over]
  refine wpAny_holding (wpAny_mono h1 (fun itv s2 h2 => ?_) fun x s' hx => k.exc n s₀ x s' hx)
  obtain ⟨it, fp, tn, JJ, H2, e, I2, T, st2, f2, W, ⟨m0, w0⟩, turn⟩ := h2
  subst e
  -- the iterator's objects are none of the consumer's list, none of the generator's own ones
  have fS : ∀ b ∈ fp, b ≠ S := fun b hb z => (f2 b hb).2.2.2.2.2 (S, lstObj acc cc) (List.mem_append_right _ List.mem_cons_self) z.symm
  have stat : ∀ {H' : Hp} {o : Obj}, (∀ b ∈ fp, H' b = none) → ∀ b ∈ fp, FpOk X ((S, o) :: ip) H' b := fun {H' o} hn b hb => by
    obtain ⟨_, q1, q2, q3, q4, q5⟩ := f2 b hb
    refine ⟨hn b hb, q1, q2, q3, q4, fun p hp => ?_⟩
    rcases List.mem_append.mp hp with z | z
    · exact q5 p (List.mem_append_left _ z)
    · rcases List.mem_cons.mp z with z | z
      · rw [z]
        exact fun y => fS b hb y.symm
      · exact q5 p (List.mem_append_right _ (List.mem_cons_of_mem _ z))
  refine seg_call fun p => ?_
  have gl := fun (kk : Result → Sem PySem.Fin) => gc_loop (k := kk) (c' := .forLoop tg (.ref it) body [] X.env) (l := lv []) (kp := []) (p := p) gc rfl rfl
  have loop : ∀ (m i n : Nat) (ys : List V) (s₀ s : Shared) (σ : L2.St) (H : Hp), n + ys.length = sizeLine → W i m ys σ H → GI X S ip ys σ H s → tn i s.heap → (∀ b ∈ fp, H b = none) →
      Seg (model X.prog X.w) A R (GY X S) n s₀ (.forLoop tg (.ref it) body [] X.env) ((model X.prog X.w).den (.forLoop tg (.ref it) body [] X.env))
        (.ret (fun r => ((match r with | .ok f => (.pure f : Sem Flow) | .error e => .raise e).onRaise (cameBack X.env)).wrap K J gd lv) none (gd false) (lv []) c p [] :: fs) s := by
    intro m
    induction m using Nat.strongRecOn with
    | ind m ih =>
      intro i n ys s₀ s σ H hn wI hI st fr
      have ee : ∀ (n : Nat) (s₀ : Shared) (x : Value) (s' : Shared), X.xe x s' → Seg (model X.prog X.w) A R (GY X S) n s₀ (.forLoop tg (.ref it) body [] X.env) (loopEx X.env x)
          (.ret (fun r => ((match r with | .ok f => (.pure f : Sem Flow) | .error e => .raise e).onRaise (cameBack X.env)).wrap K J gd lv) none (gd false) (lv []) c p [] :: fs) s' := fun n s₀ x s' hx => by
        refine seg_wrap ?_
        rw [(gl _).over]
        refine wpAny_bind (wpAny_mono (hp x s' hx) (fun _ s'' hcb => wpAny_theTreesLotGoes ?_) fun y s'' hcb => ?_)
        · exact seg_leaf (.error x) (seg_cameBack gc k hcb)
        · exact seg_leaf (.error y) (seg_cameBack gc k hcb)
      refine seg_forLoop ?_
      rw [(gl _).over]
      obtain ⟨acc, cc, r, I⟩ := hI
      rcases turn i m ys σ H wI with ⟨stop, qn⟩ | ⟨go, N, hN, step⟩
      · refine wpAny_mono (T.done X rfl rfl rfl hc i _ s σ H X.xe I (stat fr) st stop) (fun r4 s4 h4 => ?_) fun x s' hx => ee n s₀ x s' hx
        obtain ⟨hr, I4⟩ := h4
        subst hr
        exact seg_leaf (.ok .next) (k.ok n ys s₀ s4 .next hn ⟨σ, H, ⟨acc, cc, r, I4⟩, qn⟩)
      · refine wpAny_mono (T.item X rfl rfl rfl hc i _ s σ H X.xe I (stat fr) st go) (fun r4 s4 h4 => ?_) fun x s' hx => ee n s₀ x s' hx
        obtain ⟨u, hr, h4⟩ := h4
        subst hr
        refine wpAny_mono h4 (fun _ s5 h5 => ?_) fun x s' hx => ee n s₀ x s' hx
        obtain ⟨x, H5, I5, r5, y5, st5, fr5⟩ := h5
        have I5' := I5.pinned (stat fr5) (T.obj _ _ st5)
        refine wpAny_mono (hg.run _ s5 σ H5 x u _ I5' r5 (step x H5 y5)) (fun _ s6 h6 => ?_) fun x s' hx => ee n s₀ x s' hx
        obtain ⟨σ6, H6, I6, q6⟩ := h6
        have g6 : ∀ kk, GC X S (ip ++ pinsAt fp s5.heap) A (.forLoop tg (.ref it) body [] X.env) (.ret kk none (gd false) (lv []) c p [] :: fs) id := fun kk => by
          have z := gl kk
          refine ⟨z.pn, fun q hq => ?_, z.apart, z.over, z.split, z.guard, z.gd⟩
          rcases List.mem_append.mp hq with y | y
          · exact z.ip q y
          · exact fS q.1 (of_pinsAt y).1
        have un : ∀ {ys' : List V} {σ7 : L2.St} {H7 : Hp} {s7 : Shared}, GI X S (ip ++ pinsAt fp s5.heap) ys' σ7 H7 s7 → GI X S ip ys' σ7 H7 s7 ∧ tn (i + 1) s7.heap ∧ ∀ b ∈ fp, H7 b = none := fun {ys' σ7 H7 s7} h => by
          obtain ⟨acc7, cc7, r7, I7⟩ := h
          have pin : ∀ b ∈ fp, ∀ o, s5.heap.get? b = some o → (b, o) ∈ X.pn ++ ((S, lstObj acc7 cc7) :: (ip ++ pinsAt fp s5.heap)) := fun b hb o e => List.mem_append_right _ (List.mem_cons_of_mem _ (List.mem_append_right _ (mem_pinsAt hb e)))
          refine ⟨⟨acc7, cc7, r7, I7.pins_of fun q hq => I7.pin q (List.mem_append_right _ ?_)⟩, T.keep _ _ _ st5 fun b hb o e => (I7.pin (b, o) (pin b hb o e)).1, fun b hb => ?_⟩
          · rcases List.mem_cons.mp hq with y | y
            · rw [y]
              exact List.mem_cons_self
            · exact List.mem_cons_of_mem _ (List.mem_append_left _ y)
          · obtain ⟨o, e, _⟩ := T.obj _ _ st5 b hb
            exact (I7.pin (b, o) (pin b hb o e)).2.1
        refine hb.run A S (ip ++ pinsAt fp s5.heap) R n ys s₀ _ _ _ _ id id s6 σ6 H6 { D with nx := N, ct := N, bk := D.nx } (g6 _) hn ⟨fun n' ys' s₀' s7 f hn' h7 => ?_, fun n' s₀' x s7 hx => ee n' s₀' x s7 hx⟩ ⟨acc, cc, r, I6⟩ q6
        cases f with
        | next =>
          obtain ⟨σ7, H7, I7, n7⟩ := h7
          obtain ⟨G7, t7, f7⟩ := un I7
          obtain ⟨m', hm, w7⟩ := hN ys' σ7 H7 n7
          exact seg_again rfl (ih m' hm (i + 1) n' ys' s₀' s7 σ7 H7 hn' w7 G7 t7 f7)
        | cont =>
          obtain ⟨σ7, H7, I7, n7⟩ := h7
          obtain ⟨G7, t7, f7⟩ := un I7
          obtain ⟨m', hm, w7⟩ := hN ys' σ7 H7 n7
          exact seg_again rfl (ih m' hm (i + 1) n' ys' s₀' s7 σ7 H7 hn' w7 G7 t7 f7)
        | brk =>
          obtain ⟨σ7, H7, I7, q7⟩ := h7
          exact seg_leaf (.ok .next) (k.ok n' ys' s₀' s7 .next hn' ⟨σ7, H7, (un I7).1, q7⟩)
        | ret v =>
          obtain ⟨x7, σ7, H7, I7, r7, q7⟩ := h7
          exact seg_leaf (.ok (.ret v)) (k.ok n' ys' s₀' s7 (.ret v) hn' ⟨x7, σ7, H7, (un I7).1, r7, q7⟩)
  exact loop m0 0 n ys s₀ s2 σ H2 hn w0 ⟨acc, cc, r, I2⟩ st2 fun b hb => (f2 b hb).1
/-- over a list that the body leaves as it is -/
theorem gfor_list {K : PySem.W.Frag} {a : Addr} {xs : List V} {g : TG} {tb : TGn} {D : GEnds} {ys : List V} {σ : L2.St} {H : Hp} (Pv : Nat → List V → L2.St → Hp → Prop) (h0 : Pv 0 ys σ H) (hl : ∀ i ys σ H, i ≤ xs.length → Pv i ys σ H → SqL K H a xs)
    (hs : ∀ i x ys σ H, xs[i]? = some x → Pv i ys σ H → g x σ H fun σ2 H2 => tb { D with nx := Pv (i + 1), ct := Pv (i + 1), bk := D.nx } ys σ2 H2) (hd : ∀ ys σ H, Pv xs.length ys σ H → D.nx ys σ H) :
    ∃ W : Nat → Nat → List V → L2.St → Hp → Prop, (∃ m, W 0 m ys σ H) ∧ ∀ i m ys σ H, W i m ys σ H →
      ((Itl K a).stop i H ∧ D.nx ys σ H) ∨ ((Itl K a).go i H ∧ ∃ N : List V → L2.St → Hp → Prop, (∀ ys' σ' H', N ys' σ' H' → ∃ m', m' < m ∧ W (i + 1) m' ys' σ' H') ∧ ∀ x H', (Itl K a).yld i H x H' → g x σ H' fun σ2 H2 => tb { D with nx := N, ct := N, bk := D.nx } ys σ2 H2) := by
  refine ⟨fun i m ys σ H => m = xs.length - i ∧ i ≤ xs.length ∧ Pv i ys σ H, ⟨xs.length, by simp, Nat.zero_le _, h0⟩, ?_⟩
  rintro i m ys σ H ⟨rfl, hi, p⟩
  have q := hl i ys σ H hi p
  by_cases hlt : i < xs.length
  · refine .inr ⟨⟨xs, xs[i], q, by simp [hlt]⟩, Pv (i + 1), fun ys' σ' H' p' => ⟨xs.length - (i + 1), by omega, rfl, hlt, p'⟩, fun x H' y => ?_⟩
    obtain ⟨e, y⟩ := y
    subst e
    exact hs i x ys σ _ (y xs q) p
  · have e : i = xs.length := by omega
    subst e
    exact .inl ⟨⟨xs, q, Nat.le_refl _⟩, hd ys σ H p⟩
end
end Gh

set_option Elab.async false
set_option linter.all false
set_option maxRecDepth 100000
set_option maxHeartbeats 4000000
/-! Sx: steps for own special methods. -/
namespace Gh
open PySem PySem.Spec PyProof.Rows L2
section
variable {K : PySem.W.Frag} {H : Hp} {Q : VK} {a C dx : Addr} {fs : List (Str × V)} {sp : Sp} {E : XK} {r : List V → Hp → VK → Prop} {x y : V} {tb : Value}
theorem st_lenO (h : H a = some (.ins C dx fs)) (q : rSp sp [] E [.ref a] H (fun v H' => ∃ n : Nat, v = .int n ∧ n < 2 ^ 62 ∧ Q (.int n) H')) : rLenO C sp E [.ref a] H Q := by
  unfold rLenO
  exact ⟨a, dx, fs, rfl, h, q⟩
theorem st_inO {neg : Bool} (h : H a = some (.ins C dx fs)) (q : r [.ref a, x] H fun v H' => ∃ b, v = .bl b ∧ Q (.bl (if neg then !b else b)) H') : rInO C neg r x (.ref a) H Q := by
  unfold rInO
  exact ⟨a, dx, fs, rfl, h, q⟩
theorem st_strO (h : H a = some (.ins C dx fs)) (q : rSp sp [] E [.ref a] H (fun v H' => ∃ z, v = .str z ∧ Q (.str z) H')) : rStrO C sp E [.ref a] H Q := by
  unfold rStrO
  exact ⟨a, dx, fs, rfl, h, q⟩
theorem st_unO (h : H a = some (.ins C dx fs)) (q : r [.ref a] H Q) : rUnO C r (.ref a) H Q := by
  unfold rUnO
  exact ⟨a, dx, fs, rfl, h, q⟩
theorem st_ipO (h : H a = some (.ins C dx fs)) (q : r [.ref a, y] H Q) : rIpO C r (.ref a) y H Q := by
  unfold rIpO
  exact ⟨a, dx, fs, rfl, h, q⟩
theorem st_eqO (h : H a = some (.ins C dx fs)) (ty : TyX K H y tb) (nf : PySem.W.notFirst K C tb = true) (q : r [.ref a, y] H Q) : rEqO K C r (.ref a) y H Q := by
  unfold rEqO
  exact ⟨a, dx, fs, tb, rfl, h, ty, nf, q⟩
theorem st_neO (h : H a = some (.ins C dx fs)) (ty : TyX K H y tb) (nf : PySem.W.notFirst K C tb = true) (q : rSp sp [] E [.ref a, y] H (fun v H' => ∃ b, v = .bl b ∧ Q (.bl (!b)) H')) : rNeO K C sp E (.ref a) y H Q := by
  unfold rNeO
  exact ⟨a, dx, fs, tb, rfl, h, ty, nf, q⟩
end
end Gh

set_option Elab.async false
set_option linter.all false
set_option maxRecDepth 100000
set_option maxHeartbeats 4000000
/-! Pd: pure readings: data without a heap, trees of draws, what a value of the heap denotes; expressions and statements read as trees. -/
namespace Gp
open PySem PySem.Spec PyProof.Rows L2 Gh
inductive D where
  | non | bl (b : Bool) | int (i : Int) | str (x : Str) | tup (ds : List D) | lst (ds : List D)
  | obj (c : Str) (fs : List (Str × D)) | err (c : Str) (fs : List (Str × D)) | pen
abbrev Fs := List (Str × D)
/-- what comes of it: a thing, an error, nothing that is told, or a draw and then more -/
inductive Tr (α : Type) where
  | ok (a : α) | ex (c : Str) (fs : Fs) | bad | draw (m : Int) (k : Int → Tr α)
section
variable {α β γ : Type}
def bd : Tr α → (α → Tr β) → Tr β
  | .ok a, k => k a
  | .ex c fs, _ => .ex c fs
  | .bad, _ => .bad
  | .draw m f, k => .draw m fun d => bd (f d) k
/-- all that comes of it is right; b draws may be made -/
def Al (P : α → Nat → Prop) (E : Str → Fs → Nat → Prop) : Tr α → Nat → Prop
  | .ok a, b => P a b
  | .ex c fs, b => E c fs b
  | .bad, _ => False
  | .draw m k, b => ∃ b', b = b' + 1 ∧ 0 < m ∧ m < 10 ^ 100 ∧ ∀ d, 0 ≤ d → d < m → Al P E (k d) b'
/-- no error leaves -/
def nox : Tr α → Tr α
  | .ok a => .ok a
  | .ex _ _ => .bad
  | .bad => .bad
  | .draw m f => .draw m fun d => nox (f d)
theorem bd_ok (a : α) (k : α → Tr β) : bd (.ok a) k = k a := rfl
theorem bd_ex (c : Str) (fs : Fs) (k : α → Tr β) : bd (.ex c fs) k = .ex c fs := rfl
theorem bd_bad (k : α → Tr β) : bd .bad k = .bad := rfl
theorem nox_ok (a : α) : nox (.ok a) = .ok a := rfl
theorem nox_ex (c : Str) (fs : Fs) : nox (α := α) (.ex c fs) = .bad := rfl
theorem nox_bad : nox (α := α) .bad = .bad := rfl
theorem bd_bd (m : Tr α) (k : α → Tr β) (l : β → Tr γ) : bd (bd m k) l = bd m fun a => bd (k a) l := by
  induction m with
  | draw m f ih =>
    show Tr.draw m _ = Tr.draw m _
    congr 1
    funext d
    exact ih d
  | _ => rfl
theorem bd_ite (c : Prop) [Decidable c] (m n : Tr α) (k : α → Tr β) : bd (if c then m else n) k = if c then bd m k else bd n k := by split <;> rfl
theorem al_bd {P : β → Nat → Prop} {E : Str → Fs → Nat → Prop} {m : Tr α} {k : α → Tr β} {b : Nat} : Al P E (bd m k) b ↔ Al (fun a b1 => Al P E (k a) b1) E m b := by
  induction m generalizing b with
  | draw m f ih =>
    constructor
    · rintro ⟨b', e, h1, h2, h3⟩
      exact ⟨b', e, h1, h2, fun d d0 d1 => (ih d).mp (h3 d d0 d1)⟩
    · rintro ⟨b', e, h1, h2, h3⟩
      exact ⟨b', e, h1, h2, fun d d0 d1 => (ih d).mpr (h3 d d0 d1)⟩
  | _ => exact Iff.rfl
theorem Al.mono {P P' : α → Nat → Prop} {E E' : Str → Fs → Nat → Prop} (hP : ∀ a b, P a b → P' a b) (hE : ∀ c fs b, E c fs b → E' c fs b) {m : Tr α} {b : Nat} (h : Al P E m b) : Al P' E' m b := by
  induction m generalizing b with
  | ok a => exact hP _ _ h
  | ex c fs => exact hE _ _ _ h
  | bad => exact h
  | draw m f ih =>
    obtain ⟨b', e, h1, h2, h3⟩ := h
    exact ⟨b', e, h1, h2, fun d d0 d1 => ih d (h3 d d0 d1)⟩
theorem al_nox {P : α → Nat → Prop} {E E' : Str → Fs → Nat → Prop} {m : Tr α} {b : Nat} (h : Al P E (nox m) b) : Al P E' m b := by
  induction m generalizing b with
  | ok a => exact h
  | ex c fs => exact h.elim
  | bad => exact h
  | draw m f ih =>
    obtain ⟨b', e, h1, h2, h3⟩ := h
    exact ⟨b', e, h1, h2, fun d d0 d1 => ih d (h3 d d0 d1)⟩
end
/-! ### what a value denotes -/
structure Gw where
  K : PySem.W.Frag
  T : List (Addr × Str)
  p : Addr
  c : Addr
mutual
inductive Den (g : Gw) (U : Addr → Prop) (H : Hp) : V → D → Prop
  | non : Den g U H .non .non
  | bl (b : Bool) : Den g U H (.bl b) (.bl b)
  | int (i : Int) : Den g U H (.int i) (.int i)
  | str (x : Str) : x.length ≤ sizeLine → Den g U H (.str x) (.str x)
  | tup {a : Addr} {vs : List V} {ds : List D} : H a = some (.tup vs) → ¬ U a → vs.length ≤ sizeLine → DenL g U H vs ds → Den g U H (.ref a) (.tup ds)
  | tupW {a : Addr} {vs : List V} {ds : List D} : (∀ H', SqT g.K H' a vs) → vs.length ≤ sizeLine → DenL g U H vs ds → Den g U H (.ref a) (.tup ds)
  | lst {a : Addr} {vs : List V} {ds : List D} : H a = some (.lst vs) → ¬ U a → vs.length ≤ sizeLine → DenL g U H vs ds → Den g U H (.ref a) (.lst ds)
  | obj {a dx : Addr} {c : Str} {fvs : List (Str × V)} {fs : List (Str × D)} : H a = some (.ins (gd c g.K) dx fvs) → ¬ U a → DenF g U H fvs fs → Den g U H (.ref a) (.obj c fs)
  | err {a d : Addr} {c : Str} {fvs : List (Str × V)} {fs : List (Str × D)} : H a = some (exk a (gd c g.K) d) → ¬ U a → H d = some (.xd fvs) → ¬ U d → DenF g U H fvs fs → Den g U H (.ref a) (.err c fs)
  | pen : Den g U H (.ref g.p) .pen
inductive DenL (g : Gw) (U : Addr → Prop) (H : Hp) : List V → List D → Prop
  | nil : DenL g U H [] []
  | cons {v : V} {vs : List V} {d : D} {ds : List D} : Den g U H v d → DenL g U H vs ds → DenL g U H (v :: vs) (d :: ds)
inductive DenF (g : Gw) (U : Addr → Prop) (H : Hp) : List (Str × V) → List (Str × D) → Prop
  | nil : DenF g U H [] []
  | cons {n : Str} {v : V} {vs : List (Str × V)} {d : D} {ds : List (Str × D)} : Den g U H v d → DenF g U H vs ds → DenF g U H ((n, v) :: vs) ((n, d) :: ds)
end
section
variable {g : Gw} {U U' : Addr → Prop} {H H' : Hp}
def ExtU (U : Addr → Prop) (H H' : Hp) : Prop := ∀ a o, H a = some o → ¬ U a → (∀ ps, o ≠ .tbl ps) → H' a = some o
mutual
theorem Den.ext (e : ExtU U H H') : ∀ {v : V} {d : D}, Den g U H v d → Den g U H' v d
  | _, _, .non => .non
  | _, _, .bl b => .bl b
  | _, _, .int i => .int i
  | _, _, .str x h => .str x h
  | _, _, .tup h n l k => .tup (e _ _ h n (fun _ z => by cases z)) n l (DenL.ext e k)
  | _, _, .tupW h l k => .tupW h l (DenL.ext e k)
  | _, _, .lst h n l k => .lst (e _ _ h n (fun _ z => by cases z)) n l (DenL.ext e k)
  | _, _, .obj h n k => .obj (e _ _ h n (fun _ z => by cases z)) n (DenF.ext e k)
  | _, _, .err h n h2 n2 k => .err (e _ _ h n (fun _ z => by unfold exk at z; cases z)) n (e _ _ h2 n2 (fun _ z => by cases z)) n2 (DenF.ext e k)
  | _, _, .pen => .pen
theorem DenL.ext (e : ExtU U H H') : ∀ {vs : List V} {ds : List D}, DenL g U H vs ds → DenL g U H' vs ds
  | _, _, .nil => .nil
  | _, _, .cons a r => .cons (Den.ext e a) (DenL.ext e r)
theorem DenF.ext (e : ExtU U H H') : ∀ {vs : List (Str × V)} {ds : List (Str × D)}, DenF g U H vs ds → DenF g U H' vs ds
  | _, _, .nil => .nil
  | _, _, .cons a r => .cons (Den.ext e a) (DenF.ext e r)
end
mutual
theorem Den.sub (e : ∀ a, (∃ o, H a = some o) → U' a → U a) : ∀ {v : V} {d : D}, Den g U H v d → Den g U' H v d
  | _, _, .non => .non
  | _, _, .bl b => .bl b
  | _, _, .int i => .int i
  | _, _, .str x h => .str x h
  | _, _, .tup h n l k => .tup h (fun z => n (e _ ⟨_, h⟩ z)) l (DenL.sub e k)
  | _, _, .tupW h l k => .tupW h l (DenL.sub e k)
  | _, _, .lst h n l k => .lst h (fun z => n (e _ ⟨_, h⟩ z)) l (DenL.sub e k)
  | _, _, .obj h n k => .obj h (fun z => n (e _ ⟨_, h⟩ z)) (DenF.sub e k)
  | _, _, .err h n h2 n2 k => .err h (fun z => n (e _ ⟨_, h⟩ z)) h2 (fun z => n2 (e _ ⟨_, h2⟩ z)) (DenF.sub e k)
  | _, _, .pen => .pen
theorem DenL.sub (e : ∀ a, (∃ o, H a = some o) → U' a → U a) : ∀ {vs : List V} {ds : List D}, DenL g U H vs ds → DenL g U' H vs ds
  | _, _, .nil => .nil
  | _, _, .cons a r => .cons (Den.sub e a) (DenL.sub e r)
theorem DenF.sub (e : ∀ a, (∃ o, H a = some o) → U' a → U a) : ∀ {vs : List (Str × V)} {ds : List (Str × D)}, DenF g U H vs ds → DenF g U' H vs ds
  | _, _, .nil => .nil
  | _, _, .cons a r => .cons (Den.sub e a) (DenF.sub e r)
end
theorem DenL.length : ∀ {vs : List V} {ds : List D}, DenL g U H vs ds → vs.length = ds.length
  | _, _, .nil => rfl
  | _, _, .cons _ r => congrArg (· + 1) (DenL.length r)
theorem DenL.append : ∀ {vs ws : List V} {ds es : List D}, DenL g U H vs ds → DenL g U H ws es → DenL g U H (vs ++ ws) (ds ++ es)
  | _, _, _, _, .nil, k => k
  | _, _, _, _, .cons a r, k => .cons a (DenL.append r k)
theorem DenL.get : ∀ {vs : List V} {ds : List D} {i : Nat} {v : V}, DenL g U H vs ds → vs[i]? = some v → ∃ d, ds[i]? = some d ∧ Den g U H v d
  | _, _, i, v, .nil, e => by simp at e
  | _, _, 0, v, .cons a r, e => by simp at e; subst e; exact ⟨_, rfl, a⟩
  | _, _, i + 1, v, .cons a r, e => by
    obtain ⟨d, h1, h2⟩ := DenL.get (i := i) (v := v) r (by simpa using e)
    exact ⟨d, by simpa using h1, h2⟩
theorem DenL.getD : ∀ {vs : List V} {ds : List D} {i : Nat} {d : D}, DenL g U H vs ds → ds[i]? = some d → ∃ v, vs[i]? = some v ∧ Den g U H v d
  | _, _, i, v, .nil, e => by simp at e
  | _, _, 0, v, .cons a r, e => by simp at e; subst e; exact ⟨_, rfl, a⟩
  | _, _, i + 1, v, .cons a r, e => by
    obtain ⟨d, h1, h2⟩ := DenL.getD (i := i) (d := v) r (by simpa using e)
    exact ⟨d, by simpa using h1, h2⟩
theorem DenL.take : ∀ {vs : List V} {ds : List D} (n : Nat), DenL g U H vs ds → DenL g U H (vs.take n) (ds.take n)
  | _, _, 0, _ => .nil
  | _, _, _ + 1, .nil => .nil
  | _, _, n + 1, .cons a r => .cons a (DenL.take n r)
theorem DenL.drop : ∀ {vs : List V} {ds : List D} (n : Nat), DenL g U H vs ds → DenL g U H (vs.drop n) (ds.drop n)
  | _, _, 0, r => r
  | _, _, _ + 1, .nil => .nil
  | _, _, n + 1, .cons a r => DenL.drop n r
theorem DenL.set : ∀ {vs : List V} {ds : List D} (n : Nat) {v : V} {d : D}, Den g U H v d → DenL g U H vs ds → DenL g U H (vs.set n v) (ds.set n d)
  | _, _, _, _, _, _, .nil => .nil
  | _, _, 0, _, _, h, .cons _ r => .cons h r
  | _, _, n + 1, _, _, h, .cons a r => .cons a (DenL.set n h r)
theorem DenL.ints : ∀ ns : List Int, DenL g U H (ns.map V.int) (ns.map D.int)
  | [] => .nil
  | n :: r => .cons (.int n) (DenL.ints r)
theorem DenF.look : ∀ {vs : List (Str × V)} {ds : List (Str × D)} {n : Str} {d : D}, DenF g U H vs ds → ds.lookup n = some d → ∃ v, vs.lookup n = some v ∧ Den g U H v d
  | _, _, _, _, .nil, e => by cases e
  | _, _, n, d, .cons (n := m) a r, e => by
    simp only [List.lookup] at e ⊢
    cases q : (n == m) with
    | true => rw [q] at e; cases e; exact ⟨_, rfl, a⟩
    | false => rw [q] at e; exact DenF.look r e
theorem DenF.look0 : ∀ {vs : List (Str × V)} {ds : List (Str × D)} {n : Str}, DenF g U H vs ds → ds.lookup n = none → vs.lookup n = none
  | _, _, _, .nil, _ => rfl
  | _, _, n, .cons (n := m) a r, e => by
    simp only [List.lookup] at e ⊢
    cases q : (n == m) with
    | true => rw [q] at e; cases e
    | false => rw [q] at e; exact DenF.look0 r e
def putD (f : Str) (v : D) : List (Str × D) → List (Str × D)
  | [] => [(f, v)]
  | (g, x) :: r => if g = f then (g, v) :: r else (g, x) :: putD f v r
theorem DenF.put {f : Str} {v : V} {d : D} (h : Den g U H v d) : ∀ {vs : List (Str × V)} {ds : List (Str × D)}, DenF g U H vs ds → DenF g U H (putF f v vs) (putD f d ds)
  | _, _, .nil => .cons h .nil
  | _, _, .cons (n := m) a r => by
    unfold putF putD
    split
    · exact .cons h r
    · exact .cons a (DenF.put h r)
theorem DenF.length : ∀ {vs : List (Str × V)} {ds : List (Str × D)}, DenF g U H vs ds → vs.length = ds.length
  | _, _, .nil => rfl
  | _, _, .cons _ r => congrArg (· + 1) (DenF.length r)
end
/-! ### the world -/
structure Wd (g : Gw) (H : Hp) (b : Nat) : Prop where
  pen : Pen H g.p g.c b
  tabs : LamX.Tabs g.T H
structure UOk (g : Gw) (U : Addr → Prop) (H : Hp) : Prop where
  p : U g.p
  c : U g.c
  al : ∀ a, U a → ∃ o, H a = some o ∧ ∀ ps, o ≠ .tbl ps
section
variable {g : Gw} {U U' : Addr → Prop} {H H' H1 H2 : Hp} {b : Nat}
theorem UOk.extU (u : UOk g U H) (f : Fr H H' g.p) : ExtU U H H' := fun a o h n z => f a o h (fun e => n (e ▸ u.p)) z
theorem UOk.fr (u : UOk g U H) (f : Fr H H' g.p) (w : Wd g H' b) : UOk g U H' := ⟨u.p, u.c, fun a ha => by
  by_cases e : a = g.p
  · subst e
    obtain ⟨ns, i, z, h, _⟩ := w.pen
    exact ⟨_, h, fun _ z => by cases z⟩
  · obtain ⟨o, h, n⟩ := u.al a ha
    exact ⟨o, f a o h e n, n⟩⟩
theorem Den.fr (u : UOk g U H) (f : Fr H H' g.p) {v : V} {d : D} (h : Den g U H v d) : Den g U H' v d := h.ext (u.extU f)
theorem DenL.fr (u : UOk g U H) (f : Fr H H' g.p) {v : List V} {d : List D} (h : DenL g U H v d) : DenL g U H' v d := h.ext (u.extU f)
theorem Wd.same (w : Wd g H b) (s : L2.Same H H') : Wd g H' b := ⟨w.pen.same s, w.tabs.ext s⟩
theorem fr_same (s : L2.Same H H') {p : Addr} : Fr H H' p := fun a o h _ _ => s a o h
theorem UOk.new (u : UOk g U H) {a : Addr} (h : H a = none) : ¬ U a := fun z => by
  obtain ⟨o, e, _⟩ := u.al a z
  rw [h] at e
  cases e
end
/-! ### slots -/
inductive Sl where
  | no | fz (d : D) | ow (ds : List D) | oi (c : Str) (fs : Fs)
abbrev Env := List Sl
def SlR (g : Gw) (U : Addr → Prop) (H : Hp) (o : Option V) : Sl → Prop
  | .no => True
  | .fz d => ∃ v, o = some v ∧ Den g U H v d
  | .ow ds => ∃ a vs, o = some (.ref a) ∧ H a = some (.lst vs) ∧ vs.length ≤ sizeLine ∧ DenL g U H vs ds ∧ U a ∧ a ≠ g.p ∧ a ≠ g.c
  | .oi c fs => ∃ a dx fvs, o = some (.ref a) ∧ H a = some (.ins (gd c g.K) dx fvs) ∧ DenF g U H fvs fs ∧ U a ∧ a ≠ g.p ∧ a ≠ g.c
def OwnAt (σ : L2.St) (ε : Env) (i : Nat) (a : Addr) : Prop := σ[i]? = some (some (.ref a)) ∧ ((∃ ds, ε[i]? = some (.ow ds)) ∨ ∃ c fs, ε[i]? = some (.oi c fs))
structure Rel (g : Gw) (U : Addr → Prop) (H : Hp) (σ : L2.St) (ε : Env) : Prop where
  len : σ.length = ε.length
  at_ : ∀ (i : Nat) (s : Sl), ε[i]? = some s → ∃ o, σ[i]? = some o ∧ SlR g U H o s
  apart : ∀ (i j : Nat) (a : Addr), i ≠ j → OwnAt σ ε i a → OwnAt σ ε j a → False
section
variable {g : Gw} {U U' : Addr → Prop} {H H' H1 H2 : Hp} {b : Nat} {σ : L2.St} {ε : Env}
theorem extU_of (hp : U g.p) (f : Fr H H' g.p) : ExtU U H H' := fun a o h n z => f a o h (fun e => n (e ▸ hp)) z
theorem SlR.frp (hp : U g.p) (f : Fr H H' g.p) {o : Option V} : ∀ {s : Sl}, SlR g U H o s → SlR g U H' o s
  | .no, _ => trivial
  | .fz d, ⟨v, e, h⟩ => ⟨v, e, h.ext (extU_of hp f)⟩
  | .ow ds, ⟨a, vs, e, h, l, k, ua, n1, n2⟩ => ⟨a, vs, e, f _ _ h n1 (fun _ z => by cases z), l, k.ext (extU_of hp f), ua, n1, n2⟩
  | .oi c fs, ⟨a, dx, fvs, e, h, k, ua, n1, n2⟩ => ⟨a, dx, fvs, e, f _ _ h n1 (fun _ z => by cases z), k.ext (extU_of hp f), ua, n1, n2⟩
theorem SlR.fr (u : UOk g U H) (f : Fr H H' g.p) {o : Option V} {s : Sl} (h : SlR g U H o s) : SlR g U H' o s := h.frp u.p f
theorem Rel.frp (r : Rel g U H σ ε) (hp : U g.p) (f : Fr H H' g.p) : Rel g U H' σ ε := ⟨r.len, fun i s e => by
  obtain ⟨o, h1, h2⟩ := r.at_ i s e
  exact ⟨o, h1, h2.frp hp f⟩, r.apart⟩
theorem Rel.fr (r : Rel g U H σ ε) (u : UOk g U H) (f : Fr H H' g.p) : Rel g U H' σ ε := ⟨r.len, fun i s e => by
  obtain ⟨o, h1, h2⟩ := r.at_ i s e
  exact ⟨o, h1, h2.fr u f⟩, r.apart⟩
mutual
theorem Den.grow {x : Addr} (n : H x = none) : ∀ {v : V} {d : D}, Den g U H v d → Den g (fun a => U a ∨ a = x) H v d
  | _, _, .non => .non
  | _, _, .bl b => .bl b
  | _, _, .int i => .int i
  | _, _, .str x h => .str x h
  | _, _, .tup h k l r => .tup h (fun z => z.elim k (ne_of_none h n)) l (DenL.grow n r)
  | _, _, .tupW h l r => .tupW h l (DenL.grow n r)
  | _, _, .lst h k l r => .lst h (fun z => z.elim k (ne_of_none h n)) l (DenL.grow n r)
  | _, _, .obj h k r => .obj h (fun z => z.elim k (ne_of_none h n)) (DenF.grow n r)
  | _, _, .err h k h2 k2 r => .err h (fun z => z.elim k (ne_of_none h n)) h2 (fun z => z.elim k2 (ne_of_none h2 n)) (DenF.grow n r)
  | _, _, .pen => .pen
theorem DenL.grow {x : Addr} (n : H x = none) : ∀ {vs : List V} {ds : List D}, DenL g U H vs ds → DenL g (fun a => U a ∨ a = x) H vs ds
  | _, _, .nil => .nil
  | _, _, .cons a r => .cons (Den.grow n a) (DenL.grow n r)
theorem DenF.grow {x : Addr} (n : H x = none) : ∀ {vs : List (Str × V)} {ds : List (Str × D)}, DenF g U H vs ds → DenF g (fun a => U a ∨ a = x) H vs ds
  | _, _, .nil => .nil
  | _, _, .cons a r => .cons (Den.grow n a) (DenF.grow n r)
end
theorem SlR.grow {x : Addr} (n : H x = none) {o : Option V} : ∀ {s : Sl}, SlR g U H o s → SlR g (fun a => U a ∨ a = x) H o s
  | .no, _ => trivial
  | .fz d, ⟨v, e, h⟩ => ⟨v, e, h.grow n⟩
  | .ow ds, ⟨a, vs, e, h, l, k, ua, n1, n2⟩ => ⟨a, vs, e, h, l, k.grow n, .inl ua, n1, n2⟩
  | .oi c fs, ⟨a, dx, fvs, e, h, k, ua, n1, n2⟩ => ⟨a, dx, fvs, e, h, k.grow n, .inl ua, n1, n2⟩
theorem Rel.grow {x : Addr} (r : Rel g U H σ ε) (n : H x = none) : Rel g (fun a => U a ∨ a = x) H σ ε := ⟨r.len, fun i s e => by
  obtain ⟨o, h1, h2⟩ := r.at_ i s e
  exact ⟨o, h1, h2.grow n⟩, r.apart⟩
/-- what is wanted of an expression -/
def okP (g : Gw) (U : Addr → Prop) (H : Hp) (Q : VK) : D → Nat → Prop := fun d b => ∀ v H', Den g U H' v d → Wd g H' b → Fr H H' g.p → Q v H'
def okL (g : Gw) (U : Addr → Prop) (H : Hp) (Q : List V → Hp → Prop) : List D → Nat → Prop := fun d b => ∀ v H', DenL g U H' v d → Wd g H' b → Fr H H' g.p → Q v H'
def okB (g : Gw) (U : Addr → Prop) (H : Hp) (Q : Bool → Hp → Prop) : Bool → Nat → Prop := fun d b => ∀ H', Wd g H' b → Fr H H' g.p → Q d H'
def exP (g : Gw) (U : Addr → Prop) (E : XK) (H : Hp) : Str → Fs → Nat → Prop := fun c fs b => ∀ dd fvs H', H' dd = some (.xd fvs) → ¬ U dd → DenF g U H' fvs fs → Wd g H' b → Fr H H' g.p → E (.ref (gd c g.K)) (some dd) H'
def SE (g : Gw) (E : XK) (ε : Env) (t : TE) (m : Tr D) : Prop := ∀ U σ H b Q, Rel g U H σ ε → Wd g H b → UOk g U H → Al (okP g U H Q) (exP g U E H) m b → t σ H Q
def SA (g : Gw) (E : XK) (ε : Env) (t : TA) (m : Tr (List D)) : Prop := ∀ U σ H b Q, Rel g U H σ ε → Wd g H b → UOk g U H → Al (okL g U H Q) (exP g U E H) m b → t σ H Q
def ST (g : Gw) (E : XK) (ε : Env) (t : TT) (m : Tr Bool) : Prop := ∀ U σ H b Q, Rel g U H σ ε → Wd g H b → UOk g U H → Al (okB g U H Q) (exP g U E H) m b → t σ H Q
def SR1 (g : Gw) (E : XK) (r : V → Hp → VK → Prop) (f : D → Tr D) : Prop := ∀ U H b x dx Q, Den g U H x dx → Wd g H b → UOk g U H → Al (okP g U H Q) (exP g U E H) (f dx) b → r x H Q
def SR2 (g : Gw) (E : XK) (r : R2) (f : D → D → Tr D) : Prop := ∀ U H b x y dx dy Q, Den g U H x dx → Den g U H y dy → Wd g H b → UOk g U H → Al (okP g U H Q) (exP g U E H) (f dx dy) b → r x y H Q
def SRL (g : Gw) (E : XK) (r : List V → Hp → VK → Prop) (f : List D → Tr D) : Prop := ∀ U H b xs dxs Q, DenL g U H xs dxs → Wd g H b → UOk g U H → Al (okP g U H Q) (exP g U E H) (f dxs) b → r xs H Q
theorem exP.fr {E : XK} {c : Str} {fs : Fs} (f : Fr H H1 g.p) (h : exP g U E H c fs b) : exP g U E H1 c fs b := fun dd fvs H' h1 h2 h3 h4 h5 => h dd fvs H' h1 h2 h3 h4 (f.trans h5)
theorem okP.fr {Q : VK} {d : D} (f : Fr H H1 g.p) (h : okP g U H Q d b) : okP g U H1 Q d b := fun v H' h1 h2 h3 => h v H' h1 h2 (f.trans h3)
theorem al_frX {α : Type} {E : XK} {P : α → Nat → Prop} {m : Tr α} (f : Fr H H1 g.p) (h : Al P (exP g U E H) m b) : Al P (exP g U E H1) m b := h.mono (fun _ _ h => h) (fun _ _ _ h => h.fr f)
theorem al_fr {E : XK} {Q : VK} {m : Tr D} (f : Fr H H1 g.p) (h : Al (okP g U H Q) (exP g U E H) m b) : Al (okP g U H1 Q) (exP g U E H1) m b := h.mono (fun _ _ h => h.fr f) (fun _ _ _ h => h.fr f)
/-- the end: a value that stands -/
theorem okP.here {Q : VK} {d : D} {v : V} (h : okP g U H Q d b) (w : Wd g H b) (dn : Den g U H v d) : Q v H := h v H dn w Fr.refl
variable {E : XK} {ta tb tc : TE} {ma mb : Tr D}
theorem SE.step {α : Type} {k : D → Tr α} {P : α → Nat → Prop} {Q : VK} (ha : SE g E ε ta ma) (R : Rel g U H σ ε) (W : Wd g H b) (u : UOk g U H) (h : Al P (exP g U E H) (bd ma k) b)
    (hk : ∀ v d H1 b1, Den g U H1 v d → Wd g H1 b1 → Fr H H1 g.p → Rel g U H1 σ ε → UOk g U H1 → Al P (exP g U E H1) (k d) b1 → Q v H1) : ta σ H Q :=
  ha U σ H b Q R W u ((al_bd.mp h).mono (fun d b1 h1 v H1 d1 w1 f1 => hk v d H1 b1 d1 w1 f1 (R.fr u f1) (u.fr f1 w1) (al_frX f1 h1)) (fun _ _ _ h => h))
theorem SA.step {α : Type} {t : TA} {m : Tr (List D)} {k : List D → Tr α} {P : α → Nat → Prop} {Q : List V → Hp → Prop} (ha : SA g E ε t m) (R : Rel g U H σ ε) (W : Wd g H b) (u : UOk g U H) (h : Al P (exP g U E H) (bd m k) b)
    (hk : ∀ v d H1 b1, DenL g U H1 v d → Wd g H1 b1 → Fr H H1 g.p → Rel g U H1 σ ε → UOk g U H1 → Al P (exP g U E H1) (k d) b1 → Q v H1) : t σ H Q :=
  ha U σ H b Q R W u ((al_bd.mp h).mono (fun d b1 h1 v H1 d1 w1 f1 => hk v d H1 b1 d1 w1 f1 (R.fr u f1) (u.fr f1 w1) (al_frX f1 h1)) (fun _ _ _ h => h))
theorem ST.step {α : Type} {t : TT} {m : Tr Bool} {k : Bool → Tr α} {P : α → Nat → Prop} {Q : Bool → Hp → Prop} (ha : ST g E ε t m) (R : Rel g U H σ ε) (W : Wd g H b) (u : UOk g U H) (h : Al P (exP g U E H) (bd m k) b)
    (hk : ∀ d H1 b1, Wd g H1 b1 → Fr H H1 g.p → Rel g U H1 σ ε → UOk g U H1 → Al P (exP g U E H1) (k d) b1 → Q d H1) : t σ H Q :=
  ha U σ H b Q R W u ((al_bd.mp h).mono (fun d b1 h1 H1 w1 f1 => hk d H1 b1 w1 f1 (R.fr u f1) (u.fr f1 w1) (al_frX f1 h1)) (fun _ _ _ h => h))
/-! ### expressions -/
theorem se_var {i : Nat} {d : D} (h : ε[i]? = some (.fz d) := by rfl) : SE g E ε (tVar i) (.ok d) := fun U σ H b Q R W u q => by
  obtain ⟨o, e, v, rfl, dn⟩ := R.at_ i _ h
  exact ⟨v, e, okP.here q W dn⟩
theorem se_c {v : V} {d : D} (h : ∀ U H, Den g U H v d) : SE g E ε (tC v) (.ok d) := fun U σ H b Q R W u q => okP.here q W (h U H)
theorem se_int {i : Int} : SE g E ε (tC (.int i)) (.ok (.int i)) := se_c fun _ _ => .int i
theorem se_bl {i : Bool} : SE g E ε (tC (.bl i)) (.ok (.bl i)) := se_c fun _ _ => .bl i
theorem se_non : SE g E ε (tC .non) (.ok .non) := se_c fun _ _ => .non
theorem se_str {x : Str} (h : x.length ≤ sizeLine) : SE g E ε (tC (.str x)) (.ok (.str x)) := se_c fun _ _ => .str x h
theorem se_op {r : R2} {f : D → D → Tr D} (hr : SR2 g E r f) (ha : SE g E ε ta ma) (hb : SE g E ε tb mb) : SE g E ε (tOp r ta tb) (bd ma fun x => bd mb fun y => f x y) := fun U σ H b Q R W u q =>
  ha.step R W u q fun v d H1 b1 d1 w1 f1 R1 u1 q1 => hb.step R1 w1 u1 q1 fun v2 e H2 b2 d2 w2 f2 R2 u2 q2 => hr U H2 b2 v v2 d e Q (d1.fr u1 f2) d2 w2 u2 (q2.mono (fun _ _ h => h.fr (f1.trans f2)) (fun _ _ _ h => h))
theorem se_un {r : V → Hp → VK → Prop} {f : D → Tr D} (hr : SR1 g E r f) (ha : SE g E ε ta ma) : SE g E ε (tUn r ta) (bd ma f) := fun U σ H b Q R W u q =>
  ha.step R W u q fun v d H1 b1 d1 w1 f1 R1 u1 q1 => hr U H1 b1 v d Q d1 w1 u1 (q1.mono (fun _ _ h => h.fr f1) (fun _ _ _ h => h))
theorem sa_nil : SA g E ε tNil (.ok []) := fun U σ H b Q R W u q => q [] H .nil W Fr.refl
theorem sa_cons {t : TA} {m : Tr (List D)} (ha : SE g E ε ta ma) (hb : SA g E ε t m) : SA g E ε (tCons ta t) (bd ma fun x => bd m fun xs => .ok (x :: xs)) := fun U σ H b Q R W u q =>
  ha.step R W u q fun v d H1 b1 d1 w1 f1 R1 u1 q1 => hb.step R1 w1 u1 q1 fun v2 e H2 b2 d2 w2 f2 R2 u2 q2 => q2 (v :: v2) H2 (.cons (d1.fr u1 f2) d2) w2 (f1.trans f2)
theorem se_cl {r : List V → Hp → VK → Prop} {f : List D → Tr D} {t : TA} {m : Tr (List D)} (hr : SRL g E r f) (ha : SA g E ε t m) : SE g E ε (tCl r t) (bd m f) := fun U σ H b Q R W u q =>
  ha.step R W u q fun v d H1 b1 d1 w1 f1 R1 u1 q1 => hr U H1 b1 v d Q d1 w1 u1 (q1.mono (fun _ _ h => h.fr f1) (fun _ _ _ h => h))
theorem se_cb {r : List V → Hp → VK → Prop} {f : List D → Tr D} {t : TA} {m : Tr (List D)} (hr : SRL g E r f) (ha : SA g E ε t m) : SE g E ε (tCB r t) (bd m f) := se_cl hr ha
/-- a truth -/
def asB : D → Tr Bool
  | .bl b => .ok b
  | _ => .bad
theorem asB_bl (b : Bool) : asB (.bl b) = .ok b := rfl
theorem al_asB {P : Bool → Nat → Prop} {X : Str → Fs → Nat → Prop} {d : D} (h : Al P X (asB d) b) : ∃ k, d = .bl k ∧ P k b := by
  cases d with
  | bl k => exact ⟨k, rfl, h⟩
  | _ => exact h.elim
theorem al_asBk {α : Type} {P : α → Nat → Prop} {X : Str → Fs → Nat → Prop} {d : D} {k : Bool → Tr α} (h : Al P X (bd (asB d) k) b) : ∃ c, d = .bl c ∧ Al P X (k c) b := al_asB (al_bd.mp h)
theorem den_bl {v : V} {k : Bool} (h : Den g U H v (.bl k)) : v = .bl k := by cases h; rfl
theorem sb_tst (ha : SE g E ε ta ma) : ST g E ε (tTest ta) (bd ma asB) := fun U σ H b Q R W u q =>
  ha.step R W u q fun v d H1 b1 d1 w1 f1 R1 u1 q1 => by
    obtain ⟨k, rfl, q2⟩ := al_asB q1
    exact ⟨k, den_bl d1, q2 H1 w1 f1⟩
theorem sb_tb (ha : SE g E ε ta ma) : ST g E ε (tB ta) (bd ma asB) := sb_tst ha
theorem sb_and {c d : TT} {m n : Tr Bool} (ha : ST g E ε c m) (hb : ST g E ε d n) : ST g E ε (tAnd c d) (bd m fun k => if k = true then n else .ok false) := fun U σ H b Q R W u q =>
  ha.step R W u q fun k H1 b1 w1 f1 R1 u1 q1 => by
    cases k with
    | true => exact hb U σ H1 b1 Q R1 w1 u1 (q1.mono (fun _ _ h H' w f => h H' w (f1.trans f)) (fun _ _ _ h => h))
    | false => exact q1 H1 w1 f1
theorem sb_or {c d : TT} {m n : Tr Bool} (ha : ST g E ε c m) (hb : ST g E ε d n) : ST g E ε (tOr c d) (bd m fun k => if k = true then .ok true else n) := fun U σ H b Q R W u q =>
  ha.step R W u q fun k H1 b1 w1 f1 R1 u1 q1 => by
    cases k with
    | false => exact hb U σ H1 b1 Q R1 w1 u1 (q1.mono (fun _ _ h H' w f => h H' w (f1.trans f)) (fun _ _ _ h => h))
    | true => exact q1 H1 w1 f1
theorem sb_not {c : TT} {m : Tr Bool} (ha : ST g E ε c m) : ST g E ε (tNot c) (bd m fun k => .ok (!k)) := fun U σ H b Q R W u q =>
  ha.step R W u q fun k H1 b1 w1 f1 R1 u1 q1 => q1 H1 w1 f1
theorem se_if {c : TT} {m : Tr Bool} (hc : ST g E ε c m) (ha : SE g E ε ta ma) (hb : SE g E ε tb mb) : SE g E ε (tIf c ta tb) (bd m fun k => if k = true then ma else mb) := fun U σ H b Q R W u q =>
  hc.step R W u q fun k H1 b1 w1 f1 R1 u1 q1 => by
    have q2 := q1.mono (P' := okP g U H1 Q) (fun _ _ h => okP.fr f1 h) (fun _ _ _ h => h)
    cases k with
    | true => exact ha U σ H1 b1 Q R1 w1 u1 q2
    | false => exact hb U σ H1 b1 Q R1 w1 u1 q2
theorem se_andV (ha : SE g E ε ta ma) (hb : SE g E ε tb mb) : SE g E ε (tAndV ta tb) (bd (bd ma asB) fun k => if k = true then mb else .ok (.bl false)) := fun U σ H b Q R W u q => by
  rw [bd_bd] at q
  refine ha.step R W u q fun v d H1 b1 d1 w1 f1 R1 u1 q1 => ?_
  obtain ⟨k, rfl, q2⟩ := al_asBk q1
  refine ⟨k, den_bl d1, ?_⟩
  replace q2 := q2.mono (P' := okP g U H1 Q) (fun _ _ h => okP.fr f1 h) (fun _ _ _ h => h)
  cases k with
  | true => exact hb U σ H1 b1 Q R1 w1 u1 q2
  | false => exact okP.here q2 w1 (.bl false)
theorem se_orV (ha : SE g E ε ta ma) (hb : SE g E ε tb mb) : SE g E ε (tOrV ta tb) (bd (bd ma asB) fun k => if k = true then .ok (.bl true) else mb) := fun U σ H b Q R W u q => by
  rw [bd_bd] at q
  refine ha.step R W u q fun v d H1 b1 d1 w1 f1 R1 u1 q1 => ?_
  obtain ⟨k, rfl, q2⟩ := al_asBk q1
  refine ⟨k, den_bl d1, ?_⟩
  replace q2 := q2.mono (P' := okP g U H1 Q) (fun _ _ h => okP.fr f1 h) (fun _ _ _ h => h)
  cases k with
  | false => exact hb U σ H1 b1 Q R1 w1 u1 q2
  | true => exact okP.here q2 w1 (.bl true)
theorem se_notV (ha : SE g E ε ta ma) : SE g E ε (tNotV ta) (bd (bd ma asB) fun k => .ok (.bl (!k))) := fun U σ H b Q R W u q => by
  rw [bd_bd] at q
  refine ha.step R W u q fun v d H1 b1 d1 w1 f1 R1 u1 q1 => ?_
  obtain ⟨k, rfl, q2⟩ := al_asBk q1
  exact ⟨k, den_bl d1, q2 _ H1 (.bl (!k)) w1 f1⟩
theorem se_chain {r r' : R2} {f f' : D → D → Tr D} {mc : Tr D} (hr : SR2 g E r f) (hr' : SR2 g E r' f') (ha : SE g E ε ta ma) (hb : SE g E ε tb mb) (hc : SE g E ε tc mc) :
    SE g E ε (tChain r r' ta tb tc) (bd ma fun x => bd mb fun y => bd (bd (f x y) asB) fun k => if k = true then bd mc fun z => f' y z else .ok (.bl false)) := fun U σ H b Q R W u q =>
  ha.step R W u q fun v d H1 b1 d1 w1 f1 R1 u1 q1 => hb.step R1 w1 u1 q1 fun v2 e H2 b2 d2 w2 f2 R2 u2 q2 => by
    rw [bd_bd] at q2
    refine hr U H2 b2 v v2 d e _ (d1.fr u1 f2) d2 w2 u2 ((al_bd.mp q2).mono (fun z b3 h3 v3 H3 d3 w3 f3 => ?_) (fun _ _ _ h => h))
    obtain ⟨k, rfl, q3⟩ := al_asBk h3
    refine ⟨k, den_bl d3, ?_⟩
    have q4 := q3.mono (P' := okP g U H3 Q) (E' := exP g U E H3) (fun _ _ h => okP.fr ((f1.trans f2).trans f3) h) (fun _ _ _ h => h.fr f3)
    cases k with
    | false => exact okP.here q4 w3 (.bl false)
    | true =>
      refine hc.step (R2.fr u2 f3) w3 (u2.fr f3 w3) q4 fun v4 z H4 b4 d4 w4 f4 R4 u4 q5 => ?_
      exact hr' U H4 b4 v2 v4 e z Q (d2.fr u2 (f3.trans f4)) d4 w4 u4 (q5.mono (fun _ _ h => h.fr f4) (fun _ _ _ h => h))
/-- displays -/
theorem se_lst {t : TA} {m : Tr (List D)} (ha : SA g E ε t m) : SE g E ε (tLst t) (bd m fun ds => if ds.length ≤ sizeLine then .ok (.lst ds) else .bad) := fun U σ H b Q R W u q =>
  ha.step R W u q fun v d H1 b1 d1 w1 f1 R1 u1 q1 => by
    by_cases hl : d.length ≤ sizeLine
    · rw [if_pos hl] at q1
      have hl' : v.length ≤ sizeLine := by rw [d1.length]; exact hl
      refine ⟨hl', fun p np => ?_⟩
      have s := same_new (o := .lst v) np
      exact q1 _ _ (.lst upd_same (u1.new np) hl' (d1.ext (u1.extU (fr_same s)))) (w1.same s) (f1.trans (fr_same s))
    · rw [if_neg hl] at q1
      exact q1.elim
theorem se_tup {t : TA} {m : Tr (List D)} (ha : SA g E ε t m) : SE g E ε (tTup t) (bd m fun ds => if ds.length ≤ sizeLine then .ok (.tup ds) else .bad) := fun U σ H b Q R W u q =>
  ha.step R W u q fun v d H1 b1 d1 w1 f1 R1 u1 q1 => by
    by_cases hl : d.length ≤ sizeLine
    · rw [if_pos hl] at q1
      have hl' : v.length ≤ sizeLine := by rw [d1.length]; exact hl
      refine ⟨hl', fun p np => ?_⟩
      have s := same_new (o := .tup v) np
      exact q1 _ _ (.tup upd_same (u1.new np) hl' (d1.ext (u1.extU (fr_same s)))) (w1.same s) (f1.trans (fr_same s))
    · rw [if_neg hl] at q1
      exact q1.elim
/-- where no error may leave -/
theorem se_nox (ha : SE g (fun _ _ _ => False) ε ta ma) : SE g E ε ta (nox ma) := fun U σ H b Q R W u q => ha U σ H b Q R W u (al_nox q)
theorem sb_nox {c : TT} {m : Tr Bool} (ha : ST g (fun _ _ _ => False) ε c m) : ST g E ε c (nox m) := fun U σ H b Q R W u q => ha U σ H b Q R W u (al_nox q)
end
end Gp

set_option Elab.async false
set_option linter.all false
set_option maxRecDepth 100000
set_option maxHeartbeats 4000000
/-! Pb: blocks, loops, comprehensions, defs read as trees. -/
namespace Gp
open PySem PySem.Spec PyProof.Rows L2 Gh
/-! ### statements -/
inductive Fl (W L : Type) where
  | nx (w : W) | rt (d : D) | bk (l : L) | ct (l : L)
def FrM (g : Gw) (Mt : Addr → Prop) (H H' : Hp) : Prop := ∀ a o, H a = some o → a ≠ g.p → ¬ Mt a → (∀ ps, o ≠ .tbl ps) → H' a = some o
structure Stt (g : Gw) (Mt U0 : Addr → Prop) (H0 : Hp) (U : Addr → Prop) (σ : L2.St) (H : Hp) (b : Nat) (ε : Env) : Prop where
  rel : Rel g U H σ ε
  wd : Wd g H b
  uok : UOk g U H
  sub : ∀ a, U0 a → U a
  own : ∀ i a, OwnAt σ ε i a → Mt a ∨ ∀ o, H0 a = some o → ∃ ps, o = .tbl ps
  ext : FrM g Mt H0 H
  nu0 : ∀ (i : Nat) (ds : List D) (a : Addr), ε[i]? = some (.ow ds) → σ[i]? = some (some (.ref a)) → ¬ U0 a
  oim : ∀ (i : Nat) (c : Str) (fs : Fs) (a : Addr), ε[i]? = some (.oi c fs) → σ[i]? = some (some (.ref a)) → Mt a
section
variable {g : Gw} {Mt U0 U U' : Addr → Prop} {H0 H H' H1 H2 : Hp} {b b1 : Nat} {σ : L2.St} {ε ε' : Env} {E : XK} {W L W' : Type}
/-- what is frozen stays frozen, and as it was -/
structure Ev (U : Addr → Prop) (H : Hp) (U' : Addr → Prop) (H' : Hp) : Prop where
  keep : ∀ a o, H a = some o → ¬ U a → (∀ ps, o ≠ .tbl ps) → H' a = some o
  out : ∀ a o, H a = some o → ¬ U a → (∀ ps, o ≠ .tbl ps) → ¬ U' a
theorem Ev.refl : Ev U H U H := ⟨fun _ _ h _ _ => h, fun _ _ _ n _ => n⟩
theorem Ev.trans {U1 : Addr → Prop} {H1 : Hp} (h : Ev U H U1 H1) (k : Ev U1 H1 U' H') : Ev U H U' H' := ⟨fun a o e n t => k.keep a o (h.keep a o e n t) (h.out a o e n t) t, fun a o e n t => k.out a o (h.keep a o e n t) (h.out a o e n t) t⟩
theorem UOk.ev (u : UOk g U H) (f : Fr H H' g.p) : Ev U H U H' := ⟨fun a o e n t => f a o e (fun z => n (z ▸ u.p)) t, fun _ _ _ n _ => n⟩
mutual
theorem Den.ev (e : Ev U H U' H') : ∀ {v : V} {d : D}, Den g U H v d → Den g U' H' v d
  | _, _, .non => .non
  | _, _, .bl b => .bl b
  | _, _, .int i => .int i
  | _, _, .str x h => .str x h
  | _, _, .tup h n l k => .tup (e.keep _ _ h n (fun _ z => by cases z)) (e.out _ _ h n (fun _ z => by cases z)) l (DenL.ev e k)
  | _, _, .tupW h l k => .tupW h l (DenL.ev e k)
  | _, _, .lst h n l k => .lst (e.keep _ _ h n (fun _ z => by cases z)) (e.out _ _ h n (fun _ z => by cases z)) l (DenL.ev e k)
  | _, _, .obj h n k => .obj (e.keep _ _ h n (fun _ z => by cases z)) (e.out _ _ h n (fun _ z => by cases z)) (DenF.ev e k)
  | _, _, .err h n h2 n2 k => .err (e.keep _ _ h n (fun _ z => by unfold exk at z; cases z)) (e.out _ _ h n (fun _ z => by unfold exk at z; cases z)) (e.keep _ _ h2 n2 (fun _ z => by cases z)) (e.out _ _ h2 n2 (fun _ z => by cases z)) (DenF.ev e k)
  | _, _, .pen => .pen
theorem DenL.ev (e : Ev U H U' H') : ∀ {vs : List V} {ds : List D}, DenL g U H vs ds → DenL g U' H' vs ds
  | _, _, .nil => .nil
  | _, _, .cons a r => .cons (Den.ev e a) (DenL.ev e r)
theorem DenF.ev (e : Ev U H U' H') : ∀ {vs : List (Str × V)} {ds : List (Str × D)}, DenF g U H vs ds → DenF g U' H' vs ds
  | _, _, .nil => .nil
  | _, _, .cons a r => .cons (Den.ev e a) (DenF.ev e r)
end
theorem FrM.trans (h : FrM g Mt H0 H) (f : Fr H H' g.p) : FrM g Mt H0 H' := fun a o e n1 n2 n3 => f a o (h a o e n1 n2 n3) n1 n3
theorem Stt.fr (s : Stt g Mt U0 H0 U σ H b ε) (f : Fr H H' g.p) (w : Wd g H' b1) : Stt g Mt U0 H0 U σ H' b1 ε := ⟨s.rel.fr s.uok f, w, s.uok.fr f w, s.sub, s.own, s.ext.trans f, s.nu0, s.oim⟩
def flP (g : Gw) (Mt U0 : Addr → Prop) (H0 : Hp) (U : Addr → Prop) (H : Hp) (D : Ends) (env : W → Env) (envL : L → Env) : Fl W L → Nat → Prop
  | .nx w, b => ∀ U' σ' H', Ev U H U' H' → Stt g Mt U0 H0 U' σ' H' b (env w) → D.nx σ' H'
  | .rt d, b => ∀ v H, Den g U0 H v d → Wd g H b → FrM g Mt H0 H → D.rt v H
  | .bk w, b => ∀ U' σ' H', Ev U H U' H' → Stt g Mt U0 H0 U' σ' H' b (envL w) → D.bk σ' H'
  | .ct w, b => ∀ U' σ' H', Ev U H U' H' → Stt g Mt U0 H0 U' σ' H' b (envL w) → D.ct σ' H'
theorem flP.ev {U1 : Addr → Prop} {H1 : Hp} {D : Ends} {env : W → Env} {envL : L → Env} (e : Ev U H U1 H1) : ∀ {f : Fl W L}, flP g Mt U0 H0 U H D env envL f b → flP g Mt U0 H0 U1 H1 D env envL f b
  | .nx w, h => fun U' σ' H' e1 => h U' σ' H' (e.trans e1)
  | .rt d, h => h
  | .bk w, h => fun U' σ' H' e1 => h U' σ' H' (e.trans e1)
  | .ct w, h => fun U' σ' H' e1 => h U' σ' H' (e.trans e1)
def exS (g : Gw) (Mt U0 : Addr → Prop) (H0 : Hp) (E : XK) : Str → Fs → Nat → Prop := fun c fs b => ∀ dd fvs H, H dd = some (.xd fvs) → ¬ U0 dd → DenF g U0 H fvs fs → Wd g H b → FrM g Mt H0 H → E (.ref (gd c g.K)) (some dd) H
def SS (g : Gw) (E : XK) (ε : Env) (t : TS) (env : W → Env) (envL : L → Env) (m : Tr (Fl W L)) : Prop := ∀ Mt U0 H0 U D σ H b, Stt g Mt U0 H0 U σ H b ε → Al (flP g Mt U0 H0 U H D env envL) (exS g Mt U0 H0 E) m b → t D σ H
theorem exS.exP (s : Stt g Mt U0 H0 U σ H b ε) {c : Str} {fs : Fs} (h : exS g Mt U0 H0 E c fs b1) : exP g U E H c fs b1 := fun dd fvs H' h1 h2 h3 h4 h5 =>
  h dd fvs H' h1 (fun z => h2 (s.sub _ z)) (h3.sub fun a _ z => s.sub a z) h4 (s.ext.trans h5)
/-- an expression in a statement -/
theorem SE.sstep {t : TE} {m : Tr D} {k : D → Tr (Fl W L)} {Ds : Ends} {env : W → Env} {envL : L → Env} {Q : VK} (he : SE g E ε t m) (s : Stt g Mt U0 H0 U σ H b ε) (h : Al (flP g Mt U0 H0 U H Ds env envL) (exS g Mt U0 H0 E) (bd m k) b)
    (hk : ∀ v d H1 b1, Den g U H1 v d → Stt g Mt U0 H0 U σ H1 b1 ε → Al (flP g Mt U0 H0 U H1 Ds env envL) (exS g Mt U0 H0 E) (k d) b1 → Q v H1) : t σ H Q :=
  he U σ H b Q s.rel s.wd s.uok ((al_bd.mp h).mono (fun d b1 h1 v H1 d1 w1 f1 => hk v d H1 b1 d1 (s.fr f1 w1) (h1.mono (fun _ _ z => z.ev (s.uok.ev f1)) (fun _ _ _ z => z))) (fun _ _ _ h => exS.exP s h))
theorem SA.sstep {t : TA} {m : Tr (List D)} {k : (List D) → Tr (Fl W L)} {Ds : Ends} {env : W → Env} {envL : L → Env} {Q : List V → Hp → Prop} (he : SA g E ε t m) (s : Stt g Mt U0 H0 U σ H b ε) (h : Al (flP g Mt U0 H0 U H Ds env envL) (exS g Mt U0 H0 E) (bd m k) b)
    (hk : ∀ v d H1 b1, DenL g U H1 v d → Stt g Mt U0 H0 U σ H1 b1 ε → Al (flP g Mt U0 H0 U H1 Ds env envL) (exS g Mt U0 H0 E) (k d) b1 → Q v H1) : t σ H Q :=
  he U σ H b Q s.rel s.wd s.uok ((al_bd.mp h).mono (fun d b1 h1 v H1 d1 w1 f1 => hk v d H1 b1 d1 (s.fr f1 w1) (h1.mono (fun _ _ z => z.ev (s.uok.ev f1)) (fun _ _ _ z => z))) (fun _ _ _ h => exS.exP s h))
theorem ST.sstep {t : TT} {m : Tr Bool} {k : Bool → Tr (Fl W L)} {Ds : Ends} {env : W → Env} {envL : L → Env} {Q : Bool → Hp → Prop} (he : ST g E ε t m) (s : Stt g Mt U0 H0 U σ H b ε) (h : Al (flP g Mt U0 H0 U H Ds env envL) (exS g Mt U0 H0 E) (bd m k) b)
    (hk : ∀ d H1 b1,  Stt g Mt U0 H0 U σ H1 b1 ε → Al (flP g Mt U0 H0 U H1 Ds env envL) (exS g Mt U0 H0 E) (k d) b1 → Q d H1) : t σ H Q :=
  he U σ H b Q s.rel s.wd s.uok ((al_bd.mp h).mono (fun d b1 h1 H1 w1 f1 => hk d H1 b1 (s.fr f1 w1) (h1.mono (fun _ _ z => z.ev (s.uok.ev f1)) (fun _ _ _ z => z))) (fun _ _ _ h => exS.exP s h))
/-- a slot is set -/
theorem ownAt_set {i j : Nat} {v : V} {d : D} {a : Addr} (h : OwnAt (σ.set i (some v)) (ε.set i (.fz d)) j a) : i ≠ j ∧ OwnAt σ ε j a := by
  obtain ⟨h1, h2⟩ := h
  by_cases e : i = j
  · subst e
    exfalso
    rcases h2 with ⟨ds, h2⟩ | ⟨c, fs, h2⟩
    · rw [List.getElem?_set_self' ] at h2
      cases q : ε[i]? with
      | none => rw [q] at h2; cases h2
      | some z => rw [q] at h2; cases h2
    · rw [List.getElem?_set_self'] at h2
      cases q : ε[i]? with
      | none => rw [q] at h2; cases h2
      | some z => rw [q] at h2; cases h2
  · rw [List.getElem?_set_ne e] at h1 h2
    exact ⟨e, h1, h2⟩
theorem Rel.set (r : Rel g U H σ ε) {v : V} {d : D} (i : Nat) (h : Den g U H v d) : Rel g U H (σ.set i (some v)) (ε.set i (.fz d)) := by
  refine ⟨by rw [List.length_set, List.length_set]; exact r.len, fun j s e => ?_, fun j k a n h1 h2 => r.apart j k a n (ownAt_set h1).2 (ownAt_set h2).2⟩
  by_cases q : i = j
  · subst q
    have hl : i < ε.length := by
      cases z : ε[i]? with
      | none => rw [List.getElem?_set_self', z] at e; cases e
      | some w => exact (List.getElem?_eq_some_iff.mp z).1
    rw [List.getElem?_set_self hl] at e
    cases e
    exact ⟨some v, List.getElem?_set_self (by rw [r.len]; exact hl), v, rfl, h⟩
  · rw [List.getElem?_set_ne q] at e ⊢
    exact r.at_ j s e
theorem Stt.set (s : Stt g Mt U0 H0 U σ H b ε) {v : V} {d : D} (i : Nat) (h : Den g U H v d) : Stt g Mt U0 H0 U (σ.set i (some v)) H b (ε.set i (.fz d)) :=
  ⟨s.rel.set i h, s.wd, s.uok, s.sub, fun j a o => s.own j a (ownAt_set o).2, s.ext, fun j ds a e1 e2 => (by
    obtain ⟨_, e3, e4⟩ := ownAt_set (a := a) (j := j) ⟨e2, .inl ⟨ds, e1⟩⟩
    rcases e4 with ⟨ds', e4⟩ | ⟨_, _, e4⟩
    · exact s.nu0 j ds' a e4 e3
    · by_cases q : i = j
      · subst q
        cases z : ε[i]? with
        | none => rw [List.getElem?_set_self', z] at e1; cases e1
        | some w => rw [List.getElem?_set_self', z] at e1; cases e1
      · rw [List.getElem?_set_ne q, e4] at e1
        cases e1), fun j c fs a e1 e2 => by
    by_cases q : i = j
    · subst q
      cases z : ε[i]? with
      | none => rw [List.getElem?_set_self', z] at e1; cases e1
      | some w => rw [List.getElem?_set_self', z] at e1; cases e1
    · rw [List.getElem?_set_ne q] at e1 e2
      exact s.oim j c fs a e1 e2⟩
/-- some slots are forgotten -/
inductive Le : Env → Env → Prop
  | nil : Le [] []
  | s {x : Sl} {a b : Env} : Le a b → Le (x :: a) (x :: b)
  | n {x : Sl} {a b : Env} : Le a b → Le (.no :: a) (x :: b)
theorem Le.refl : ∀ ε : Env, Le ε ε
  | [] => .nil
  | _ :: r => .s (Le.refl r)
theorem Le.len : ∀ {a b : Env}, Le a b → a.length = b.length
  | _, _, .nil => rfl
  | _, _, .s h => congrArg (· + 1) h.len
  | _, _, .n h => congrArg (· + 1) h.len
theorem Le.get : ∀ {a b : Env}, Le a b → ∀ {i : Nat} {s : Sl}, a[i]? = some s → s = .no ∧ (∃ z, b[i]? = some z) ∨ b[i]? = some s
  | _, _, .nil, _, _, e => by simp at e
  | _, _, .s h, 0, _, e => .inr e
  | _, _, .n h, 0, _, e => by simp at e; exact .inl ⟨e.symm, _, rfl⟩
  | _, _, .s h, i + 1, z, e => by simpa using h.get (i := i) (s := z) (by simpa using e)
  | _, _, .n h, i + 1, z, e => by simpa using h.get (i := i) (s := z) (by simpa using e)
theorem ownAt_le (l : Le ε' ε) {i : Nat} {a : Addr} (h : OwnAt σ ε' i a) : OwnAt σ ε i a := by
  obtain ⟨h1, h2⟩ := h
  refine ⟨h1, ?_⟩
  rcases h2 with ⟨ds, h2⟩ | ⟨c, fs, h2⟩
  · rcases l.get h2 with ⟨z, _⟩ | z
    · cases z
    · exact .inl ⟨ds, z⟩
  · rcases l.get h2 with ⟨z, _⟩ | z
    · cases z
    · exact .inr ⟨c, fs, z⟩
theorem Stt.le (s : Stt g Mt U0 H0 U σ H b ε) (l : Le ε' ε) : Stt g Mt U0 H0 U σ H b ε' :=
  ⟨⟨s.rel.len.trans l.len.symm, fun i x e => by
    rcases l.get e with ⟨rfl, z, h⟩ | h
    · obtain ⟨o, h1, _⟩ := s.rel.at_ i z h
      exact ⟨o, h1, trivial⟩
    · exact s.rel.at_ i x h, fun i j a n h1 h2 => s.rel.apart i j a n (ownAt_le l h1) (ownAt_le l h2)⟩, s.wd, s.uok, s.sub, fun i a o => s.own i a (ownAt_le l o), s.ext, fun i ds a e1 e2 => (by
    rcases l.get e1 with ⟨z, _⟩ | z
    · cases z
    · exact s.nu0 i ds a z e2), fun i c fs a e1 e2 => by
    rcases l.get e1 with ⟨z, _⟩ | z
    · cases z
    · exact s.oim i c fs a z e2⟩
variable {env : W → Env} {envL : L → Env} {env' : W' → Env} {u ta tb : TS} {te : TE} {me : Tr D}
theorem ss_nx {w : W} (l : Le (env w) ε) : SS g E ε tNext env envL (.ok (.nx w)) := fun Mt U0 H0 U D σ H b s q => q U σ H Ev.refl (s.le l)
theorem ss_bk {w : L} (l : Le (envL w) ε) : SS g E ε (tSeq tBreak u) env envL (.ok (.bk w)) := fun Mt U0 H0 U D σ H b s q => q U σ H Ev.refl (s.le l)
theorem ss_ct {w : L} (l : Le (envL w) ε) : SS g E ε (tSeq tCont u) env envL (.ok (.ct w)) := fun Mt U0 H0 U D σ H b s q => q U σ H Ev.refl (s.le l)
theorem ss_asg {i : Nat} {k : D → Tr (Fl W L)} (he : SE g E ε te me) (hk : ∀ d, SS g E (ε.set i (.fz d)) u env envL (k d)) : SS g E ε (tSeq (tAsg te (gName i)) u) env envL (bd me k) := fun Mt U0 H0 U D σ H b s q =>
  he.sstep s q fun v d H1 b1 d1 s1 q1 => hk d Mt U0 H0 U D _ H1 b1 (s1.set i d1) q1
theorem ss_ret (he : SE g E ε te me) : SS g E ε (tSeq (tRet te) u) env envL (bd me fun d => .ok (.rt d)) := fun Mt U0 H0 U D σ H b s q =>
  he.sstep s q fun v d H1 b1 d1 s1 q1 => q1 v H1 (d1.sub fun a _ z => s1.sub a z) s1.wd s1.ext
theorem ss_retN : SS g E ε (tSeq tRetN u) env envL (.ok (.rt .non)) := fun Mt U0 H0 U D σ H b s q => q .non H .non s.wd s.ext
theorem ss_drop {k : Tr (Fl W L)} (he : SE g E ε te me) (hk : SS g E ε u env envL k) : SS g E ε (tSeq (tDrop te) u) env envL (bd me fun _ => k) := fun Mt U0 H0 U D σ H b s q =>
  he.sstep s q fun v d H1 b1 d1 s1 q1 => hk Mt U0 H0 U D σ H1 b1 s1 q1
theorem ss_never : SS g E ε (tSeq tNever u) env envL .bad := fun Mt U0 H0 U D σ H b s q => q.elim
theorem ss_pass {k : Tr (Fl W L)} (hk : SS g E ε u env envL k) : SS g E ε (tSeq tNext u) env envL k := fun Mt U0 H0 U D σ H b s q => hk Mt U0 H0 U D σ H b s q
/-- so many arguments -/
def ul0 {α : Type} (k : Tr α) (ds : List D) : Tr α := match ds with
  | [] => k
  | _ => .bad
def ul1 {α : Type} (k : D → Tr α) (ds : List D) : Tr α := match ds with
  | [x] => k x
  | _ => .bad
def ul2 {α : Type} (k : D → D → Tr α) (ds : List D) : Tr α := match ds with
  | [x, y] => k x y
  | _ => .bad
def ul3 {α : Type} (k : D → D → D → Tr α) (ds : List D) : Tr α := match ds with
  | [x, y, z] => k x y z
  | _ => .bad
def ul4 {α : Type} (k : D → D → D → D → Tr α) (ds : List D) : Tr α := match ds with
  | [x, y, z, w] => k x y z w
  | _ => .bad
def ul5 {α : Type} (k : D → D → D → D → D → Tr α) (ds : List D) : Tr α := match ds with
  | [x, y, z, w, v] => k x y z w v
  | _ => .bad
theorem ul0_eq {α : Type} (k : Tr α) : ul0 k [] = k := rfl
theorem ul1_eq {α : Type} (k : D → Tr α) (x : D) : ul1 k [x] = k x := rfl
theorem ul2_eq {α : Type} (k : D → D → Tr α) (x y : D) : ul2 k [x, y] = k x y := rfl
theorem ul3_eq {α : Type} (k : D → D → D → Tr α) (x y z : D) : ul3 k [x, y, z] = k x y z := rfl
theorem ul4_eq {α : Type} (k : D → D → D → D → Tr α) (x y z w : D) : ul4 k [x, y, z, w] = k x y z w := rfl
theorem ul5_eq {α : Type} (k : D → D → D → D → D → Tr α) (x y z w v : D) : ul5 k [x, y, z, w, v] = k x y z w v := rfl
section
variable {α : Type} {P : α → Nat → Prop} {X : Str → Fs → Nat → Prop} {ds : List D}
theorem al_ul0 {k : Tr α} (h : Al P X (ul0 k ds) b) : ds = [] ∧ Al P X k b := by
  unfold ul0 at h; split at h
  · exact ⟨rfl, h⟩
  · exact h.elim
theorem al_ul1 {k : D → Tr α} (h : Al P X (ul1 k ds) b) : ∃ x, ds = [x] ∧ Al P X (k x) b := by
  unfold ul1 at h; split at h
  · exact ⟨_, rfl, h⟩
  · exact h.elim
theorem al_ul2 {k : D → D → Tr α} (h : Al P X (ul2 k ds) b) : ∃ x y, ds = [x, y] ∧ Al P X (k x y) b := by
  unfold ul2 at h; split at h
  · exact ⟨_, _, rfl, h⟩
  · exact h.elim
theorem al_ul3 {k : D → D → D → Tr α} (h : Al P X (ul3 k ds) b) : ∃ x y z, ds = [x, y, z] ∧ Al P X (k x y z) b := by
  unfold ul3 at h; split at h
  · exact ⟨_, _, _, rfl, h⟩
  · exact h.elim
theorem al_ul4 {k : D → D → D → D → Tr α} (h : Al P X (ul4 k ds) b) : ∃ x y z w, ds = [x, y, z, w] ∧ Al P X (k x y z w) b := by
  unfold ul4 at h; split at h
  · exact ⟨_, _, _, _, rfl, h⟩
  · exact h.elim
theorem al_ul5 {k : D → D → D → D → D → Tr α} (h : Al P X (ul5 k ds) b) : ∃ x y z w v, ds = [x, y, z, w, v] ∧ Al P X (k x y z w v) b := by
  unfold ul5 at h; split at h
  · exact ⟨_, _, _, _, _, rfl, h⟩
  · exact h.elim
end
theorem denL_nil {vs : List V} (h : DenL g U H vs []) : vs = [] := by cases h; rfl
theorem denL_cons {vs : List V} {d : D} {ds : List D} (h : DenL g U H vs (d :: ds)) : ∃ v r, vs = v :: r ∧ Den g U H v d ∧ DenL g U H r ds := by
  cases h with
  | cons a r => exact ⟨_, _, rfl, a, r⟩
theorem denL_1 {vs : List V} {x : D} (h : DenL g U H vs [x]) : ∃ v, vs = [v] ∧ Den g U H v x := by
  obtain ⟨v, r, rfl, h1, h2⟩ := denL_cons h
  cases denL_nil h2
  exact ⟨v, rfl, h1⟩
theorem denL_2 {vs : List V} {x y : D} (h : DenL g U H vs [x, y]) : ∃ v w, vs = [v, w] ∧ Den g U H v x ∧ Den g U H w y := by
  obtain ⟨v, r, rfl, h1, h2⟩ := denL_cons h
  obtain ⟨w, rfl, h3⟩ := denL_1 h2
  exact ⟨v, w, rfl, h1, h3⟩
theorem denL_3 {vs : List V} {x y z : D} (h : DenL g U H vs [x, y, z]) : ∃ v w t, vs = [v, w, t] ∧ Den g U H v x ∧ Den g U H w y ∧ Den g U H t z := by
  obtain ⟨v, r, rfl, h1, h2⟩ := denL_cons h
  obtain ⟨w, t, rfl, h3, h4⟩ := denL_2 h2
  exact ⟨v, w, t, rfl, h1, h3, h4⟩
/-- two at once -/
theorem ss_par {i j : Nat} {t : TA} {m : Tr (List D)} {k : D → D → Tr (Fl W L)} (he : SA g E ε t m) (hk : ∀ x y, SS g E ((ε.set i (.fz x)).set j (.fz y)) u env envL (k x y)) :
    SS g E ε (tSeq (tPar i j t) u) env envL (bd m (ul2 k)) := fun Mt U0 H0 U D σ H b s q =>
  he.sstep s q fun v d H1 b1 d1 s1 q1 => by
    obtain ⟨x, y, rfl, q2⟩ := al_ul2 q1
    obtain ⟨v1, v2, rfl, e1, e2⟩ := denL_2 d1
    exact ⟨v1, v2, rfl, hk x y Mt U0 H0 U D _ H1 b1 ((s1.set i e1).set j e2) q2⟩
/-- what follows -/
def bdF (m : Tr (Fl W' L)) (k : W' → Tr (Fl W L)) : Tr (Fl W L) := bd m fun f => match f with
  | .nx w => k w
  | .rt d => .ok (.rt d)
  | .bk l => .ok (.bk l)
  | .ct l => .ok (.ct l)
theorem bdF_nx (w : W') (k : W' → Tr (Fl W L)) : bdF (.ok (.nx w)) k = k w := rfl
theorem bdF_rt (d : D) (k : W' → Tr (Fl W L)) : bdF (.ok (.rt d)) k = .ok (.rt d) := rfl
theorem bdF_bk (d : L) (k : W' → Tr (Fl W L)) : bdF (.ok (.bk d)) k = .ok (.bk d) := rfl
theorem bdF_ct (d : L) (k : W' → Tr (Fl W L)) : bdF (.ok (.ct d)) k = .ok (.ct d) := rfl
theorem bdF_ex (c : Str) (fs : Fs) (k : W' → Tr (Fl W L)) : bdF (.ex c fs) k = .ex c fs := rfl
theorem bdF_bad (k : W' → Tr (Fl W L)) : bdF .bad k = .bad := rfl
theorem bdF_ite (c : Prop) [Decidable c] (m n : Tr (Fl W' L)) (k : W' → Tr (Fl W L)) : bdF (if c then m else n) k = if c then bdF m k else bdF n k := by split <;> rfl
theorem bdF_bd {α : Type} (m : Tr α) (f : α → Tr (Fl W' L)) (k : W' → Tr (Fl W L)) : bdF (bd m f) k = bd m fun a => bdF (f a) k := bd_bd ..
theorem SS.seq {m : Tr (Fl W' L)} {k : W' → Tr (Fl W L)} (h1 : SS g E ε ta env' envL m) (h2 : ∀ w, SS g E (env' w) u env envL (k w)) : SS g E ε (tSeq ta u) env envL (bdF m k) := fun Mt U0 H0 U D σ H b s q => by
  refine h1 Mt U0 H0 U { D with nx := u D } σ H b s ((al_bd.mp q).mono (fun f b1 h => ?_) (fun _ _ _ h => h))
  cases f with
  | nx w => exact fun U1 σ1 H1 e1 s1 => h2 w Mt U0 H0 U1 D σ1 H1 b1 s1 (Al.mono (fun _ _ z => z.ev e1) (fun _ _ _ z => z) h)
  | rt d => exact h
  | bk l => exact h
  | ct l => exact h
theorem ss_if0 {c : TT} {mc : Tr Bool} {m n : Tr (Fl W' L)} (hc : ST g E ε c mc) (ha : SS g E ε ta env' envL m) (hb : SS g E ε tb env' envL n) : SS g E ε (tIfS c ta tb) env' envL (bd mc fun k => if k = true then m else n) := fun Mt U0 H0 U D σ H b s q =>
  hc.sstep s q fun k H1 b1 s1 q1 => by
    cases k with
    | true => exact ha Mt U0 H0 U D σ H1 b1 s1 q1
    | false => exact hb Mt U0 H0 U D σ H1 b1 s1 q1
theorem ss_if {c : TT} {mc : Tr Bool} {m n : Tr (Fl W' L)} {k : W' → Tr (Fl W L)} (env' : W' → Env) (hc : ST g E ε c mc) (ha : SS g E ε ta env' envL m) (hb : SS g E ε tb env' envL n) (hk : ∀ w, SS g E (env' w) u env envL (k w)) :
    SS g E ε (tSeq (tIfS c ta tb) u) env envL (bdF (bd mc fun k => if k = true then m else n) k) := (ss_if0 hc ha hb).seq hk
/-! ### targets -/
def SX (g : Gw) (E : XK) (ε : Env) (d : D) (gt : TG) (tb : TS) (env : W → Env) (envL : L → Env) (m : Tr (Fl W L)) : Prop := ∀ Mt U0 H0 U D σ H b v, Stt g Mt U0 H0 U σ H b ε → Den g U H v d → Al (flP g Mt U0 H0 U H D env envL) (exS g Mt U0 H0 E) m b → gt v σ H fun σ2 H2 => tb D σ2 H2
theorem sx_name {i : Nat} {d : D} {m : Tr (Fl W L)} (h : SS g E (ε.set i (.fz d)) tb env envL m) : SX g E ε d (gName i) tb env envL m := fun Mt U0 H0 U D σ H b v s dn q => h Mt U0 H0 U D _ H b (s.set i dn) q
/-- a tuple of so many -/
def un2 {α : Type} (d : D) (k : D → D → Tr α) : Tr α := match d with
  | .tup [x, y] => k x y
  | _ => .bad
def un3 {α : Type} (d : D) (k : D → D → D → Tr α) : Tr α := match d with
  | .tup [x, y, z] => k x y z
  | _ => .bad
theorem un2_eq {α : Type} (x y : D) (k : D → D → Tr α) : un2 (.tup [x, y]) k = k x y := rfl
theorem un3_eq {α : Type} (x y z : D) (k : D → D → D → Tr α) : un3 (.tup [x, y, z]) k = k x y z := rfl
theorem den_tup {v : V} {ds : List D} (h : Den g U H v (.tup ds)) : ∃ a vs, v = .ref a ∧ SqT g.K H a vs ∧ vs.length ≤ sizeLine ∧ DenL g U H vs ds := by
  cases h with
  | tup h n l k => exact ⟨_, _, rfl, SqT.of h, l, k⟩
  | tupW h l k => exact ⟨_, _, rfl, h H, l, k⟩
theorem al_un2 {α : Type} {P : α → Nat → Prop} {X : Str → Fs → Nat → Prop} {d : D} {k : D → D → Tr α} (h : Al P X (un2 d k) b) : ∃ x y, d = .tup [x, y] ∧ Al P X (k x y) b := by
  unfold un2 at h
  split at h
  · exact ⟨_, _, rfl, h⟩
  · exact h.elim
theorem al_un3 {α : Type} {P : α → Nat → Prop} {X : Str → Fs → Nat → Prop} {d : D} {k : D → D → D → Tr α} (h : Al P X (un3 d k) b) : ∃ x y z, d = .tup [x, y, z] ∧ Al P X (k x y z) b := by
  unfold un3 at h
  split at h
  · exact ⟨_, _, _, rfl, h⟩
  · exact h.elim
theorem sx_tup2 {i j : Nat} {d : D} {m : D → D → Tr (Fl W L)} (h : ∀ x y, SS g E ((ε.set i (.fz x)).set j (.fz y)) tb env envL (m x y)) : SX g E ε d (gTup g.K 2 (gCons (gName i) (gCons (gName j) gNil))) tb env envL (un2 d m) := fun Mt U0 H0 U D σ H b v s dn q => by
  obtain ⟨x, y, rfl, q1⟩ := al_un2 q
  obtain ⟨a, vs, rfl, sq, _, k⟩ := den_tup dn
  obtain ⟨v1, v2, rfl, e1, e2⟩ := denL_2 k
  exact ⟨a, [v1, v2], rfl, sq, rfl, v1, [v2], rfl, v2, [], rfl, rfl, h x y Mt U0 H0 U D _ H b ((s.set i e1).set j e2) q1⟩
theorem sx_tup3 {i j l : Nat} {d : D} {m : D → D → D → Tr (Fl W L)} (h : ∀ x y z, SS g E (((ε.set i (.fz x)).set j (.fz y)).set l (.fz z)) tb env envL (m x y z)) : SX g E ε d (gTup g.K 3 (gCons (gName i) (gCons (gName j) (gCons (gName l) gNil)))) tb env envL (un3 d m) := fun Mt U0 H0 U D σ H b v s dn q => by
  obtain ⟨x, y, z, rfl, q1⟩ := al_un3 q
  obtain ⟨a, vs, rfl, sq, _, k⟩ := den_tup dn
  obtain ⟨v1, v2, v3, rfl, e1, e2, e3⟩ := denL_3 k
  exact ⟨a, [v1, v2, v3], rfl, sq, rfl, v1, [v2, v3], rfl, v2, [v3], rfl, v3, [], rfl, rfl, h x y z Mt U0 H0 U D _ H b (((s.set i e1).set j e2).set l e3) q1⟩
/-- a, b = e -/
theorem ss_unp {gt : TG} {k : D → Tr (Fl W L)} (he : SE g E ε te me) (hk : ∀ d, SX g E ε d gt u env envL (k d)) : SS g E ε (tSeq (tAsg te gt) u) env envL (bd me k) := fun Mt U0 H0 U D σ H b s q =>
  he.sstep s q fun v d H1 b1 d1 s1 q1 => hk d Mt U0 H0 U D σ H1 b1 v s1 d1 q1
/-! ### walks -/
/-- J gives these things one by one -/
def ItD (g : Gw) (U : Addr → Prop) (H : Hp) (J : It) (ds : List D) : Prop := ∀ i U1 H1 b, Ev U H U1 H1 → Wd g H1 b → UOk g U1 H1 →
  (∀ d, ds[i]? = some d → J.go i H1 ∧ ∀ x H2, J.yld i H1 x H2 → Den g U1 H2 x d ∧ L2.Same H1 H2) ∧ (ds.length = i → J.stop i H1)
def okI (g : Gw) (U : Addr → Prop) (H : Hp) (R : It → Hp → Prop) : List D → Nat → Prop := fun ds b => ∀ J H', ds.length ≤ sizeLine → ItD g U H' J ds → Wd g H' b → Fr H H' g.p → R J H'
def SI (g : Gw) (E : XK) (ε : Env) (wi : TI) (m : Tr (List D)) : Prop := ∀ U σ H b R, Rel g U H σ ε → Wd g H b → UOk g U H → Al (okI g U H R) (exP g U E H) m b → wi σ H R
/-- for -/
def forF (f : D → W → Tr (Fl W W)) : List D → W → Tr (Fl W L)
  | [], w => .ok (.nx w)
  | x :: xs, w => bd (f x w) fun r => match r with
    | .nx w' => forF f xs w'
    | .ct w' => forF f xs w'
    | .bk w' => .ok (.nx w')
    | .rt d => .ok (.rt d)
theorem forF_nil (f : D → W → Tr (Fl W W)) (w : W) : forF (L := L) f [] w = .ok (.nx w) := rfl
theorem forF_cons (f : D → W → Tr (Fl W W)) (x : D) (xs : List D) (w : W) : forF (L := L) f (x :: xs) w = bd (f x w) fun r => match r with
    | .nx w' => forF f xs w'
    | .ct w' => forF f xs w'
    | .bk w' => .ok (.nx w')
    | .rt d => .ok (.rt d) := rfl
theorem ss_for0 {wi : TI} {gt : TG} {mi : Tr (List D)} {f : D → W → Tr (Fl W W)} {w0 : W} {tb : TS} (hi : SI g E ε wi mi) (l : Le (env w0) ε) (hb : ∀ d w, SX g E (env w) d gt tb env env (f d w)) : SS g E ε (tFor wi gt tb) env envL (bd mi fun ds => forF f ds w0) := fun Mt U0 H0 U D σ H b s q => by
  refine hi U σ H b _ s.rel s.wd s.uok ((al_bd.mp q).mono (fun ds b1 h1 J H1 hsz it w1 f1 => ?_) (fun _ _ _ h => exS.exP s h))
  refine ⟨fun i m σ' H' => ∃ b' w U', m = ds.length - i ∧ i ≤ ds.length ∧ Stt g Mt U0 H0 U' σ' H' b' (env w) ∧ Ev U H1 U' H' ∧ Al (flP g Mt U0 H0 U' H' D env envL) (exS g Mt U0 H0 E) (forF f (ds.drop i) w) b',
    ⟨ds.length, b1, w0, U, by simp, Nat.zero_le _, (s.fr f1 w1).le l, Ev.refl, Al.mono (fun _ _ z => z.ev (s.uok.ev f1)) (fun _ _ _ z => z) h1⟩, ?_⟩
  rintro i m σ' H' ⟨b', w, U', rfl, hle, s', e', q'⟩
  obtain ⟨it1, it2⟩ := it i U' H' b' e' s'.wd s'.uok
  by_cases hlt : i < ds.length
  · have ei : ds[i]? = some ds[i] := List.getElem?_eq_getElem hlt
    obtain ⟨go, y⟩ := it1 _ ei
    rw [List.drop_eq_getElem_cons hlt, forF_cons] at q'
    refine .inr ⟨go, fun σ2 H2 => ∃ b' w U2, Stt g Mt U0 H0 U2 σ2 H2 b' (env w) ∧ Ev U H1 U2 H2 ∧ Al (flP g Mt U0 H0 U2 H2 D env envL) (exS g Mt U0 H0 E) (forF f (ds.drop (i + 1)) w) b', ?_, ?_⟩
    · rintro σ2 H2 ⟨b2, w2, U2, s2, e2, q2⟩
      exact ⟨ds.length - (i + 1), by omega, b2, w2, U2, rfl, hlt, s2, e2, q2⟩
    · intro x H2 hy
      obtain ⟨dn, sm⟩ := y x H2 hy
      have s2 := s'.fr (fr_same sm) (s'.wd.same sm)
      have ev2 : Ev U' H' U' H2 := s'.uok.ev (fr_same sm)
      refine hb _ w Mt U0 H0 U' _ σ' H2 b' x s2 dn ((al_bd.mp q').mono (fun r b2 h2 => ?_) (fun _ _ _ z => z))
      cases r with
      | nx w' => exact fun U3 σ3 H3 e3 s3 => ⟨b2, w', U3, s3, e'.trans (ev2.trans e3), Al.mono (fun _ _ z => z.ev (ev2.trans e3)) (fun _ _ _ z => z) h2⟩
      | ct w' => exact fun U3 σ3 H3 e3 s3 => ⟨b2, w', U3, s3, e'.trans (ev2.trans e3), Al.mono (fun _ _ z => z.ev (ev2.trans e3)) (fun _ _ _ z => z) h2⟩
      | bk w' => exact fun U3 σ3 H3 e3 s3 => h2 U3 σ3 H3 (ev2.trans e3) s3
      | rt d => exact h2
  · have e : i = ds.length := by omega
    subst e
    rw [List.drop_length] at q'
    exact .inl ⟨it2 (rfl), q' U' σ' H' Ev.refl s'⟩
end
end Gp

set_option Elab.async false
set_option linter.all false
set_option maxRecDepth 100000
set_option maxHeartbeats 4000000
/-! Pc: walks, comprehensions, while, lists of one's own, defs and calls. -/
namespace Gp
open PySem PySem.Spec PyProof.Rows L2 Gh
section
variable {g : Gw} {Mt U0 U U' : Addr → Prop} {H0 H H' H1 H2 : Hp} {b b1 : Nat} {σ : L2.St} {ε ε' : Env} {E : XK} {W L W' : Type}
variable {env : W → Env} {envL : L → Env} {env' : W' → Env} {u ta tb : TS} {te : TE} {me : Tr D}
theorem ss_for {wi : TI} {gt : TG} {mi : Tr (List D)} {f : D → W' → Tr (Fl W' W')} {w0 : W'} {tb : TS} {k : W' → Tr (Fl W L)} (env' : W' → Env) (hi : SI g E ε wi mi) (l : Le (env' w0) ε) (hb : ∀ d w, SX g E (env' w) d gt tb env' env' (f d w)) (hk : ∀ w, SS g E (env' w) u env envL (k w)) :
    SS g E ε (tSeq (tFor wi gt tb) u) env envL (bdF (bd mi fun ds => forF f ds w0) k) := (ss_for0 hi l hb).seq hk
/-- while; n: at most so many turns -/
def whF (c : W → Tr Bool) (f : W → Tr (Fl W W)) : Nat → W → Tr (Fl W L)
  | 0, _ => .bad
  | n + 1, w => bd (c w) fun k => if k = true then bd (f w) fun r => match r with
    | .nx w' => whF c f n w'
    | .ct w' => whF c f n w'
    | .bk w' => .ok (.nx w')
    | .rt d => .ok (.rt d) else .ok (.nx w)
theorem whF_succ (c : W → Tr Bool) (f : W → Tr (Fl W W)) (n : Nat) (w : W) : whF (L := L) c f (n + 1) w = bd (c w) fun k => if k = true then bd (f w) fun r => match r with
    | .nx w' => whF c f n w'
    | .ct w' => whF c f n w'
    | .bk w' => .ok (.nx w')
    | .rt d => .ok (.rt d) else .ok (.nx w) := rfl
theorem ss_wh0 {c : TT} {mc : W → Tr Bool} {f : W → Tr (Fl W W)} {w0 : W} (n : Nat) (l : Le (env w0) ε) (hc : ∀ w, ST g E (env w) c (mc w)) (hb : ∀ w, SS g E (env w) tb env env (f w)) : SS g E ε (tWhile c tb) env envL (whF mc f n w0) := fun Mt U0 H0 U D σ H b s q => by
  refine ⟨fun m σ' H' => ∃ b' w U', Stt g Mt U0 H0 U' σ' H' b' (env w) ∧ Al (flP g Mt U0 H0 U' H' D env envL) (exS g Mt U0 H0 E) (whF mc f m w) b', ⟨n, b, w0, U, s.le l, q⟩, ?_⟩
  rintro m σ' H' ⟨b', w, U', s', q'⟩
  cases m with
  | zero => exact q'.elim
  | succ m =>
    rw [whF_succ] at q'
    refine (hc w).sstep s' q' fun k H1 b1 s1 q1 => ?_
    cases k with
    | false => exact q1 U' σ' H1 Ev.refl s1
    | true =>
      refine ⟨fun σ2 H2 => ∃ b' w U', Stt g Mt U0 H0 U' σ2 H2 b' (env w) ∧ Al (flP g Mt U0 H0 U' H2 D env envL) (exS g Mt U0 H0 E) (whF mc f m w) b', fun σ2 H2 h => ⟨m, Nat.lt_succ_self _, h⟩, ?_⟩
      refine hb w Mt U0 H0 U' _ σ' H1 b1 s1 ((al_bd.mp q1).mono (fun r b2 h2 => ?_) (fun _ _ _ z => z))
      cases r with
      | nx w' => exact fun U3 σ3 H3 e3 s3 => ⟨b2, w', U3, s3, Al.mono (fun _ _ z => z.ev e3) (fun _ _ _ z => z) h2⟩
      | ct w' => exact fun U3 σ3 H3 e3 s3 => ⟨b2, w', U3, s3, Al.mono (fun _ _ z => z.ev e3) (fun _ _ _ z => z) h2⟩
      | bk w' => exact fun U3 σ3 H3 e3 s3 => h2 U3 σ3 H3 e3 s3
      | rt d => exact h2
theorem ss_wh {c : TT} {mc : W' → Tr Bool} {f : W' → Tr (Fl W' W')} {w0 : W'} {k : W' → Tr (Fl W L)} (env' : W' → Env) (n : Nat) (l : Le (env' w0) ε) (hc : ∀ w, ST g E (env' w) c (mc w)) (hb : ∀ w, SS g E (env' w) tb env' env' (f w)) (hk : ∀ w, SS g E (env' w) u env envL (k w)) :
    SS g E ε (tSeq (tWhile c tb) u) env envL (bdF (whF mc f n w0) k) := (ss_wh0 n l hc hb).seq hk
/-! ### what is walked -/
def itD : D → Tr (List D)
  | .lst ds => .ok ds
  | .tup ds => .ok ds
  | .str x => .ok (x.cps.toList.map fun c => .str ⟨#[c]⟩)
  | _ => .bad
theorem itD_lst (ds : List D) : itD (.lst ds) = .ok ds := rfl
theorem itD_tup (ds : List D) : itD (.tup ds) = .ok ds := rfl
theorem itD_str (x : Str) : itD (.str x) = .ok (x.cps.toList.map fun c => .str ⟨#[c]⟩) := rfl
theorem den_lst {v : V} {ds : List D} (h : Den g U H v (.lst ds)) : ∃ a vs, v = .ref a ∧ H a = some (.lst vs) ∧ ¬ U a ∧ vs.length ≤ sizeLine ∧ DenL g U H vs ds := by
  cases h with
  | lst h n l k => exact ⟨_, _, rfl, h, n, l, k⟩
theorem den_str {v : V} {x : Str} (h : Den g U H v (.str x)) : v = .str x ∧ x.length ≤ sizeLine := by
  cases h with
  | str x h => exact ⟨rfl, h⟩
theorem den_int {v : V} {i : Int} (h : Den g U H v (.int i)) : v = .int i := by cases h; rfl
theorem sqT_inj {K : PySem.W.Frag} {a : Addr} {xs ys : List V} (h : SqT K H a xs) (h' : H a = some (.tup ys)) (hk : True) : True := trivial
theorem den1 {c : Nat} : Den g U H (.str ⟨#[c]⟩) (.str ⟨#[c]⟩) := .str _ (by show 1 ≤ sizeLine; decide)
theorem itd_lst {a : Addr} {vs : List V} {ds : List D} (h : H a = some (.lst vs)) (n : ¬ U a) (k : DenL g U H vs ds) : ItD g U H (Itl g.K a) ds := fun i U1 H1 b e w u => by
  have h1 : H1 a = some (.lst vs) := e.keep _ _ h n (fun _ z => by cases z)
  refine ⟨fun d hd => ?_, fun hl => ⟨vs, SqL.of h1, by rw [k.length]; exact Nat.le_of_eq hl⟩⟩
  obtain ⟨v, hv, dn⟩ := k.getD hd
  refine ⟨⟨vs, v, SqL.of h1, hv⟩, ?_⟩
  rintro x H2 ⟨rfl, hx⟩
  have e2 := hx vs (SqL.of h1)
  rw [hv] at e2
  cases e2
  exact ⟨dn.ev e, fun _ _ z => z⟩
theorem itd_tup {a : Addr} {vs : List V} {ds : List D} (h : ∀ U1 H1, Ev U H U1 H1 → SqT g.K H1 a vs) (k : DenL g U H vs ds) : ItD g U H (Itt g.K a) ds := fun i U1 H1 b e w u => by
  have h1 := h U1 H1 e
  refine ⟨fun d hd => ?_, fun hl => ⟨vs, h1, by rw [k.length]; exact Nat.le_of_eq hl⟩⟩
  obtain ⟨v, hv, dn⟩ := k.getD hd
  refine ⟨⟨vs, v, h1, hv⟩, ?_⟩
  rintro x H2 ⟨rfl, hx⟩
  have e2 := hx vs h1
  rw [hv] at e2
  cases e2
  exact ⟨dn.ev e, fun _ _ z => z⟩
theorem den_tupE {v : V} {ds : List D} (h : Den g U H v (.tup ds)) : ∃ a vs, v = .ref a ∧ (∀ U1 H1, Ev U H U1 H1 → SqT g.K H1 a vs) ∧ vs.length ≤ sizeLine ∧ DenL g U H vs ds := by
  cases h with
  | tup h n l k => exact ⟨_, _, rfl, fun U1 H1 e => SqT.of (e.keep _ _ h n (fun _ z => by cases z)), l, k⟩
  | tupW h l k => exact ⟨_, _, rfl, fun U1 H1 e => h H1, l, k⟩
theorem itd_str (x : Str) : ItD g U H (Its x) (x.cps.toList.map fun c => .str ⟨#[c]⟩) := fun i U1 H1 b e w u => by
  refine ⟨fun d hd => ?_, fun hl => by rw [List.length_map, Array.length_toList] at hl; exact Nat.le_of_eq hl⟩
  rw [List.getElem?_map] at hd
  cases q : x.cps.toList[i]? with
  | none => rw [q] at hd; cases hd
  | some c =>
    rw [q] at hd
    cases hd
    have hi : i < x.cps.size := by
      have := (List.getElem?_eq_some_iff.mp q).1
      rw [Array.length_toList] at this
      exact this
    refine ⟨hi, ?_⟩
    rintro y H2 ⟨rfl, c', hc, rfl⟩
    rw [Array.getElem?_toList] at q
    rw [q] at hc
    cases hc
    exact ⟨den1, fun _ _ z => z⟩
/-- a list, a tuple, a text -/
def iSeq (K : PySem.W.Frag) (te : TE) : TI := fun σ H R => te σ H fun x H1 => (∃ a, x = .ref a ∧ (∃ xs, SqL K H1 a xs) ∧ R (Itl K a) H1) ∨ (∃ a, x = .ref a ∧ (∃ xs, SqT K H1 a xs) ∧ R (Itt K a) H1) ∨ ∃ z, x = .str z ∧ R (Its z) H1
theorem pi_seq {X : Cx} {K : PySem.W.Frag} {tg e : Expr} {te : TE} (hK : X.K = K) (he : PE X e te) : PI X tg e (iSeq K te) := by
  subst hK
  refine ⟨fun pins s σ H R I h => ?_⟩
  refine thn (he.run pins s σ H _ I h) fun v s1 ⟨x, H1, I1, r1, q1⟩ => ?_
  rcases q1 with ⟨a, e, ⟨xs, hq⟩, q⟩ | ⟨a, e, ⟨xs, hq⟩, q⟩ | ⟨z, ex, q⟩
  · subst e
    cases r1
    obtain ⟨its, rv, p, hz⟩ := I1.list hq
    refine wpAny_pyIter_list p.isList ?_
    refine ⟨s1.heap.objs.size, [s1.heap.objs.size], _, _, H1, rfl, I1.kept (t' := s1.toks) fun b o e => Heap.get?_push_of_some _ e, turn_list a _, ⟨_, Heap.get?_push_size _ rfl, rfl, rfl⟩, fun b hb => ?_, q⟩
    have e : b = s1.heap.objs.size := by simpa using hb
    subst e
    exact I1.fpOk (Nat.le_refl _) (I1.hok.fresh (Nat.le_refl _))
  · subst e
    cases r1
    obtain ⟨its, rv, p, hz⟩ := I1.tuple hq
    refine wpAny_pyIter_tuple (show s1.heap.IsTuple a its.toArray from p) ?_
    refine ⟨s1.heap.objs.size, [s1.heap.objs.size], _, _, H1, rfl, I1.kept (t' := s1.toks) fun b o e => Heap.get?_push_of_some _ e, turn_tuple a _, ⟨_, Heap.get?_push_size _ rfl, rfl, rfl⟩, fun b hb => ?_, q⟩
    have e : b = s1.heap.objs.size := by simpa using hb
    subst e
    exact I1.fpOk (Nat.le_refl _) (I1.hok.fresh (Nat.le_refl _))
  · subst ex
    obtain ⟨t, rfl⟩ := r1
    cases ha : z.cps.all (· < 128)
    · exact wpAny_pyIter_wide ha (pi_one (tk := s1.toks) I1 _ (turn_str _ z t "str_iterator" (.inr rfl)) ⟨_, Heap.get?_push_size _ rfl, rfl, rfl⟩ q)
    · exact wpAny_pyIter_ascii ha (pi_one (tk := s1.toks) I1 _ (turn_str _ z t "str_ascii_iterator" (.inl rfl)) ⟨_, Heap.get?_push_size _ rfl, rfl, rfl⟩ q)
theorem si_seq (he : SE g E ε te me) : SI g E ε (iSeq g.K te) (bd me itD) := fun U σ H b R rl wd u q =>
  he.step rl wd u q fun v d H1 b1 d1 w1 f1 R1 u1 q1 => by
    cases d with
    | lst ds =>
      obtain ⟨a, vs, rfl, h, n, l, k⟩ := den_lst d1
      exact .inl ⟨a, rfl, ⟨vs, SqL.of h⟩, q1 _ H1 (by rw [← k.length]; exact l) (itd_lst h n k) w1 f1⟩
    | tup ds =>
      obtain ⟨a, vs, rfl, h, l, k⟩ := den_tupE d1
      exact .inr (.inl ⟨a, rfl, ⟨vs, h U H1 Ev.refl⟩, q1 _ H1 (by rw [← k.length]; exact l) (itd_tup h k) w1 f1⟩)
    | str x =>
      obtain ⟨rfl, l⟩ := den_str d1
      exact .inr (.inr ⟨x, rfl, q1 _ H1 (by rw [List.length_map, Array.length_toList]; exact l) (itd_str x) w1 f1⟩)
    | _ => exact q1.elim
/-- range -/
def rgD (lo : Int) (n : Nat) : List D := (List.range n).map fun i => .int (lo + (i : Nat))
theorem itd_rg (lo : Int) (n : Nat) : ItD g U H (Itr lo n) (rgD lo n) := fun i U1 H1 b e w u => by
  refine ⟨fun d hd => ?_, fun hl => by unfold rgD at hl; rw [List.length_map, List.length_range] at hl; exact Nat.le_of_eq hl⟩
  unfold rgD at hd
  rw [List.getElem?_map] at hd
  have hi : i < n := by
    cases q : (List.range n)[i]? with
    | none => rw [q] at hd; cases hd
    | some c =>
      have := (List.getElem?_eq_some_iff.mp q).1
      rwa [List.length_range] at this
  rw [List.getElem?_range hi] at hd
  cases hd
  refine ⟨hi, ?_⟩
  rintro y H2 ⟨rfl, rfl⟩
  exact ⟨.int _, fun _ _ z => z⟩
def rg1 (x : D) : Tr (List D) := match x with
  | .int j => if -(2 ^ 62) ≤ j ∧ j ≤ 16777216 then .ok (rgD 0 j.toNat) else .bad
  | _ => .bad
def rg2 (x y : D) : Tr (List D) := match x, y with
  | .int i, .int j => if -(2 ^ 62) ≤ i ∧ i < 2 ^ 62 ∧ -(2 ^ 62) ≤ j ∧ j < 2 ^ 62 ∧ j - i ≤ 16777216 then .ok (rgD i (j - i).toNat) else .bad
  | _, _ => .bad
theorem si_rg1 {t : TA} {m : Tr (List D)} (ha : SA g E ε t m) : SI g E ε (iRng1 t) (bd m (ul1 rg1)) := fun U σ H b R rl wd u q =>
  ha.step rl wd u q fun v d H1 b1 d1 w1 f1 R1 u1 q1 => by
    obtain ⟨x, rfl, q2⟩ := al_ul1 q1
    obtain ⟨v, rfl, e1⟩ := denL_1 d1
    cases x with
    | int j =>
      cases den_int e1
      unfold rg1 at q2
      dsimp only at q2
      split at q2
      · rename_i hj
        exact ⟨j, rfl, hj.1, by omega, q2 _ H1 (by unfold rgD; rw [List.length_map, List.length_range, sizeLine_eq]; omega) (itd_rg 0 _) w1 f1⟩
      · exact q2.elim
    | _ => exact q2.elim
theorem si_rg2 {t : TA} {m : Tr (List D)} (ha : SA g E ε t m) : SI g E ε (iRng2 t) (bd m (ul2 rg2)) := fun U σ H b R rl wd u q =>
  ha.step rl wd u q fun v d H1 b1 d1 w1 f1 R1 u1 q1 => by
    obtain ⟨x, y, rfl, q2⟩ := al_ul2 q1
    obtain ⟨v, w, rfl, e1, e2⟩ := denL_2 d1
    unfold rg2 at q2
    split at q2
    · rename_i i j
      cases den_int e1
      cases den_int e2
      split at q2
      · rename_i hj
        refine ⟨i, j, rfl, by omega, q2 _ H1 (by unfold rgD; rw [List.length_map, List.length_range, sizeLine_eq]; omega) (itd_rg i _) w1 f1⟩
      · exact q2.elim
    · exact q2.elim
/-! ### comprehensions -/
def lcF (f : D → Tr (Option D)) : List D → Tr (List D)
  | [] => .ok []
  | x :: xs => bd (f x) fun o => bd (lcF f xs) fun r => .ok (match o with | some y => y :: r | none => r)
theorem lcF_nil (f : D → Tr (Option D)) : lcF f [] = .ok [] := rfl
theorem lcF_cons (f : D → Tr (Option D)) (x : D) (xs : List D) : lcF f (x :: xs) = bd (f x) fun o => bd (lcF f xs) fun r => .ok (match o with | some y => y :: r | none => r) := rfl
def okO (g : Gw) (U : Addr → Prop) (H : Hp) (Q : Option V → Hp → Prop) : Option D → Nat → Prop
  | some y, b => ∀ w H', Den g U H' w y → Wd g H' b → Fr H H' g.p → Q (some w) H'
  | none, b => ∀ H', Wd g H' b → Fr H H' g.p → Q none H'
/-- a turn of a comprehension -/
def SC (g : Gw) (ε : Env) (d : D) (gt : TG) (tt : TT) (te : TE) (vs : List Nat) (m : Tr (Option D)) : Prop := ∀ U σ H b v (Q : Option V → Hp → Prop), Rel g U H σ ε → Wd g H b → UOk g U H → Den g U H v d → Al (okO g U H Q) (fun _ _ _ => False) m b →
  gt v (wipe σ vs) H fun σ2 H2 => wipe σ2 vs = wipe σ vs ∧ tt σ2 H2 fun k H3 => if k = true then te σ2 H3 (fun y H4 => Q (some y) H4) else Q none H3
theorem al_noX {α : Type} {P : α → Nat → Prop} {X : Str → Fs → Nat → Prop} {m : Tr α} (h : Al P X (nox m) b) : Al P (fun _ _ _ => False) m b := al_nox h
theorem se_lc {wi : TI} {gt : TG} {tt : TT} {vs : List Nat} {mi : Tr (List D)} {f : D → Tr (Option D)} (hi : SI g E ε wi mi) (hf : ∀ d, SC g ε d gt tt te vs (f d)) : SE g E ε (tLc wi gt tt te vs) (bd mi fun ds => bd (lcF (fun d => nox (f d)) ds) fun r => .ok (.lst r)) := fun U σ H b Q rl wd u q => by
  refine hi U σ H b _ rl wd u ((al_bd.mp q).mono (fun ds b1 h1 J H1 hsz it w1 f1 => ?_) (fun _ _ _ h => h))
  intro A nA
  have u1 := u.fr f1 w1
  have nUA : ¬ U A := u1.new nA
  have hp : A ≠ g.p := fun z => nUA (z ▸ u.p)
  have hc : A ≠ g.c := fun z => nUA (z ▸ u.c)
  have rl1 := (rl.fr u f1).grow nA
  generalize hV : (fun a => U a ∨ a = A) = V at rl1
  have VA : V A := by rw [← hV]; exact .inr rfl
  have VU : ∀ a, U a → V a := fun a z => by rw [← hV]; exact .inl z
  have VO : ∀ a o, H1 a = some o → ¬ U a → ¬ V a := fun a o e n => by
    rw [← hV]
    rintro (z | z)
    · exact n z
    · exact ne_of_none e nA z
  have uv : ∀ {H' : Hp} {b : Nat} {o : List L2.V}, Fr H1 H' g.p → Wd g H' b → H' A = some (.lst o) → UOk g V H' := fun f w h => ⟨VU _ u.p, VU _ u.c, fun a ha => by
    rw [← hV] at ha
    rcases ha with ha | rfl
    · exact (u1.fr f w).al a ha
    · exact ⟨_, h, fun _ z => by cases z⟩⟩
  refine ⟨fun i m H' => ∃ b' accV accD, m = ds.length - i ∧ i ≤ ds.length ∧ accV.length ≤ i ∧ H' A = some (.lst accV) ∧ DenL g V H' accV accD ∧ Wd g H' b' ∧ Fr H1 H' g.p ∧ Al (fun r b => okP g U H Q (.lst (accD ++ r)) b) (exP g U E H) (lcF (fun d => nox (f d)) (ds.drop i)) b', ?_, ?_⟩
  · refine ⟨ds.length, b1, [], [], by simp, Nat.zero_le _, Nat.zero_le _, upd_same, .nil, w1.same (same_new nA), fr_same (same_new nA), ?_⟩
    exact (al_bd.mp h1).mono (fun r b h => h) (fun _ _ _ h => h)
  · rintro i m H' ⟨b', accV, accD, rfl, hle, hla, hA, dA, w', f', q'⟩
    have u' := uv f' w' hA
    have ev' : Ev U H1 V H' := ⟨fun a o e n t => f' a o e (fun z => n (z ▸ u.p)) t, fun a o e n _ => VO a o e n⟩
    obtain ⟨it1, it2⟩ := it i V H' b' ev' w' u'
    by_cases hlt : i < ds.length
    · have ei : ds[i]? = some ds[i] := List.getElem?_eq_getElem hlt
      obtain ⟨go, y⟩ := it1 _ ei
      rw [List.drop_eq_getElem_cons hlt, lcF_cons] at q'
      refine .inr ⟨go, fun H' => ∃ b' accV accD, accV.length ≤ i + 1 ∧ H' A = some (.lst accV) ∧ DenL g V H' accV accD ∧ Wd g H' b' ∧ Fr H1 H' g.p ∧ Al (fun r b => okP g U H Q (.lst (accD ++ r)) b) (exP g U E H) (lcF (fun d => nox (f d)) (ds.drop (i + 1))) b', ?_, ?_⟩
      · rintro H2 ⟨b2, av, ad, h1, h2⟩
        exact ⟨ds.length - (i + 1), by omega, b2, av, ad, rfl, hlt, h1, h2⟩
      · intro x H2 hy
        obtain ⟨dn, sm⟩ := y x H2 hy
        have w2 := w'.same sm
        have f2 : Fr H1 H2 g.p := f'.trans (fr_same sm)
        have hA2 := sm _ _ hA
        refine hf ds[i] V σ H2 b' x (fun o H4 => match o with
          | some y => ∃ acc, H4 A = some (.lst acc) ∧ acc.length < sizeLine ∧ ∃ b' accV accD, accV.length ≤ i + 1 ∧ (upd H4 A (.lst (acc ++ [y]))) A = some (.lst accV) ∧ DenL g V (upd H4 A (.lst (acc ++ [y]))) accV accD ∧ Wd g (upd H4 A (.lst (acc ++ [y]))) b' ∧ Fr H1 (upd H4 A (.lst (acc ++ [y]))) g.p ∧ Al (fun r b => okP g U H Q (.lst (accD ++ r)) b) (exP g U E H) (lcF (fun d => nox (f d)) (ds.drop (i + 1))) b'
          | none => ∃ b' accV accD, accV.length ≤ i + 1 ∧ H4 A = some (.lst accV) ∧ DenL g V H4 accV accD ∧ Wd g H4 b' ∧ Fr H1 H4 g.p ∧ Al (fun r b => okP g U H Q (.lst (accD ++ r)) b) (exP g U E H) (lcF (fun d => nox (f d)) (ds.drop (i + 1))) b')
          (rl1.frp (VU _ u.p) f2) w2 (uv f2 w2 hA2) dn ((al_noX (al_bd.mp q')).mono (fun o b2 h2 => ?_) (fun _ _ _ z => z))
        have h3 := al_bd.mp h2
        cases o with
        | some y =>
          intro w H4 dw w4 f4
          have hA4 := f4 _ _ hA2 hp (fun _ z => by cases z)
          have e4 : ExtU V H4 (upd H4 A (.lst (accV ++ [w]))) := fun a o e n _ => by
            rw [upd_ne (fun z => n (by rw [z]; exact VA))]
            exact e
          have k4 : Keep H4 (upd H4 A (.lst (accV ++ [w]))) A := fun a o e n => by rw [upd_ne n]; exact e
          refine ⟨accV, hA4, Nat.lt_of_le_of_lt hla (Nat.lt_of_lt_of_le hlt hsz), b2, accV ++ [w], accD ++ [y], ?_, upd_same, ?_, ?_, ?_, ?_⟩
          · rw [List.length_append]
            exact Nat.add_le_add_right hla 1
          · exact DenL.append ((dA.ext (extU_of (VU _ u.p) ((fr_same sm).trans f4))).ext e4) (.cons (dw.ext e4) .nil)
          · exact ⟨w4.pen.keep k4 hp hc, tabs_keepL k4 hA4 w4.tabs⟩
          · intro a o e n t
            rw [upd_ne (ne_of_none e nA)]
            exact f4 _ _ (f2 a o e n t) n t
          · exact h3.mono (fun r b h => by
              have : okP g U H Q (.lst (accD ++ (y :: r))) b := h
              rw [List.append_cons] at this
              exact this) (fun _ _ _ z => z)
        | none =>
          intro H4 w4 f4
          exact ⟨b2, accV, accD, Nat.le_succ_of_le hla, f4 _ _ hA2 hp (fun _ z => by cases z), dA.ext (extU_of (VU _ u.p) ((fr_same sm).trans f4)), w4, f2.trans f4, h3.mono (fun r b h => h) (fun _ _ _ z => z)⟩
    · have e : i = ds.length := by omega
      subst e
      rw [List.drop_length, lcF_nil] at q'
      refine .inl ⟨it2 (rfl), ?_⟩
      have q2 : okP g U H Q (.lst (accD ++ [])) b' := q'
      rw [List.append_nil] at q2
      exact q2 _ H' (.lst hA nUA (Nat.le_trans hla hsz) (dA.sub fun a _ z => VU a z)) w' (f1.trans f')
end
end Gp

set_option Elab.async false
set_option linter.all false
set_option maxRecDepth 100000
set_option maxHeartbeats 4000000
/-! Pf: turns of comprehensions, lists of one's own, defs, calls, instances, errors. -/
namespace Gp
open PySem PySem.Spec PyProof.Rows L2 Gh
section
variable {g : Gw} {Mt U0 U U' : Addr → Prop} {H0 H H' H1 H2 : Hp} {b b1 : Nat} {σ : L2.St} {ε ε' : Env} {E : XK} {W L W' : Type}
variable {env : W → Env} {envL : L → Env} {env' : W' → Env} {u ta tb : TS} {te : TE} {me : Tr D}
abbrev EF : XK := fun _ _ _ => False
theorem exP.F {c : Str} {fs : Fs} (h : False) : exP g U EF H c fs b := h.elim
theorem sc_name {i : Nat} {d : D} {tt : TT} {mt : Tr Bool} (ht : ST g EF (ε.set i (.fz d)) tt mt) (he : SE g EF (ε.set i (.fz d)) te me) : SC g ε d (gName i) tt te [i] (bd mt fun k => if k = true then bd me fun y => .ok (some y) else .ok none) := fun U σ H b v Q rl wd u dn q => by
  have e1 : wipe σ [i] = σ.set i none := rfl
  rw [e1]
  show wipe ((σ.set i none).set i (some v)) [i] = _ ∧ _
  rw [List.set_set]
  refine ⟨?_, ?_⟩
  · show (σ.set i (some v)).set i none = _
    rw [List.set_set]
  · refine ht.step (rl.set i dn) wd u (q.mono (fun _ _ z => z) (fun _ _ _ z => exP.F z)) fun k H1 b1 w1 f1 R1 u1 q1 => ?_
    cases k with
    | true =>
      refine he.step R1 w1 u1 q1 fun y e H2 b2 d2 w2 f2 R2 u2 q2 => ?_
      exact q2 y H2 d2 w2 (f1.trans f2)
    | false => exact q1 H1 w1 f1
theorem sc_map {i : Nat} {d : D} (he : SE g EF (ε.set i (.fz d)) te me) : SC g ε d (gName i) tYes te [i] (bd me fun y => .ok (some y)) := fun U σ H b v Q rl wd u dn q => by
  have e1 : wipe σ [i] = σ.set i none := rfl
  rw [e1]
  show wipe ((σ.set i none).set i (some v)) [i] = _ ∧ _
  rw [List.set_set]
  refine ⟨?_, ?_⟩
  · show (σ.set i (some v)).set i none = _
    rw [List.set_set]
  · show te (σ.set i (some v)) H fun y H4 => Q (some y) H4
    refine he.step (rl.set i dn) wd u (q.mono (fun _ _ z => z) (fun _ _ _ z => exP.F z)) fun y e H2 b2 d2 w2 f2 R2 u2 q2 => ?_
    exact q2 y H2 d2 w2 f2
theorem wipe2 {i j : Nat} (n : i ≠ j) (v w : V) : wipe ((((σ.set j none).set i none).set i (some v)).set j (some w)) [i, j] = (σ.set j none).set i none := by
  show ((((((σ.set j none).set i none).set i (some v)).set j (some w)).set j none).set i none) = _
  rw [List.set_set, List.set_set, List.set_comm _ _ n, List.set_set, List.set_set]
theorem set2 {α : Type} {l : List α} {i j : Nat} (n : i ≠ j) (x y v w : α) : (((l.set j x).set i y).set i v).set j w = (l.set i v).set j w := by
  rw [List.set_set, List.set_comm _ _ n.symm, List.set_set]
theorem sc_tup2 {i j : Nat} {d : D} {tt : TT} {mt : D → D → Tr Bool} {me : D → D → Tr D} (n : i ≠ j) (ht : ∀ x y, ST g EF ((ε.set i (.fz x)).set j (.fz y)) tt (mt x y)) (he : ∀ x y, SE g EF ((ε.set i (.fz x)).set j (.fz y)) te (me x y)) :
    SC g ε d (gTup g.K 2 (gCons (gName i) (gCons (gName j) gNil))) tt te [i, j] (un2 d fun x y => bd (mt x y) fun k => if k = true then bd (me x y) fun y => .ok (some y) else .ok none) := fun U σ H b v Q rl wd u dn q => by
  obtain ⟨x, y, rfl, q1⟩ := al_un2 q
  obtain ⟨a, vs, rfl, sq, _, k⟩ := den_tup dn
  obtain ⟨v1, v2, rfl, e1, e2⟩ := denL_2 k
  refine ⟨a, [v1, v2], rfl, sq, rfl, v1, [v2], rfl, v2, [], rfl, rfl, ?_, ?_⟩
  · exact wipe2 n v1 v2
  · show tt ((((σ.set j none).set i none).set i (some v1)).set j (some v2)) H fun k H3 => if k = true then te ((((σ.set j none).set i none).set i (some v1)).set j (some v2)) H3 (fun y H4 => Q (some y) H4) else Q none H3
    rw [set2 n]
    refine (ht x y).step ((rl.set i e1).set j e2) wd u (q1.mono (fun _ _ z => z) (fun _ _ _ z => exP.F z)) fun k H1 b1 w1 f1 R1 u1 q1 => ?_
    cases k with
    | true =>
      refine (he x y).step R1 w1 u1 q1 fun y e H2 b2 d2 w2 f2 R2 u2 q2 => ?_
      exact q2 y H2 d2 w2 (f1.trans f2)
    | false => exact q1 H1 w1 f1
theorem sc_mapt2 {i j : Nat} {d : D} {me : D → D → Tr D} (n : i ≠ j) (he : ∀ x y, SE g EF ((ε.set i (.fz x)).set j (.fz y)) te (me x y)) :
    SC g ε d (gTup g.K 2 (gCons (gName i) (gCons (gName j) gNil))) tYes te [i, j] (un2 d fun x y => bd (me x y) fun y => .ok (some y)) := fun U σ H b v Q rl wd u dn q => by
  obtain ⟨x, y, rfl, q1⟩ := al_un2 q
  obtain ⟨a, vs, rfl, sq, _, k⟩ := den_tup dn
  obtain ⟨v1, v2, rfl, e1, e2⟩ := denL_2 k
  refine ⟨a, [v1, v2], rfl, sq, rfl, v1, [v2], rfl, v2, [], rfl, rfl, ?_, ?_⟩
  · exact wipe2 n v1 v2
  · show te ((((σ.set j none).set i none).set i (some v1)).set j (some v2)) H fun y H4 => Q (some y) H4
    rw [set2 n]
    refine (he x y).step ((rl.set i e1).set j e2) wd u (q1.mono (fun _ _ z => z) (fun _ _ _ z => exP.F z)) fun y e H2 b2 d2 w2 f2 R2 u2 q2 => ?_
    exact q2 y H2 d2 w2 f2
/-! ### a list of one's own -/
theorem Rel.grow' {A : Addr} (r : Rel g U H σ ε) (n : H A = none) : Rel g (fun a => U a ∨ a = A) H σ ε := r.grow n
theorem ownAt_setO {i j : Nat} {v : V} {ds : List D} {a : Addr} (h : OwnAt (σ.set i (some v)) (ε.set i (.ow ds)) j a) : (i = j ∧ v = .ref a) ∨ (i ≠ j ∧ OwnAt σ ε j a) := by
  obtain ⟨h1, h2⟩ := h
  by_cases e : i = j
  · subst e
    rw [List.getElem?_set_self'] at h1
    cases q : σ[i]? with
    | none => rw [q] at h1; cases h1
    | some z => rw [q] at h1; cases h1; exact .inl ⟨rfl, rfl⟩
  · rw [List.getElem?_set_ne e] at h1 h2
    exact .inr ⟨e, h1, h2⟩
/-- x = [..], x to be changed later: the list is new -/
theorem own_new {A : Addr} {vs : List V} {ds : List D} {i : Nat} (s : Stt g Mt U0 H0 U σ H b ε) (n : H A = none) (l : vs.length ≤ sizeLine) (dn : DenL g U H vs ds) (hA : A ≠ 0 ∨ True := .inr trivial) :
    Stt g Mt U0 H0 (fun a => U a ∨ a = A) (σ.set i (some (.ref A))) (upd H A (.lst vs)) b (ε.set i (.ow ds)) ∧ Ev U H (fun a => U a ∨ a = A) (upd H A (.lst vs)) := by
  have sm := same_new (o := .lst vs) n
  have nU : ¬ U A := s.uok.new n
  have hp : A ≠ g.p := fun z => nU (z ▸ s.uok.p)
  have hc : A ≠ g.c := fun z => nU (z ▸ s.uok.c)
  have r1 : Rel g (fun a => U a ∨ a = A) (upd H A (.lst vs)) σ ε := (s.rel.grow n).frp (.inl s.uok.p) (fr_same sm)
  have sig : ∀ j a, OwnAt σ ε j a → ∃ o, H a = some o := fun j a h => by
    obtain ⟨h1, ⟨ds, h2⟩ | ⟨c, fs, h2⟩⟩ := h
    · obtain ⟨o, e, a', vs, e2, h, _⟩ := s.rel.at_ j _ h2
      rw [h1] at e
      cases e
      cases e2
      exact ⟨_, h⟩
    · obtain ⟨o, e, a', dx, fvs, e2, h, _⟩ := s.rel.at_ j _ h2
      rw [h1] at e
      cases e
      cases e2
      exact ⟨_, h⟩
  refine ⟨⟨⟨by rw [List.length_set, List.length_set]; exact r1.len, fun j x e => ?_, fun j k a ne h1 h2 => ?_⟩, s.wd.same sm, ⟨.inl s.uok.p, .inl s.uok.c, fun a ha => ?_⟩, fun a z => .inl (s.sub a z), fun j a h => ?_, s.ext.trans (fr_same sm), fun j xs a e1 e2 => ?_, fun j c fs a e1 e2 => ?_⟩, fun a o e _ _ => sm a o e, fun a o e n1 _ => ?_⟩
  · by_cases q : i = j
    · subst q
      have hl : i < ε.length := by
        cases z : ε[i]? with
        | none => rw [List.getElem?_set_self', z] at e; cases e
        | some w => exact (List.getElem?_eq_some_iff.mp z).1
      rw [List.getElem?_set_self hl] at e
      cases e
      exact ⟨_, List.getElem?_set_self (by rw [r1.len]; exact hl), A, vs, rfl, upd_same, l, (dn.grow n).ext (fun a o e _ _ => sm a o e), .inr rfl, hp, hc⟩
    · rw [List.getElem?_set_ne q] at e ⊢
      exact r1.at_ j x e
  · rcases ownAt_setO h1 with ⟨rfl, z1⟩ | ⟨n1, z1⟩ <;> rcases ownAt_setO h2 with ⟨rfl, z2⟩ | ⟨n2, z2⟩
    · exact ne rfl
    · cases z1
      obtain ⟨o, e⟩ := sig _ _ z2
      rw [n] at e
      cases e
    · cases z2
      obtain ⟨o, e⟩ := sig _ _ z1
      rw [n] at e
      cases e
    · exact s.rel.apart j k a ne z1 z2
  · rcases ha with ha | rfl
    · obtain ⟨o, e, t⟩ := s.uok.al a ha
      exact ⟨o, sm a o e, t⟩
    · exact ⟨_, upd_same, fun _ z => by cases z⟩
  · rcases ownAt_setO h with ⟨rfl, z⟩ | ⟨_, z⟩
    · cases z
      by_cases m : Mt A
      · exact .inl m
      · refine .inr fun o q => ?_
        by_cases t : ∃ ps, o = .tbl ps
        · exact t
        · have := s.ext A o q hp m (fun ps z => t ⟨ps, z⟩)
          rw [n] at this
          cases this
    · exact s.own j a z
  · by_cases q : i = j
    · subst q
      rw [List.getElem?_set_self'] at e2
      cases z : σ[i]? with
      | none => rw [z] at e2; cases e2
      | some w =>
        rw [z] at e2
        cases e2
        exact fun h => nU (s.sub _ h)
    · rw [List.getElem?_set_ne q] at e1 e2
      exact s.nu0 j xs a e1 e2
  · by_cases q : i = j
    · subst q
      cases z : ε[i]? with
      | none => rw [List.getElem?_set_self', z] at e1; cases e1
      | some w => rw [List.getElem?_set_self', z] at e1; cases e1
    · rw [List.getElem?_set_ne q] at e1 e2
      exact s.oim j c fs a e1 e2
  · rintro (z | z)
    · exact n1 z
    · exact ne_of_none e n z
/-- a new list -/
def okN (g : Gw) (U : Addr → Prop) (H : Hp) (Q : VK) : List D → Nat → Prop := fun ds b => ∀ A vs H1, H1 A = none → vs.length ≤ sizeLine → DenL g U H1 vs ds → Wd g H1 b → Fr H H1 g.p → Q (.ref A) (upd H1 A (.lst vs))
def SN (g : Gw) (E : XK) (ε : Env) (t : TE) (m : Tr (List D)) : Prop := ∀ U σ H b Q, Rel g U H σ ε → Wd g H b → UOk g U H → Al (okN g U H Q) (exP g U E H) m b → t σ H Q
theorem sn_lst {t : TA} {m : Tr (List D)} (ha : SA g E ε t m) : SN g E ε (tLst t) (bd m fun ds => if ds.length ≤ sizeLine then .ok ds else .bad) := fun U σ H b Q R W u q =>
  ha.step R W u q fun v d H1 b1 d1 w1 f1 R1 u1 q1 => by
    by_cases hl : d.length ≤ sizeLine
    · rw [if_pos hl] at q1
      have hl' : v.length ≤ sizeLine := by rw [d1.length]; exact hl
      exact ⟨hl', fun p np => q1 p v H1 np hl' d1 w1 f1⟩
    · rw [if_neg hl] at q1
      exact q1.elim
theorem ss_own {i : Nat} {t : TE} {m : Tr (List D)} {k : List D → Tr (Fl W L)} (he : SN g E ε t m) (hk : ∀ ds, SS g E (ε.set i (.ow ds)) u env envL (k ds)) : SS g E ε (tSeq (tAsg t (gName i)) u) env envL (bd m k) := fun Mt U0 H0 U D σ H b s q =>
  he U σ H b _ s.rel s.wd s.uok ((al_bd.mp q).mono (fun ds b1 h1 A vs H1 n l dn w f => by
    obtain ⟨s1, e1⟩ := own_new (i := i) (s.fr f w) n l dn
    exact hk ds Mt U0 H0 _ D _ _ b1 s1 (h1.mono (fun _ _ z => z.ev ((s.uok.ev f).trans e1)) (fun _ _ _ z => z))) (fun _ _ _ h => exS.exP s h))
/-- the list at a slot is changed -/
theorem own_mut {vs' : List V} {ds ds' : List D} {i : Nat} (s : Stt g Mt U0 H0 U σ H b ε) (hi : ε[i]? = some (.ow ds)) : ∃ a vs, σ[i]? = some (some (.ref a)) ∧ H a = some (.lst vs) ∧ vs.length ≤ sizeLine ∧ DenL g U H vs ds ∧ U a ∧ a ≠ g.p ∧ a ≠ g.c ∧
    ∀ vs' ds', vs'.length ≤ sizeLine → DenL g U H vs' ds' → Stt g Mt U0 H0 U σ (upd H a (.lst vs')) b (ε.set i (.ow ds')) ∧ Ev U H U (upd H a (.lst vs')) := by
  obtain ⟨o, eo, a, vs, rfl, h, l, dn, ua, n1, n2⟩ := s.rel.at_ i _ hi
  refine ⟨a, vs, eo, h, l, dn, ua, n1, n2, fun vs' ds' l' dn' => ?_⟩
  have kp : Keep H (upd H a (.lst vs')) a := fun x o e ne => by rw [upd_ne ne]; exact e
  have xt : ExtU U H (upd H a (.lst vs')) := fun x o e ne _ => kp x o e (fun z => ne (z ▸ ua))
  have il : i < ε.length := (List.getElem?_eq_some_iff.mp hi).1
  have ow : ∀ j x, OwnAt σ (ε.set i (.ow ds')) j x → OwnAt σ ε j x := fun j x z => by
    obtain ⟨z1, z2⟩ := z
    by_cases q : i = j
    · subst q
      exact ⟨z1, .inl ⟨ds, hi⟩⟩
    · rw [List.getElem?_set_ne q] at z2
      exact ⟨z1, z2⟩
  have apart : ∀ j x, i ≠ j → OwnAt σ ε j x → x ≠ a := fun j x ne z e => by
    subst e
    exact s.rel.apart i j x ne ⟨eo, .inl ⟨ds, hi⟩⟩ z
  refine ⟨⟨⟨by rw [List.length_set]; exact s.rel.len, fun j x e => ?_, fun j k x ne z1 z2 => s.rel.apart j k x ne (ow _ _ z1) (ow _ _ z2)⟩, ⟨s.wd.pen.keep kp n1 n2, tabs_keepL kp h s.wd.tabs⟩, ⟨s.uok.p, s.uok.c, fun x hx => ?_⟩, s.sub, fun j x z => s.own j x (ow _ _ z), fun x o e m1 m2 m3 => ?_, fun j xs x e1 e2 => ?_, fun j c fs x e1 e2 => ?_⟩, xt, fun _ _ _ n _ => n⟩
  · by_cases q : i = j
    · subst q
      rw [List.getElem?_set_self il] at e
      cases e
      exact ⟨_, eo, a, vs', rfl, upd_same, l', dn'.ext xt, ua, n1, n2⟩
    · rw [List.getElem?_set_ne q] at e
      obtain ⟨o, e1, e2⟩ := s.rel.at_ j x e
      refine ⟨o, e1, ?_⟩
      cases x with
      | no => trivial
      | fz d =>
        obtain ⟨v, e3, e4⟩ := e2
        exact ⟨v, e3, e4.ext xt⟩
      | ow ds2 =>
        obtain ⟨a2, v2, rfl, h2, l2, d2, u2, m1, m2⟩ := e2
        have ne := apart j a2 q ⟨e1, .inl ⟨ds2, e⟩⟩
        exact ⟨a2, v2, rfl, kp _ _ h2 ne, l2, d2.ext xt, u2, m1, m2⟩
      | oi c fs =>
        obtain ⟨a2, dx, v2, rfl, h2, d2, u2, m1, m2⟩ := e2
        have ne := apart j a2 q ⟨e1, .inr ⟨c, fs, e⟩⟩
        exact ⟨a2, dx, v2, rfl, kp _ _ h2 ne, d2.ext xt, u2, m1, m2⟩
  · by_cases q : x = a
    · subst q
      exact ⟨_, upd_same, fun _ z => by cases z⟩
    · obtain ⟨o, e, t⟩ := s.uok.al x hx
      exact ⟨o, kp x o e q, t⟩
  · have q : x ≠ a := fun z => by
      subst z
      rcases s.own i x ⟨eo, .inl ⟨ds, hi⟩⟩ with w | w
      · exact m2 w
      · obtain ⟨ps, z⟩ := w o e
        exact m3 ps z
    exact kp x o (s.ext x o e m1 m2 m3) q
  · by_cases q : i = j
    · subst q
      exact s.nu0 i ds x hi e2
    · rw [List.getElem?_set_ne q] at e1
      exact s.nu0 j xs x e1 e2
  · by_cases q : i = j
    · subst q
      rw [List.getElem?_set_self il] at e1
      cases e1
    · rw [List.getElem?_set_ne q] at e1
      exact s.oim j c fs x e1 e2
theorem ss_app {i : Nat} {ds : List D} {k : D → Tr (Fl W L)} (he : SE g E ε te me) (hk : ∀ d, SS g E (ε.set i (.ow (ds ++ [d]))) u env envL (k d)) (hi : ε[i]? = some (.ow ds) := by rfl) :
    SS g E ε (tSeq (tDrop (tBM g.K "list" rAppend (tVar i) (tCons te tNil))) u) env envL (bd me fun d => if ds.length < sizeLine then k d else .bad) := fun Mt U0 H0 U D σ H b s q => by
  obtain ⟨a, vs, e1, h1, l1, d1, ua, n1, n2, _⟩ := own_mut (vs' := []) (ds' := []) s hi
  refine ⟨.ref a, e1, .inl ⟨rfl, vs, SqL.of h1⟩, ?_⟩
  refine he.sstep s q fun v d H1 b1 dv s1 q1 => ?_
  obtain ⟨a', vs', e2, h2, l2, d2, _, _, _, mt⟩ := own_mut (vs' := []) (ds' := []) s1 hi
  rw [e1] at e2
  cases e2
  by_cases hl : ds.length < sizeLine
  · rw [if_pos hl] at q1
    have hl2 : vs'.length < sizeLine := by rw [d2.length]; exact hl
    obtain ⟨s2, ev⟩ := mt (vs' ++ [v]) (ds ++ [d]) (by rw [List.length_append]; exact hl2) (d2.append (.cons dv .nil))
    exact ⟨a, vs', v, rfl, rfl, h2, hl2, hk d Mt U0 H0 U D σ _ b1 s2 (q1.mono (fun _ _ z => z.ev ev) (fun _ _ _ z => z))⟩
  · rw [if_neg hl] at q1
    exact q1.elim
/-- from now on it is not changed -/
theorem ss_fz {i : Nat} {ds : List D} {m : Tr (Fl W L)} (hi : ε[i]? = some (.ow ds)) (h : SS g E (ε.set i (.fz (.lst ds))) u env envL m) : SS g E ε u env envL m := fun Mt U0 H0 U D σ H b s q => by
  obtain ⟨a, vs, e1, h1, l1, d1, ua, n1, n2, _⟩ := own_mut (vs' := []) (ds' := []) s hi
  have il : i < ε.length := (List.getElem?_eq_some_iff.mp hi).1
  have sub : ∀ x, (∃ o, H x = some o) → (U x ∧ x ≠ a) → U x := fun x _ z => z.1
  have ow : ∀ j x, OwnAt σ (ε.set i (.fz (.lst ds))) j x → i ≠ j ∧ OwnAt σ ε j x := fun j x z => by
    obtain ⟨z1, z2⟩ := z
    by_cases q : i = j
    · subst q
      exfalso
      rcases z2 with ⟨y, z2⟩ | ⟨y1, y2, z2⟩
      · rw [List.getElem?_set_self il] at z2
        cases z2
      · rw [List.getElem?_set_self il] at z2
        cases z2
    · rw [List.getElem?_set_ne q] at z2
      exact ⟨q, z1, z2⟩
  have apart : ∀ j x, i ≠ j → OwnAt σ ε j x → x ≠ a := fun j x ne z e => by
    subst e
    exact s.rel.apart i j x ne ⟨e1, .inl ⟨ds, hi⟩⟩ z
  have ev : Ev U H (fun x => U x ∧ x ≠ a) H := ⟨fun _ _ e _ _ => e, fun _ _ _ n _ z => n z.1⟩
  refine h Mt U0 H0 (fun x => U x ∧ x ≠ a) D σ H b ⟨⟨by rw [List.length_set]; exact s.rel.len, fun j x e => ?_, fun j k x ne z1 z2 => s.rel.apart j k x ne (ow _ _ z1).2 (ow _ _ z2).2⟩, s.wd, ⟨⟨s.uok.p, n1.symm⟩, ⟨s.uok.c, n2.symm⟩, fun x hx => s.uok.al x hx.1⟩, fun x z => ⟨s.sub x z, fun e => s.nu0 i ds x hi (by rw [e1, e]) z⟩, fun j x z => s.own j x (ow _ _ z).2, s.ext, fun j xs x z1 z2 => ?_, fun j c fs x z1 z2 => ?_⟩ (q.mono (fun _ _ z => z.ev ev) (fun _ _ _ z => z))
  · by_cases q : i = j
    · subst q
      rw [List.getElem?_set_self il] at e
      cases e
      exact ⟨_, e1, _, rfl, .lst h1 (fun z => z.2 rfl) l1 (d1.sub sub)⟩
    · rw [List.getElem?_set_ne q] at e
      obtain ⟨o, e3, e2⟩ := s.rel.at_ j x e
      refine ⟨o, e3, ?_⟩
      cases x with
      | no => trivial
      | fz d =>
        obtain ⟨v, e4, e5⟩ := e2
        exact ⟨v, e4, e5.sub sub⟩
      | ow ds2 =>
        obtain ⟨a2, v2, rfl, h2, l2, d2, u2, m1, m2⟩ := e2
        have ne := apart j a2 q ⟨e3, .inl ⟨ds2, e⟩⟩
        exact ⟨a2, v2, rfl, h2, l2, d2.sub sub, ⟨u2, ne⟩, m1, m2⟩
      | oi c fs =>
        obtain ⟨a2, dx, v2, rfl, h2, d2, u2, m1, m2⟩ := e2
        have ne := apart j a2 q ⟨e3, .inr ⟨c, fs, e⟩⟩
        exact ⟨a2, dx, v2, rfl, h2, d2.sub sub, ⟨u2, ne⟩, m1, m2⟩
  · obtain ⟨q, _, z3⟩ := ow j x ⟨z2, .inl ⟨xs, z1⟩⟩
    rw [List.getElem?_set_ne q] at z1
    exact s.nu0 j xs x z1 z2
  · by_cases q : i = j
    · subst q
      rw [List.getElem?_set_self il] at z1
      cases z1
    · rw [List.getElem?_set_ne q] at z1
      exact s.oim j c fs x z1 z2
end
end Gp

set_option Elab.async false
set_option linter.all false
set_option maxRecDepth 100000
set_option maxHeartbeats 4000000
/-! Pg: defs and their promises, calls, instances made and read, errors raised. -/
namespace Gp
open PySem PySem.Spec PyProof.Rows L2 Gh
section
variable {g : Gw} {Mt U0 U U' : Addr → Prop} {H0 H H' H1 H2 : Hp} {b b1 : Nat} {σ : L2.St} {ε ε' : Env} {E : XK} {W L W' : Type}
variable {env : W → Env} {envL : L → Env} {env' : W' → Env} {u ta tb : TS} {te : TE} {me : Tr D}
/-- the promise of a def that is read as F -/
def spF (K : PySem.W.Frag) (T : List (Addr × Str)) (F : List D → Tr D) : Sp := fun vs H Q E => ∃ p c U ds b, DenL ⟨K, T, p, c⟩ U H vs ds ∧ Wd ⟨K, T, p, c⟩ H b ∧ UOk ⟨K, T, p, c⟩ U H ∧ Al (okP ⟨K, T, p, c⟩ U H Q) (exP ⟨K, T, p, c⟩ U E H) (F ds) b
/-- what a body gives -/
def fin (m : Tr (Fl Unit Empty)) : Tr D := bd m fun f => match f with
  | .nx _ => .ok .non
  | .rt d => .ok d
  | .bk e => nomatch e
  | .ct e => nomatch e
theorem fin_rt (d : D) : fin (.ok (.rt d)) = .ok d := rfl
theorem fin_nx (w : Unit) : fin (.ok (.nx w)) = .ok .non := rfl
theorem fin_ex (c : Str) (fs : Fs) : fin (.ex c fs) = .ex c fs := rfl
theorem fin_bad : fin .bad = .bad := rfl
theorem fin_ite (c : Prop) [Decidable c] (m n : Tr (Fl Unit Empty)) : fin (if c then m else n) = if c then fin m else fin n := by split <;> rfl
theorem fin_bd {α : Type} (m : Tr α) (k : α → Tr (Fl Unit Empty)) : fin (bd m k) = bd m fun a => fin (k a) := bd_bd ..
def envE : Empty → Env := fun e => nomatch e
theorem rel_start {N : List Str} {vs : List V} {ds : List D} (h : DenL g U H vs ds) : Rel g U H (L2.start N vs) (ds.map Sl.fz ++ List.replicate (N.length - ds.length) Sl.no) := by
  have no : ∀ i a, ¬ OwnAt (L2.start N vs) (ds.map Sl.fz ++ List.replicate (N.length - ds.length) Sl.no) i a := fun i a ⟨_, z⟩ => by
    have : ∀ s : Sl, (ds.map Sl.fz ++ List.replicate (N.length - ds.length) Sl.no)[i]? = some s → (∃ d, s = .fz d) ∨ s = .no := fun s e => by
      have m := List.mem_of_getElem? e
      rcases List.mem_append.mp m with m | m
      · obtain ⟨d, _, e⟩ := List.mem_map.mp m
        exact .inl ⟨d, e.symm⟩
      · exact .inr (List.mem_replicate.mp m).2
    rcases z with ⟨x, z⟩ | ⟨x, y, z⟩
    · rcases this _ z with ⟨d, e⟩ | e <;> cases e
    · rcases this _ z with ⟨d, e⟩ | e <;> cases e
  have hl := h.length
  refine ⟨?_, fun i s e => ?_, fun i j a _ h1 _ => (no i a h1).elim⟩
  · unfold L2.start
    simp only [List.length_append, List.length_map, List.length_replicate, hl]
  · unfold L2.start
    by_cases q : i < ds.length
    · rw [List.getElem?_append_left (by rw [List.length_map]; exact q), List.getElem?_map] at e
      rw [List.getElem?_append_left (by rw [List.length_map, hl]; exact q), List.getElem?_map]
      cases z : ds[i]? with
      | none => rw [z] at e; cases e
      | some d =>
        rw [z] at e
        cases e
        obtain ⟨v, hv, dn⟩ := h.getD z
        rw [hv]
        exact ⟨some v, rfl, v, rfl, dn⟩
    · rw [List.getElem?_append_right (by rw [List.length_map]; omega), List.length_map] at e
      rw [List.getElem?_append_right (by rw [List.length_map, hl]; omega), List.length_map, hl]
      have m := List.mem_of_getElem? e
      obtain ⟨n0, rfl⟩ := List.mem_replicate.mp m
      have i1 := (List.getElem?_eq_some_iff.mp e).1
      rw [List.length_replicate] at i1
      exact ⟨none, by rw [List.getElem?_replicate, if_pos i1], trivial⟩
theorem fn_of {K : PySem.W.Frag} {T : List (Addr × Str)} {N : List Str} {F : List D → Tr D} {vs : List V} {Q : VK} {t : TS} {envU : Unit → Env} (h : spF K T F vs H Q E)
    (hs : ∀ p c ds, (∃ (P : D → Nat → Prop) (X : Str → Fs → Nat → Prop) (b : Nat), Al P X (F ds) b) → ∃ m, F ds = fin m ∧ SS ⟨K, T, p, c⟩ E (ds.map Sl.fz ++ List.replicate (N.length - ds.length) Sl.no) t envU envE m) : t { nx := fun _ H' => Q .non H', rt := Q } (L2.start N vs) H := by
  obtain ⟨p, c, U, ds, b, dn, wd, u, al⟩ := h
  obtain ⟨m, e, ss⟩ := hs p c ds ⟨_, _, _, al⟩
  rw [e] at al
  have nn : ∀ i a, ¬ OwnAt (L2.start N vs) (ds.map Sl.fz ++ List.replicate (N.length - ds.length) Sl.no) i a := fun i a ⟨_, z⟩ => by
    have : ∀ s : Sl, (ds.map Sl.fz ++ List.replicate (N.length - ds.length) Sl.no)[i]? = some s → (∃ d, s = .fz d) ∨ s = .no := fun s e => by
      have m := List.mem_of_getElem? e
      rcases List.mem_append.mp m with m | m
      · obtain ⟨d, _, e⟩ := List.mem_map.mp m
        exact .inl ⟨d, e.symm⟩
      · exact .inr (List.mem_replicate.mp m).2
    rcases z with ⟨x, z⟩ | ⟨x, y, z⟩
    · rcases this _ z with ⟨d, e⟩ | e <;> cases e
    · rcases this _ z with ⟨d, e⟩ | e <;> cases e
  refine ss (fun _ => False) U H U _ _ H b ⟨rel_start dn, wd, u, fun _ z => z, fun i a z => (nn i a z).elim, fun _ _ z _ _ _ => z, fun i ds' a z1 z2 => (nn i a ⟨z2, .inl ⟨ds', z1⟩⟩).elim, fun i c fs a z1 z2 => (nn i a ⟨z2, .inr ⟨c, fs, z1⟩⟩).elim⟩ ((al_bd.mp al).mono (fun f b1 h1 => ?_) (fun c fs b1 h1 => ?_))
  · cases f with
    | nx w => exact fun U' σ' H' e s => h1 .non H' .non s.wd fun a o z1 z2 z3 => s.ext a o z1 z2 (fun z => z) z3
    | rt d => exact fun v H' dn w f => h1 v H' dn w fun a o z1 z2 z3 => f a o z1 z2 (fun z => z) z3
    | bk e => exact nomatch e
    | ct e => exact nomatch e
  · exact fun dd fvs H' z1 z2 z3 z4 z5 => h1 dd fvs H' z1 z2 z3 z4 fun a o y1 y2 y3 => z5 a o y1 y2 (fun z => z) y3
theorem le_no : ∀ (ε : Env) {n : Nat}, ε.length = n → Le (List.replicate n Sl.no) ε
  | [], _, rfl => .nil
  | x :: r, _, rfl => by
    show Le (List.replicate (r.length + 1) Sl.no) (x :: r)
    rw [List.replicate_succ]
    exact .n (le_no r rfl)
theorem fn_of0 {K : PySem.W.Frag} {T : List (Addr × Str)} {N : List Str} {F : Tr D} {vs : List V} {Q : VK} {t : TS} {envU : Unit → Env} {m : Tr (Fl Unit Empty)} (h : spF K T (ul0 F) vs H Q E) (hF : F = fin m) (hs : ∀ p c, SS ⟨K, T, p, c⟩ E (([] : List D).map Sl.fz ++ List.replicate (N.length - 0) Sl.no) t envU envE m) : t { nx := fun _ H' => Q .non H', rt := Q } (L2.start N vs) H :=
  fn_of h fun p c ds ⟨_, _, _, al⟩ => by
    obtain ⟨rfl, _⟩ := al_ul0 al
    exact ⟨m, hF, hs p c⟩
theorem fn_of1 {K : PySem.W.Frag} {T : List (Addr × Str)} {N : List Str} {F : D → Tr D} {vs : List V} {Q : VK} {t : TS} {envU : Unit → Env} {m : D → Tr (Fl Unit Empty)} (h : spF K T (ul1 F) vs H Q E) (hF : ∀ x, F x = fin (m x)) (hs : ∀ p c x, SS ⟨K, T, p, c⟩ E ([x].map Sl.fz ++ List.replicate (N.length - 1) Sl.no) t envU envE (m x)) : t { nx := fun _ H' => Q .non H', rt := Q } (L2.start N vs) H :=
  fn_of h fun p c ds ⟨_, _, _, al⟩ => by
    obtain ⟨x, rfl, _⟩ := al_ul1 al
    exact ⟨m x, hF x, hs p c x⟩
theorem fn_of2 {K : PySem.W.Frag} {T : List (Addr × Str)} {N : List Str} {F : D → D → Tr D} {vs : List V} {Q : VK} {t : TS} {envU : Unit → Env} {m : D → D → Tr (Fl Unit Empty)} (h : spF K T (ul2 F) vs H Q E) (hF : ∀ x y, F x y = fin (m x y)) (hs : ∀ p c x y, SS ⟨K, T, p, c⟩ E ([x, y].map Sl.fz ++ List.replicate (N.length - 2) Sl.no) t envU envE (m x y)) : t { nx := fun _ H' => Q .non H', rt := Q } (L2.start N vs) H :=
  fn_of h fun p c ds ⟨_, _, _, al⟩ => by
    obtain ⟨x, y, rfl, _⟩ := al_ul2 al
    exact ⟨m x y, hF x y, hs p c x y⟩
theorem fn_of3 {K : PySem.W.Frag} {T : List (Addr × Str)} {N : List Str} {F : D → D → D → Tr D} {vs : List V} {Q : VK} {t : TS} {envU : Unit → Env} {m : D → D → D → Tr (Fl Unit Empty)} (h : spF K T (ul3 F) vs H Q E) (hF : ∀ x y z, F x y z = fin (m x y z)) (hs : ∀ p c x y z, SS ⟨K, T, p, c⟩ E ([x, y, z].map Sl.fz ++ List.replicate (N.length - 3) Sl.no) t envU envE (m x y z)) : t { nx := fun _ H' => Q .non H', rt := Q } (L2.start N vs) H :=
  fn_of h fun p c ds ⟨_, _, _, al⟩ => by
    obtain ⟨x, y, z, rfl, _⟩ := al_ul3 al
    exact ⟨m x y z, hF x y z, hs p c x y z⟩
theorem fn_of4 {K : PySem.W.Frag} {T : List (Addr × Str)} {N : List Str} {F : D → D → D → D → Tr D} {vs : List V} {Q : VK} {t : TS} {envU : Unit → Env} {m : D → D → D → D → Tr (Fl Unit Empty)} (h : spF K T (ul4 F) vs H Q E) (hF : ∀ x y z w, F x y z w = fin (m x y z w)) (hs : ∀ p c x y z w, SS ⟨K, T, p, c⟩ E ([x, y, z, w].map Sl.fz ++ List.replicate (N.length - 4) Sl.no) t envU envE (m x y z w)) : t { nx := fun _ H' => Q .non H', rt := Q } (L2.start N vs) H :=
  fn_of h fun p c ds ⟨_, _, _, al⟩ => by
    obtain ⟨x, y, z, w, rfl, _⟩ := al_ul4 al
    exact ⟨m x y z w, hF x y z w, hs p c x y z w⟩
theorem fn_of5 {K : PySem.W.Frag} {T : List (Addr × Str)} {N : List Str} {F : D → D → D → D → D → Tr D} {vs : List V} {Q : VK} {t : TS} {envU : Unit → Env} {m : D → D → D → D → D → Tr (Fl Unit Empty)} (h : spF K T (ul5 F) vs H Q E) (hF : ∀ x y z w v, F x y z w v = fin (m x y z w v)) (hs : ∀ p c x y z w v, SS ⟨K, T, p, c⟩ E ([x, y, z, w, v].map Sl.fz ++ List.replicate (N.length - 5) Sl.no) t envU envE (m x y z w v)) : t { nx := fun _ H' => Q .non H', rt := Q } (L2.start N vs) H :=
  fn_of h fun p c ds ⟨_, _, _, al⟩ => by
    obtain ⟨x, y, z, w, v, rfl, _⟩ := al_ul5 al
    exact ⟨m x y z w v, hF x y z w v, hs p c x y z w v⟩
/-- so many parameters -/
theorem spF_len {K : PySem.W.Frag} {T : List (Addr × Str)} {F : List D → Tr D} {n : Nat} (hn : ∀ (P : D → Nat → Prop) (X : Str → Fs → Nat → Prop) ds b, Al P X (F ds) b → ds.length = n) {vs : List V} {Q : VK} (h : spF K T F vs H Q E) : vs.length = n := by
  obtain ⟨p, c, U, ds, b, dn, wd, u, al⟩ := h
  rw [dn.length]
  exact hn _ _ _ _ al
theorem len0 {F : Tr D} (P : D → Nat → Prop) (X : Str → Fs → Nat → Prop) (ds : List D) (b : Nat) (h : Al P X (ul0 F ds) b) : ds.length = 0 := by obtain ⟨rfl, _⟩ := al_ul0 h; rfl
theorem len1 {F : D → Tr D} (P : D → Nat → Prop) (X : Str → Fs → Nat → Prop) (ds : List D) (b : Nat) (h : Al P X (ul1 F ds) b) : ds.length = 1 := by obtain ⟨_, rfl, _⟩ := al_ul1 h; rfl
theorem len2 {F : D → D → Tr D} (P : D → Nat → Prop) (X : Str → Fs → Nat → Prop) (ds : List D) (b : Nat) (h : Al P X (ul2 F ds) b) : ds.length = 2 := by obtain ⟨_, _, rfl, _⟩ := al_ul2 h; rfl
theorem len3 {F : D → D → D → Tr D} (P : D → Nat → Prop) (X : Str → Fs → Nat → Prop) (ds : List D) (b : Nat) (h : Al P X (ul3 F ds) b) : ds.length = 3 := by obtain ⟨_, _, _, rfl, _⟩ := al_ul3 h; rfl
theorem len4 {F : D → D → D → D → Tr D} (P : D → Nat → Prop) (X : Str → Fs → Nat → Prop) (ds : List D) (b : Nat) (h : Al P X (ul4 F ds) b) : ds.length = 4 := by obtain ⟨_, _, _, _, rfl, _⟩ := al_ul4 h; rfl
theorem len5 {F : D → D → D → D → D → Tr D} (P : D → Nat → Prop) (X : Str → Fs → Nat → Prop) (ds : List D) (b : Nat) (h : Al P X (ul5 F ds) b) : ds.length = 5 := by obtain ⟨_, _, _, _, _, rfl, _⟩ := al_ul5 h; rfl
/-! ### calls -/
theorem srl_sp {F : List D → Tr D} {dvs : List V} {dds : List D} (hd : ∀ U H, DenL g U H dvs dds) : SRL g E (rSp (spF g.K g.T F) dvs E) (fun ds => F (ds ++ dds)) := fun U H b xs dxs Q dn wd u q =>
  ⟨g.p, g.c, U, _, b, dn.append (hd U H), wd, u, q⟩
theorem srl_sp0 {F : List D → Tr D} : SRL g E (rSp (spF g.K g.T F) [] E) F := fun U H b xs dxs Q dn wd u q =>
  ⟨g.p, g.c, U, dxs, b, by rw [List.append_nil]; exact dn, wd, u, q⟩
/-- an instance of a class -/
def isO {α : Type} (c : Str) (o : D) (k : Fs → Tr α) : Tr α := match o with
  | .obj c' fs => if c' = c then k fs else .bad
  | _ => .bad
theorem al_isO {α : Type} {P : α → Nat → Prop} {X : Str → Fs → Nat → Prop} {c : Str} {o : D} {k : Fs → Tr α} (h : Al P X (isO c o k) b) : ∃ fs, o = .obj c fs ∧ Al P X (k fs) b := by
  unfold isO at h
  split at h
  · split at h
    · rename_i e
      subst e
      exact ⟨_, rfl, h⟩
    · exact h.elim
  · exact h.elim
theorem isO_eq {α : Type} (c : Str) (fs : Fs) (k : Fs → Tr α) : isO c (.obj c fs) k = k fs := by
  show (if c = c then _ else _) = _
  rw [if_pos rfl]
theorem den_obj {v : V} {c : Str} {fs : Fs} (h : Den g U H v (.obj c fs)) : ∃ a dx fvs, v = .ref a ∧ H a = some (.ins (gd c g.K) dx fvs) ∧ ¬ U a ∧ DenF g U H fvs fs := by
  cases h with
  | obj h n k => exact ⟨_, _, _, rfl, h, n, k⟩
/-- o.m(..) -/
def mtD (c m : Str) (o : D) (k : Tr D) : Tr D := isO c o fun fs => if fs.lookup m = none then k else .bad
theorem se_mt {c m : Str} {r : List V → Hp → VK → Prop} {f : List D → Tr D} {ta : TE} {ma : Tr D} {t : TA} {mt : Tr (List D)} (hr : SRL g E r f) (ha : SE g E ε ta ma) (ht : SA g E ε t mt) :
    SE g E ε (tMt (gd c g.K) m r ta t) (bd ma fun o => isO c o fun fs => if fs.lookup m = none then bd mt fun ds => f (o :: ds) else .bad) := fun U σ H b Q R W u q =>
  ha.step R W u q fun v d H1 b1 d1 w1 f1 R1 u1 q1 => by
    obtain ⟨fs, rfl, q2⟩ := al_isO q1
    obtain ⟨a, dx, fvs, rfl, ea, na, df⟩ := den_obj d1
    by_cases hl : fs.lookup m = none
    · rw [if_pos hl] at q2
      refine ⟨a, dx, fvs, rfl, ea, df.look0 hl, ?_⟩
      refine ht.step R1 w1 u1 q2 fun vs ds H2 b2 d2 w2 f2 R2 u2 q3 => ?_
      exact hr U H2 b2 _ _ Q (.cons (d1.fr u1 f2) d2) w2 u2 (q3.mono (fun _ _ h => h.fr (f1.trans f2)) (fun _ _ _ h => h))
    · rw [if_neg hl] at q2
      exact q2.elim
/-- o.f, a property -/
theorem se_pr {c : Str} {F : List D → Tr D} {ta : TE} {ma : Tr D} (ha : SE g EF ε ta ma) : SE g EF ε (tPr (gd c g.K) (spF g.K g.T F) [] EF ta) (bd ma fun o => isO c o fun _ => F [o]) := fun U σ H b Q R W u q =>
  ha.step R W u q fun v d H1 b1 d1 w1 f1 R1 u1 q1 => by
    obtain ⟨fs, rfl, q2⟩ := al_isO q1
    obtain ⟨a, dx, fvs, rfl, ea, na, df⟩ := den_obj d1
    exact ⟨a, dx, fvs, rfl, ea, g.p, g.c, U, [.obj c fs], b1, .cons d1 .nil, w1, u1, q2.mono (fun _ _ h => h.fr f1) (fun _ _ _ h => h)⟩
/-- o.f -/
def fldD (c f : Str) (o : D) : Tr D := isO c o fun fs => match fs.lookup f with
  | some d => .ok d
  | none => .bad
theorem sr_fld {c f : Str} : SR1 g E (rFld (gd c g.K) f) (fldD c f) := fun U H b x dx Q dn wd u q => by
  obtain ⟨fs, rfl, q2⟩ := al_isO q
  obtain ⟨a, dx, fvs, rfl, ea, na, df⟩ := den_obj dn
  cases e : fs.lookup f with
  | none => rw [e] at q2; exact q2.elim
  | some d =>
    rw [e] at q2
    obtain ⟨v, hv, d1⟩ := df.look e
    exact st_fld ea hv (okP.here q2 wd d1)
/-- a class's constant -/
def conD (c f : Str) (v : D) (o : D) : Tr D := isO c o fun fs => if fs.lookup f = none then .ok v else .bad
theorem sr_con {c f : Str} {v : V} {d : D} (hv : ∀ U H, Den g U H v d) : SR1 g E (rConst (gd c g.K) f v) (conD c f d) := fun U H b x dx Q dn wd u q => by
  obtain ⟨fs, rfl, q2⟩ := al_isO q
  obtain ⟨a, dx, fvs, rfl, ea, na, df⟩ := den_obj dn
  by_cases hl : fs.lookup f = none
  · rw [if_pos hl] at q2
    exact st_const ea (df.look0 hl) (okP.here q2 wd (hv U H))
  · rw [if_neg hl] at q2
    exact q2.elim
/-! ### instances made -/
/-- the promise of an __init__: the fields that it leaves -/
def spI (K : PySem.W.Frag) (T : List (Addr × Str)) (cn : Str) (F : Fs → List D → Tr Fs) : Sp := fun vs H Q E => ∃ p c U ds b x dx fvs fs rest, vs = .ref x :: rest ∧ H x = some (.ins (gd cn K) dx fvs) ∧ DenF ⟨K, T, p, c⟩ U H fvs fs ∧ U x ∧ x ≠ p ∧ x ≠ c ∧ DenL ⟨K, T, p, c⟩ U H rest ds ∧
  Wd ⟨K, T, p, c⟩ H b ∧ UOk ⟨K, T, p, c⟩ U H ∧ Al (fun fs' b' => ∀ dx' fvs' H', H' x = some (.ins (gd cn K) dx' fvs') → DenF ⟨K, T, p, c⟩ U H' fvs' fs' → Wd ⟨K, T, p, c⟩ H' b' → FrM ⟨K, T, p, c⟩ (· = x) H H' → Q .non H')
    (fun cn fs b => ∀ dd fvs H', H' dd = some (.xd fvs) → ¬ U dd → DenF ⟨K, T, p, c⟩ U H' fvs fs → Wd ⟨K, T, p, c⟩ H' b → FrM ⟨K, T, p, c⟩ (· = x) H H' → E (.ref (gd cn K)) (some dd) H') (F fs ds) b
theorem srl_mk {cn : Str} {F : Fs → List D → Tr Fs} {dvs : List V} {dds : List D} (hd : ∀ U H, DenL g U H dvs dds) : SRL g E (rMk (gd cn g.K) (spI g.K g.T cn F) dvs E) (fun ds => bd (F [] (ds ++ dds)) fun fs => .ok (.obj cn fs)) := fun U H b xs dxs Q dn wd u q => by
  unfold rMk
  intro x dx nx ndx ne
  have s1 : L2.Same H (upd (upd H dx (.own x)) x (.ins (gd cn g.K) dx [])) := fun a o e => by
    rw [upd_ne (ne_of_none e nx), upd_ne (ne_of_none e ndx)]
    exact e
  have nU : ¬ U x := u.new nx
  have hp : x ≠ g.p := fun z => nU (z ▸ u.p)
  have hc : x ≠ g.c := fun z => nU (z ▸ u.c)
  have sx : ∀ a, (∃ o, H a = some o) → (U a ∨ a = x) → U a := fun a ⟨o, e⟩ z => z.elim (fun z => z) (fun z => (ne_of_none e nx z).elim)
  have k1 : DenL g (fun a => U a ∨ a = x) (upd (upd H dx (.own x)) x (.ins (gd cn g.K) dx [])) (xs ++ dvs) (dxs ++ dds) := ((dn.append (hd U H)).grow nx).ext (fun a o e _ _ => s1 a o e)
  have k2 : UOk g (fun a => U a ∨ a = x) (upd (upd H dx (.own x)) x (.ins (gd cn g.K) dx [])) := ⟨.inl u.p, .inl u.c, fun a ha => by
    rcases ha with ha | rfl
    · obtain ⟨o, e, t⟩ := u.al a ha
      exact ⟨o, s1 a o e, t⟩
    · exact ⟨_, upd_same, fun _ z => by cases z⟩⟩
  have fr : ∀ {H' : Hp}, FrM g (· = x) (upd (upd H dx (.own x)) x (.ins (gd cn g.K) dx [])) H' → Fr H H' g.p := fun f1 a o e n t => f1 a o (s1 a o e) n (fun z => ne_of_none e nx z) t
  exact ⟨g.p, g.c, fun a => U a ∨ a = x, dxs ++ dds, b, x, dx, [], [], xs ++ dvs, rfl, upd_same, .nil, .inr rfl, hp, hc, k1, wd.same s1, k2,
    (al_bd.mp q).mono (fun fs b1 h1 dx' fvs' H' e1 d1 w1 f1 => ⟨rfl, h1 _ H' (.obj e1 nU (d1.sub fun a _ z => .inl z)) w1 (fr f1)⟩) (fun c fs b1 h1 dd fvs H' e1 n1 d1 w1 f1 => h1 dd fvs H' e1 (fun z => n1 (.inl z)) (d1.sub fun a _ z => .inl z) w1 (fr f1))⟩
theorem srl_mk0 {cn : Str} {F : Fs → List D → Tr Fs} : SRL g E (rMk (gd cn g.K) (spI g.K g.T cn F) [] E) (fun ds => bd (F [] ds) fun fs => .ok (.obj cn fs)) := by
  have h := srl_mk (g := g) (E := E) (cn := cn) (F := F) (dvs := []) (dds := []) (fun _ _ => .nil)
  intro U H b xs dxs Q dn wd u q
  refine h U H b xs dxs Q dn wd u ?_
  show Al _ _ (bd (F [] (dxs ++ [])) _) b
  rw [List.append_nil]
  exact q
/-- what an __init__'s body gives -/
def finI (m : Tr (Fl Fs Empty)) : Tr Fs := bd m fun f => match f with
  | .nx fs => .ok fs
  | .rt _ => .bad
  | .bk e => nomatch e
  | .ct e => nomatch e
theorem finI_nx (fs : Fs) : finI (.ok (.nx fs)) = .ok fs := rfl
theorem finI_ex (c : Str) (fs : Fs) : finI (.ex c fs) = .ex c fs := rfl
theorem finI_bad : finI .bad = .bad := rfl
theorem finI_ite (c : Prop) [Decidable c] (m n : Tr (Fl Fs Empty)) : finI (if c then m else n) = if c then finI m else finI n := by split <;> rfl
theorem finI_bd {α : Type} (m : Tr α) (k : α → Tr (Fl Fs Empty)) : finI (bd m k) = bd m fun a => finI (k a) := bd_bd ..
theorem ini_of {K : PySem.W.Frag} {T : List (Addr × Str)} {N : List Str} {cn : Str} {F : Fs → List D → Tr Fs} {vs : List V} {Q : VK} {t : TS} {envI : Fs → Env} (h : spI K T cn F vs H Q E)
    (hs : ∀ p c fs ds, (∃ (P : Fs → Nat → Prop) (X : Str → Fs → Nat → Prop) (b : Nat), Al P X (F fs ds) b) → ∃ m, F fs ds = finI m ∧ SS ⟨K, T, p, c⟩ E (.oi cn fs :: (ds.map Sl.fz ++ List.replicate (N.length - (ds.length + 1)) Sl.no)) t envI envE m)
    (he : ∀ fs, (envI fs)[0]? = some (.oi cn fs)) : t { nx := fun _ H' => Q .non H', rt := Q } (L2.start N vs) H := by
  obtain ⟨p, c, U, ds, b, x, dx, fvs, fs, rest, rfl, hx, df, ux, np, nc, dn, wd, u, al⟩ := h
  obtain ⟨m, e, ss⟩ := hs p c fs ds ⟨_, _, _, al⟩
  rw [e] at al
  have st0 : L2.start N (.ref x :: rest) = some (.ref x) :: (rest.map some ++ List.replicate (N.length - (rest.length + 1)) none) := rfl
  have r1 : Rel ⟨K, T, p, c⟩ U H (rest.map some ++ List.replicate (N.length - (rest.length + 1)) none) (ds.map Sl.fz ++ List.replicate (N.length - (ds.length + 1)) Sl.no) := by
    have z := rel_start (g := ⟨K, T, p, c⟩) (N := N.drop 1) dn
    unfold L2.start at z
    rw [List.length_drop, Nat.sub_sub, Nat.sub_sub, Nat.add_comm 1, Nat.add_comm 1] at z
    exact z
  have nn : ∀ i a, ¬ OwnAt (rest.map some ++ List.replicate (N.length - (rest.length + 1)) none) (ds.map Sl.fz ++ List.replicate (N.length - (ds.length + 1)) Sl.no) i a := fun i a ⟨_, z⟩ => by
    have : ∀ s : Sl, (ds.map Sl.fz ++ List.replicate (N.length - (ds.length + 1)) Sl.no)[i]? = some s → (∃ d, s = .fz d) ∨ s = .no := fun s e => by
      have m := List.mem_of_getElem? e
      rcases List.mem_append.mp m with m | m
      · obtain ⟨d, _, e⟩ := List.mem_map.mp m
        exact .inl ⟨d, e.symm⟩
      · exact .inr (List.mem_replicate.mp m).2
    rcases z with ⟨x, z⟩ | ⟨x, y, z⟩
    · rcases this _ z with ⟨d, e⟩ | e <;> cases e
    · rcases this _ z with ⟨d, e⟩ | e <;> cases e
  have own : ∀ i a, OwnAt (L2.start N (.ref x :: rest)) (.oi cn fs :: (ds.map Sl.fz ++ List.replicate (N.length - (ds.length + 1)) Sl.no)) i a → i = 0 ∧ a = x := fun i a z => by
    rw [st0] at z
    obtain ⟨z1, z2⟩ := z
    cases i with
    | zero =>
      rw [List.getElem?_cons_zero] at z1
      cases z1
      exact ⟨rfl, rfl⟩
    | succ i =>
      rw [List.getElem?_cons_succ] at z1
      rw [List.getElem?_cons_succ] at z2
      exact (nn i a ⟨z1, z2⟩).elim
  refine ss (· = x) U H U _ _ H b ⟨⟨?_, fun i s e => ?_, fun i j a ne h1 h2 => ?_⟩, wd, u, fun _ z => z, fun i a z => .inl (own i a z).2, fun _ _ z _ _ _ => z, fun i ds' a z1 z2 => ?_, fun i c' fs' a z1 z2 => (own i a ⟨z2, .inr ⟨c', fs', z1⟩⟩).2⟩ ((al_bd.mp al).mono (fun f b1 h1 => ?_) (fun c fs b1 h1 => ?_))
  · rw [st0, List.length_cons, List.length_cons, r1.len]
  · rw [st0]
    cases i with
    | zero =>
      rw [List.getElem?_cons_zero] at e
      cases e
      exact ⟨_, rfl, x, dx, fvs, rfl, hx, df, ux, np, nc⟩
    | succ i =>
      rw [List.getElem?_cons_succ] at e
      rw [List.getElem?_cons_succ]
      exact r1.at_ i s e
  · exact ne ((own _ _ h1).1.trans (own _ _ h2).1.symm)
  · obtain ⟨rfl, _⟩ := own i a ⟨z2, .inl ⟨ds', z1⟩⟩
    cases z1
  · cases f with
    | nx w =>
      intro U' σ' H' ev s
      obtain ⟨o, e1, a, dx', fvs', rfl, ha, da, ua, _, _⟩ := s.rel.at_ 0 _ (he w)
      have ea := s.oim 0 cn w a (he w) e1
      subst ea
      exact h1 dx' fvs' H' ha (da.sub fun z _ y => s.sub z y) s.wd s.ext
    | rt d => exact h1.elim
    | bk e => exact nomatch e
    | ct e => exact nomatch e
  · exact fun dd fvs H' z1 z2 z3 z4 z5 => h1 dd fvs H' z1 z2 z3 z4 z5
end
end Gp

set_option Elab.async false
set_option linter.all false
set_option maxRecDepth 100000
set_option maxHeartbeats 4000000
/-! Po: operators and built-in calls over data. -/
namespace Gp
open PySem PySem.Spec PyProof.Rows L2 Gh
mutual
def toPy : D → Option PyData
  | .non => some .none
  | .bl b => some (.bool b)
  | .int i => some (.int i)
  | .str x => some (.str x)
  | .tup ds => (toPyL ds).map .tuple
  | .lst ds => (toPyL ds).map .list
  | .obj _ _ => none
  | .err _ _ => none
  | .pen => none
def toPyL : List D → Option (List PyData)
  | [] => some []
  | d :: ds => match toPy d, toPyL ds with
    | some e, some es => some (e :: es)
    | _, _ => none
end
section
variable {g : Gw} {U : Addr → Prop} {H H' H1 : Hp} {b : Nat} {E : XK} {Q : VK}
theorem denL_dp {K : PySem.W.Frag} : ∀ {vs : List V} {ds : List D} {es : List PyData}, DenL g U H vs ds → (∀ d ∈ ds, ∀ v e, Den g U H v d → toPy d = some e → Dp g.K H v e) → toPyL ds = some es → DpAll g.K H vs es
  | _, _, _, .nil, _, h => by cases h; exact .nil
  | _, d :: ds, es, .cons a r, ih, h => by
    unfold toPyL at h
    cases e1 : toPy d with
    | none => rw [e1] at h; cases h
    | some e =>
      cases e2 : toPyL ds with
      | none => rw [e1, e2] at h; cases h
      | some es' =>
        rw [e1, e2] at h
        cases h
        exact .cons (ih d List.mem_cons_self _ _ a e1) (denL_dp (K := K) r (fun d hd => ih d (List.mem_cons_of_mem _ hd)) e2)
theorem den_dp : ∀ (d : D) {v : V} {e : PyData}, Den g U H v d → toPy d = some e → Dp g.K H v e
  | .non, _, _, h, z => by cases h; cases z; exact .non
  | .bl b, _, _, h, z => by cases h; cases z; exact .bl b
  | .int i, _, _, h, z => by cases h; cases z; exact .int i
  | .str x, _, _, h, z => by cases h; cases z; exact .str x
  | .tup ds, v, e, h, z => by
    unfold toPy at z
    cases q : toPyL ds with
    | none => rw [q] at z; cases z
    | some es =>
      rw [q] at z
      cases z
      obtain ⟨a, vs, rfl, sq, _, k⟩ := den_tup h
      exact .tup sq (denL_dp (K := g.K) k (fun d hd v e h1 h2 => den_dp d h1 h2) q)
  | .lst ds, v, e, h, z => by
    unfold toPy at z
    cases q : toPyL ds with
    | none => rw [q] at z; cases z
    | some es =>
      rw [q] at z
      cases z
      obtain ⟨a, vs, rfl, hh, _, _, k⟩ := den_lst h
      exact .lst (SqL.of hh) (denL_dp (K := g.K) k (fun d hd v e h1 h2 => den_dp d h1 h2) q)
  | .obj _ _, _, _, _, z => by cases z
  | .err _ _, _, _, _, z => by cases z
  | .pen, _, _, _, z => by cases z
/-! ### new things -/
theorem new_lst {vs : List V} {ds : List D} (q : okP g U H Q (.lst ds) b) (w : Wd g H b) (u : UOk g U H) (l : vs.length ≤ sizeLine) (dn : DenL g U H vs ds) : ∀ p, H p = none → Q (.ref p) (upd H p (.lst vs)) := fun p np =>
  q _ _ (.lst upd_same (u.new np) l (dn.ext (fun a o e _ _ => same_new np a o e))) (w.same (same_new np)) (fr_same (same_new np))
theorem new_tup {vs : List V} {ds : List D} (q : okP g U H Q (.tup ds) b) (w : Wd g H b) (u : UOk g U H) (l : vs.length ≤ sizeLine) (dn : DenL g U H vs ds) : ∀ p, H p = none → Q (.ref p) (upd H p (.tup vs)) := fun p np =>
  q _ _ (.tup upd_same (u.new np) l (dn.ext (fun a o e _ _ => same_new np a o e))) (w.same (same_new np)) (fr_same (same_new np))
/-! ### numbers -/
def iiD (f : Int → Int → D) (x y : D) : Tr D := match x, y with
  | .int i, .int j => .ok (f i j)
  | _, _ => .bad
def iicD (c : Int → Int → Prop) [∀ i j, Decidable (c i j)] (f : Int → Int → D) (x y : D) : Tr D := match x, y with
  | .int i, .int j => if c i j then .ok (f i j) else .bad
  | _, _ => .bad
theorem al_ii {P : D → Nat → Prop} {X : Str → Fs → Nat → Prop} {f : Int → Int → D} {x y : D} (h : Al P X (iiD f x y) b) : ∃ i j, x = .int i ∧ y = .int j ∧ P (f i j) b := by
  unfold iiD at h
  split at h
  · exact ⟨_, _, rfl, rfl, h⟩
  · exact h.elim
theorem al_iic {P : D → Nat → Prop} {X : Str → Fs → Nat → Prop} {c : Int → Int → Prop} [∀ i j, Decidable (c i j)] {f : Int → Int → D} {x y : D} (h : Al P X (iicD c f x y) b) : ∃ i j, x = .int i ∧ y = .int j ∧ c i j ∧ P (f i j) b := by
  unfold iicD at h
  split at h
  · split at h
    · exact ⟨_, _, rfl, rfl, by assumption, h⟩
    · exact h.elim
  · exact h.elim
theorem sr_ii {f : Int → Int → D} {f' : Int → Int → V} (hf : ∀ i j U H, Den g U H (f' i j) (f i j)) : SR2 g E (rI0 f') (iiD f) := fun U H b x y dx dy Q d1 d2 w u q => by
  obtain ⟨i, j, rfl, rfl, q1⟩ := al_ii q
  cases den_int d1
  cases den_int d2
  exact ⟨i, j, rfl, rfl, okP.here q1 w (hf i j U H)⟩
theorem sr_iic {c : Int → Int → Prop} [∀ i j, Decidable (c i j)] {c' : Int → Int → Prop} {f : Int → Int → D} {f' : Int → Int → V} (hc : ∀ i j, c i j → c' i j) (hf : ∀ i j U H, Den g U H (f' i j) (f i j)) : SR2 g E (rI c' f') (iicD c f) := fun U H b x y dx dy Q d1 d2 w u q => by
  obtain ⟨i, j, rfl, rfl, hij, q1⟩ := al_iic q
  cases den_int d1
  cases den_int d2
  exact ⟨i, j, rfl, rfl, hc i j hij, okP.here q1 w (hf i j U H)⟩
def ltD : D → D → Tr D := iiD fun i j => .bl (decide (i < j))
def leD : D → D → Tr D := iiD fun i j => .bl (decide (i ≤ j))
def gtD : D → D → Tr D := iiD fun i j => .bl (decide (j < i))
def geD : D → D → Tr D := iiD fun i j => .bl (decide (j ≤ i))
def subD : D → D → Tr D := iiD fun i j => .int (i - j)
def modD : D → D → Tr D := iicD (fun _ j => 0 < j) fun i j => .int (i % j)
def divD : D → D → Tr D := iicD (fun _ j => 0 < j ∧ j < 10 ^ 100) fun i j => .int (i / j)
def powD : D → D → Tr D := iicD (fun i j => 0 ≤ j ∧ j ≤ 1000 ∧ -(2 ^ 60) < i ∧ i < 2 ^ 60) fun i j => .int (i ^ j.toNat)
theorem sr_lt : SR2 g E (rI0 fun i j => .bl (decide (i < j))) ltD := sr_ii fun _ _ _ _ => .bl _
theorem sr_le : SR2 g E (rI0 fun i j => .bl (decide (i ≤ j))) leD := sr_ii fun _ _ _ _ => .bl _
theorem sr_gt : SR2 g E (rI0 fun i j => .bl (decide (j < i))) gtD := sr_ii fun _ _ _ _ => .bl _
theorem sr_ge : SR2 g E (rI0 fun i j => .bl (decide (j ≤ i))) geD := sr_ii fun _ _ _ _ => .bl _
theorem sr_sub : SR2 g E (rI0 fun i j => .int (i - j)) subD := sr_ii fun _ _ _ _ => .int _
theorem sr_mod : SR2 g E (rI (fun _ j => 0 < j) fun i j => .int (i % j)) modD := sr_iic (fun _ _ h => h) fun _ _ _ _ => .int _
theorem sr_div : SR2 g E (rI CDivW fun i j => .int (i / j)) divD := sr_iic (fun _ _ h => ⟨h.1, log_of h.1 h.2⟩) fun _ _ _ _ => .int _
theorem sr_pow : SR2 g E (rI CPow fun i j => .int (i ^ j.toNat)) powD := sr_iic (fun _ _ h => ⟨h.1, by omega, by omega⟩) fun _ _ _ _ => .int _
/-- a ** b, both written -/
theorem sr_powK {a c : Int} {r : Int} : SR2 g E (rPowK r) (fun x y => match x, y with | .int i, .int j => if 0 ≤ j ∧ j ≤ 1000 ∧ -(2 ^ 60) < i ∧ i < 2 ^ 60 ∧ i ^ j.toNat = r then .ok (.int r) else .bad | _, _ => .bad) := fun U H b x y dx dy Q d1 d2 w u q => by
  dsimp only at q
  split at q
  · split at q
    · rename_i h
      cases den_int d1
      cases den_int d2
      exact st_powK ⟨h.1, by omega, by omega⟩ h.2.2.2.2 (okP.here q w (.int _))
    · exact q.elim
  · exact q.elim
def negD (x : D) : Tr D := match x with
  | .int i => .ok (.int (-i))
  | _ => .bad
theorem sr_neg : SR1 g E (rU fun i => .int (-i)) negD := fun U H b x dx Q d1 w u q => by
  cases dx with
  | int i =>
    cases den_int d1
    exact ⟨i, rfl, okP.here q w (.int _)⟩
  | _ => exact q.elim
/-- + of numbers, texts, lists, tuples -/
def addD (x y : D) : Tr D := match x, y with
  | .int i, .int j => .ok (.int (i + j))
  | .str a, .str b => if a.length + b.length ≤ sizeLine then .ok (.str (a ++ b)) else .bad
  | .lst a, .lst b => if a.length + b.length ≤ sizeLine then .ok (.lst (a ++ b)) else .bad
  | .tup a, .tup b => if a.length + b.length ≤ sizeLine then .ok (.tup (a ++ b)) else .bad
  | _, _ => .bad
def rAddA (K : PySem.W.Frag) : R2 := fun x y H Q => rI0 (fun i j => .int (i + j)) x y H Q ∨ (∃ i j, x = .str i ∧ y = .str j ∧ i.length + j.length ≤ sizeLine ∧ Q (.str (i ++ j)) H) ∨ rCat x y H Q ∨ rCatA K x y H Q
theorem op_addA {X : Cx} {K : PySem.W.Frag} (h : X.K = K) : OpR X (binaryOp .Add) (rAddA K) := h ▸ op_add.or (op_add_str.or (op_cat.or op_catA))
theorem str_app_len (a b : Str) : (a ++ b).length = a.length + b.length := by
  show (a.cps ++ b.cps).size = _
  rw [Array.size_append]
  rfl
theorem sr_add : SR2 g E (rAddA g.K) addD := fun U H b x y dx dy Q d1 d2 w u q => by
  unfold addD at q
  split at q
  · rename_i i j
    cases den_int d1
    cases den_int d2
    exact .inl ⟨i, j, rfl, rfl, okP.here q w (.int _)⟩
  · rename_i a c
    split at q
    · rename_i h
      obtain ⟨rfl, l1⟩ := den_str d1
      obtain ⟨rfl, l2⟩ := den_str d2
      exact .inr (.inl ⟨a, c, rfl, rfl, h, okP.here q w (.str _ (by rw [str_app_len]; exact h))⟩)
    · exact q.elim
  · rename_i a c
    split at q
    · rename_i h
      obtain ⟨p1, v1, rfl, h1, n1, l1, k1⟩ := den_lst d1
      obtain ⟨p2, v2, rfl, h2, n2, l2, k2⟩ := den_lst d2
      have hl : v1.length + v2.length ≤ sizeLine := by rw [k1.length, k2.length]; exact h
      exact .inr (.inr (.inl ⟨p1, p2, v1, v2, rfl, rfl, h1, h2, hl, new_lst q w u (by rw [List.length_append]; exact hl) (k1.append k2)⟩))
    · exact q.elim
  · rename_i a c
    split at q
    · rename_i h
      obtain ⟨p1, v1, rfl, h1, l1, k1⟩ := den_tup d1
      obtain ⟨p2, v2, rfl, h2, l2, k2⟩ := den_tup d2
      have hl : v1.length + v2.length ≤ sizeLine := by rw [k1.length, k2.length]; exact h
      refine .inr (.inr (.inr ⟨p1, p2, v1, v2, rfl, rfl, h1, h2, hl, fun e => ?_, fun _ e => ?_, fun _ _ => new_tup q w u (by rw [List.length_append]; exact hl) (k1.append k2)⟩))
      · subst e
        cases k1
        exact okP.here q w d2
      · subst e
        cases k2
        rw [List.append_nil] at q
        exact okP.here q w d1
    · exact q.elim
  · exact q.elim
/-- * of numbers; a list so many times -/
def mulD (x y : D) : Tr D := match x, y with
  | .int i, .int j => if (-(2 ^ 64) < i ∧ i < 2 ^ 64) ∨ (-(2 ^ 64) < j ∧ j < 2 ^ 64) then .ok (.int (i * j)) else .bad
  | .lst a, .int k => if -(2 ^ 63) ≤ k ∧ k < 2 ^ 63 ∧ a.length * k.toNat ≤ sizeLine then .ok (.lst (List.replicate k.toNat a).flatten) else .bad
  | _, _ => .bad
def rMulA : R2 := fun x y H Q => rI CMul (fun i j => .int (i * j)) x y H Q ∨ rRep x y H Q
theorem op_mulA {X : Cx} : OpR X (binaryOp .Mult) rMulA := op_mul.or op_rep
theorem denL_rep {vs : List V} {ds : List D} (h : DenL g U H vs ds) : ∀ n : Nat, DenL g U H (List.replicate n vs).flatten (List.replicate n ds).flatten
  | 0 => .nil
  | n + 1 => by
    rw [List.replicate_succ, List.replicate_succ, List.flatten_cons, List.flatten_cons]
    exact h.append (denL_rep h n)
theorem sr_mul : SR2 g E rMulA mulD := fun U H b x y dx dy Q d1 d2 w u q => by
  unfold mulD at q
  split at q
  · rename_i i j
    split at q
    · rename_i h
      cases den_int d1
      cases den_int d2
      exact .inl ⟨i, j, rfl, rfl, h, okP.here q w (.int _)⟩
    · exact q.elim
  · rename_i a k
    split at q
    · rename_i h
      obtain ⟨p1, v1, rfl, h1, n1, l1, k1⟩ := den_lst d1
      cases den_int d2
      have e : v1.length * k.toNat ≤ sizeLine := by rw [k1.length]; exact h.2.2
      refine .inr ⟨p1, k, v1, rfl, rfl, h1, h.1, h.2.1, e, new_lst q w u ?_ (denL_rep k1 _)⟩
      rw [(denL_rep k1 k.toNat).length, List.length_flatten, List.map_replicate, List.sum_replicate_nat, Nat.mul_comm]
      exact h.2.2
    · exact q.elim
  · exact q.elim
/-! ### == -/
def eqS : D → D → Option Bool
  | .non, .non => some true | .non, .int _ => some false | .int _, .non => some false | .non, .bl _ => some false | .bl _, .non => some false | .non, .str _ => some false | .str _, .non => some false
  | .int i, .int j => some (decide (i = j)) | .bl a, .bl c => some (decide (a = c)) | .str a, .str c => some (decide (a = c))
  | .int _, .str _ => some false | .str _, .int _ => some false | .bl _, .str _ => some false | .str _, .bl _ => some false
  | _, _ => none
def eqB (x y : D) : Tr Bool := match eqS x y with
  | some b => .ok b
  | none => match toPy x, toPy y with
    | some a, some c => if SeqAt.shaped a = true ∧ SeqAt.shaped c = true then .ok (PyData.eqv a c) else .bad
    | _, _ => .bad
def eqD (x y : D) : Tr D := bd (eqB x y) fun k => .ok (.bl k)
def neD (x y : D) : Tr D := bd (eqB x y) fun k => .ok (.bl (!k))
def rEqA (K : PySem.W.Frag) : R2 := fun x y H Q => rEq x y H Q ∨ rEqD K x y H Q
def rNeA (K : PySem.W.Frag) : R2 := fun x y H Q => rNe x y H Q ∨ rNeD K x y H Q
theorem op_eqA {X : Cx} {K : PySem.W.Frag} (h : X.K = K) (hu : X.A.units + 64 < cLine) : OpR X (compareOp .Eq) (rEqA K) := h ▸ op_eq.or (op_eqD hu)
theorem op_neA {X : Cx} {K : PySem.W.Frag} (h : X.K = K) (hu : X.A.units + 64 < cLine) : OpR X (compareOp .NotEq) (rNeA K) := h ▸ op_ne.or (op_neD hu)
theorem eqS_scal {x y : D} {v w : V} {k : Bool} (h : eqS x y = some k) (d1 : Den g U H v x) (d2 : Den g U H w y) : scal v w = true ∧ decide (v = w) = k := by
  cases x <;> cases y <;> first
    | (cases h; done)
    | (cases d1; cases d2; cases h; exact ⟨rfl, by simp⟩)
theorem al_eqB {P : Bool → Nat → Prop} {X : Str → Fs → Nat → Prop} {x y : D} (h : Al P X (eqB x y) b) : (∃ k, eqS x y = some k ∧ P k b) ∨ ∃ a c, toPy x = some a ∧ toPy y = some c ∧ SeqAt.shaped a = true ∧ SeqAt.shaped c = true ∧ P (PyData.eqv a c) b := by
  unfold eqB at h
  split at h
  · exact .inl ⟨_, by assumption, h⟩
  · split at h
    · split at h
      · rename_i e1 e2 z
        exact .inr ⟨_, _, e1, e2, z.1, z.2, h⟩
      · exact h.elim
    · exact h.elim
theorem sr_eq : SR2 g E (rEqA g.K) eqD := fun U H b x y dx dy Q d1 d2 w u q => by
  rcases al_eqB (al_bd.mp q) with ⟨k, e, q1⟩ | ⟨a, c, e1, e2, s1, s2, q1⟩
  · obtain ⟨h1, h2⟩ := eqS_scal e d1 d2
    refine .inl ⟨h1, ?_⟩
    rw [h2]
    exact okP.here q1 w (.bl _)
  · exact .inr ⟨a, c, den_dp dx d1 e1, den_dp dy d2 e2, s1, s2, okP.here q1 w (.bl _)⟩
theorem sr_ne : SR2 g E (rNeA g.K) neD := fun U H b x y dx dy Q d1 d2 w u q => by
  rcases al_eqB (al_bd.mp q) with ⟨k, e, q1⟩ | ⟨a, c, e1, e2, s1, s2, q1⟩
  · obtain ⟨h1, h2⟩ := eqS_scal e d1 d2
    refine .inl ⟨h1, ?_⟩
    rw [h2]
    exact okP.here q1 w (.bl _)
  · exact .inr ⟨a, c, den_dp dx d1 e1, den_dp dy d2 e2, s1, s2, okP.here q1 w (.bl _)⟩
/-- is None -/
def isN (x : D) : Bool := match x with
  | .non => true
  | _ => false
theorem den_non {v : V} {d : D} (h : Den g U H v d) : decide (v = .non) = isN d := by
  cases h <;> simp [isN]
theorem sr_isN : SR2 g E rIsN (fun x y => match y with | .non => .ok (.bl (isN x)) | _ => .bad) := fun U H b x y dx dy Q d1 d2 w u q => by
  cases dy with
  | non =>
    cases d2
    refine st_isN ?_
    rw [den_non d1]
    exact okP.here q w (.bl _)
  | _ => exact q.elim
theorem sr_notN : SR2 g E rNotN (fun x y => match y with | .non => .ok (.bl (!isN x)) | _ => .bad) := fun U H b x y dx dy Q d1 d2 w u q => by
  cases dy with
  | non =>
    cases d2
    refine st_notN ?_
    rw [den_non d1]
    exact okP.here q w (.bl _)
  | _ => exact q.elim
/-! ### places -/
def ixD (x y : D) : Tr D := match x, y with
  | .lst ds, .int i => match atI ds i with | some d => .ok d | none => .bad
  | .tup ds, .int i => match atI ds i with | some d => .ok d | none => .bad
  | .str z, .int i => match atI z.cps.toList i with | some c => .ok (.str ⟨#[c]⟩) | none => .bad
  | _, _ => .bad
theorem ix_seqK {X : Cx} {K : PySem.W.Frag} (h : X.K = K) : IxR X (rIx K) := h ▸ ix_seq
theorem denL_at {vs : List V} {ds : List D} {i : Int} {d : D} (h : DenL g U H vs ds) (e : atI ds i = some d) : ∃ v, atI vs i = some v ∧ Den g U H v d := by
  unfold atI at e ⊢
  rw [h.length]
  cases q : ixN ds.length i with
  | none => rw [q] at e; cases e
  | some j =>
    rw [q] at e
    exact h.getD e
theorem sr_ix : SR2 g E (rIx g.K) ixD := fun U H b x y dx dy Q d1 d2 w u q => by
  unfold ixD at q
  split at q
  · rename_i ds i
    split at q
    · rename_i d e
      obtain ⟨p, vs, rfl, h, n, l, k⟩ := den_lst d1
      cases den_int d2
      obtain ⟨v, hv, dv⟩ := denL_at k e
      exact .inl ⟨p, vs, i, v, rfl, rfl, SqL.of h, hv, okP.here q w dv⟩
    · exact q.elim
  · rename_i ds i
    split at q
    · rename_i d e
      obtain ⟨p, vs, rfl, h, l, k⟩ := den_tup d1
      cases den_int d2
      obtain ⟨v, hv, dv⟩ := denL_at k e
      exact .inr (.inl ⟨p, vs, i, v, rfl, rfl, h, hv, okP.here q w dv⟩)
    · exact q.elim
  · rename_i z i
    split at q
    · rename_i c e
      obtain ⟨rfl, l⟩ := den_str d1
      cases den_int d2
      exact .inr (.inr ⟨z, i, c, rfl, rfl, l, e, okP.here q w den1⟩)
    · exact q.elim
  · exact q.elim
/-! ### built-in calls -/
def lenD (x : D) : Tr D := match x with
  | .lst ds => .ok (.int ds.length)
  | .tup ds => .ok (.int ds.length)
  | .str z => .ok (.int z.length)
  | _ => .bad
theorem srl_len : SRL g E (rLn g.K) (ul1 lenD) := fun U H b xs dxs Q dn w u q => by
  obtain ⟨x, rfl, q1⟩ := al_ul1 q
  obtain ⟨v, rfl, d1⟩ := denL_1 dn
  cases x with
  | lst ds =>
    obtain ⟨p, vs, rfl, h, n, l, k⟩ := den_lst d1
    refine st_lenL h ?_
    rw [k.length]
    exact okP.here q1 w (.int _)
  | tup ds =>
    obtain ⟨p, vs, rfl, h, l, k⟩ := den_tup d1
    unfold rLn
    exact ⟨_, _, rfl, .inr ⟨vs, h, rfl⟩, by rw [k.length]; exact okP.here q1 w (.int _)⟩
  | str z =>
    obtain ⟨rfl, l⟩ := den_str d1
    exact st_lenS l (okP.here q1 w (.int _))
  | _ => exact q1.elim
def listD (x : D) : Tr D := match x with
  | .lst ds => .ok (.lst ds)
  | .tup ds => .ok (.lst ds)
  | _ => .bad
theorem srl_list : SRL g E (rListOf g.K) (ul1 listD) := fun U H b xs dxs Q dn w u q => by
  obtain ⟨x, rfl, q1⟩ := al_ul1 q
  obtain ⟨v, rfl, d1⟩ := denL_1 dn
  unfold rListOf
  cases x with
  | lst ds =>
    obtain ⟨p, vs, rfl, h, n, l, k⟩ := den_lst d1
    exact ⟨p, vs, rfl, .inl (SqL.of h), new_lst q1 w u l k⟩
  | tup ds =>
    obtain ⟨p, vs, rfl, h, l, k⟩ := den_tup d1
    exact ⟨p, vs, rfl, .inr h, new_lst q1 w u l k⟩
  | _ => exact q1.elim
def tupD (x : D) : Tr D := match x with
  | .lst ds => .ok (.tup ds)
  | .tup ds => .ok (.tup ds)
  | _ => .bad
theorem srl_tup : SRL g E (rTupOf g.K) (ul1 tupD) := fun U H b xs dxs Q dn w u q => by
  obtain ⟨x, rfl, q1⟩ := al_ul1 q
  obtain ⟨v, rfl, d1⟩ := denL_1 dn
  unfold rTupOf
  cases x with
  | lst ds =>
    obtain ⟨p, vs, rfl, h, n, l, k⟩ := den_lst d1
    exact ⟨p, vs, rfl, .inl ⟨SqL.of h, new_tup q1 w u l k⟩⟩
  | tup ds =>
    obtain ⟨p, vs, rfl, h, l, k⟩ := den_tup d1
    exact ⟨p, vs, rfl, .inr ⟨h, okP.here q1 w d1⟩⟩
  | _ => exact q1.elim
def intD (x : D) : Tr D := match x with
  | .int i => .ok (.int i)
  | .bl k => .ok (.int (if k = true then 1 else 0))
  | _ => .bad
theorem srl_int : SRL g E rInt (ul1 intD) := fun U H b xs dxs Q dn w u q => by
  obtain ⟨x, rfl, q1⟩ := al_ul1 q
  obtain ⟨v, rfl, d1⟩ := denL_1 dn
  cases x with
  | int i => cases d1; exact st_int (okP.here q1 w (.int _))
  | bl k => cases d1; exact st_intB (okP.here q1 w (.int _))
  | _ => exact q1.elim
def absD (x : D) : Tr D := match x with
  | .int i => .ok (.int (if i < 0 then -i else i))
  | _ => .bad
theorem srl_abs : SRL g E rAbs (ul1 absD) := fun U H b xs dxs Q dn w u q => by
  obtain ⟨x, rfl, q1⟩ := al_ul1 q
  obtain ⟨v, rfl, d1⟩ := denL_1 dn
  cases x with
  | int i => cases d1; exact st_abs (okP.here q1 w (.int _))
  | _ => exact q1.elim
end
end Gp

set_option Elab.async false
set_option linter.all false
set_option maxRecDepth 100000
set_option maxHeartbeats 4000000
/-! Pq: in, slices, isinstance, repr, sorted, sums; fields stored, errors raised. -/
namespace Gp
open PySem PySem.Spec PyProof.Rows L2 Gh
section
variable {g : Gw} {Mt U0 U U' : Addr → Prop} {H0 H H' H1 H2 : Hp} {b b1 : Nat} {σ : L2.St} {ε ε' : Env} {E : XK} {Q : VK} {W L W' : Type}
variable {env : W → Env} {envL : L → Env} {env' : W' → Env} {u ta tb : TS} {te : TE} {me : Tr D}
/-! ### in -/
def flatD : D → Bool
  | .non => true
  | .bl _ => true
  | .int _ => true
  | .str _ => true
  | _ => false
def eqF : D → D → Bool
  | .non, .non => true
  | .bl a, .bl b => a == b
  | .bl a, .int b => (if a then 1 else 0) == b
  | .int a, .bl b => a == (if b then 1 else 0)
  | .int a, .int b => a == b
  | .str a, .str b => a == b
  | _, _ => false
theorem flat_den {v : V} {d : D} (h : Den g U H v d) (f : flatD d = true) : flatV v = true := by
  cases h <;> first
    | rfl
    | cases f
theorem eqF_den {v w : V} {d e : D} (h : Den g U H v d) (k : Den g U H w e) : eqF d e = eqV v w := by
  cases h <;> cases k <;> rfl
def inD (x : D) (ds : List D) : Bool := ds.any fun y => eqF y x
theorem inD_den {v : V} {d : D} (h : Den g U H v d) : ∀ {vs : List V} {ds : List D}, DenL g U H vs ds → inD d ds = inV v vs
  | _, _, .nil => rfl
  | _, _, .cons a r => by
    have := inD_den h r
    unfold inD inV at this ⊢
    rw [List.any_cons, List.any_cons, eqF_den a h, this]
theorem flats_den : ∀ {vs : List V} {ds : List D}, DenL g U H vs ds → ds.all flatD = true → vs.all flatV = true
  | _, _, .nil, _ => rfl
  | _, _, .cons a r, f => by
    rw [List.all_cons, Bool.and_eq_true] at f ⊢
    exact ⟨flat_den a f.1, flats_den r f.2⟩
def inB (x y : D) : Tr Bool := match y with
  | .lst ds => if flatD x = true ∧ ds.all flatD = true then .ok (inD x ds) else .bad
  | .tup ds => if flatD x = true ∧ ds.all flatD = true then .ok (inD x ds) else .bad
  | .str j => match x with
    | .str i => .ok (!(Builtin.Str.occurrences j i 0 j.length 1).isEmpty)
    | _ => .bad
  | _ => .bad
def inOD (x y : D) : Tr D := bd (inB x y) fun k => .ok (.bl k)
def notinD (x y : D) : Tr D := bd (inB x y) fun k => .ok (.bl (!k))
def rInA (K : PySem.W.Frag) : R2 := fun x y H Q => rIn K false x y H Q ∨ ∃ i j, x = .str i ∧ y = .str j ∧ Q (.bl (!(Builtin.Str.occurrences j i 0 j.length 1).isEmpty)) H
def rNotInA (K : PySem.W.Frag) : R2 := fun x y H Q => rIn K true x y H Q ∨ ∃ i j, x = .str i ∧ y = .str j ∧ Q (.bl (!(!(Builtin.Str.occurrences j i 0 j.length 1).isEmpty))) H
theorem op_inA {X : Cx} {K : PySem.W.Frag} (h : X.K = K) : OpR X (compareOp .In) (rInA K) := h ▸ op_in_seq.or op_in_str
theorem op_notinA {X : Cx} {K : PySem.W.Frag} (h : X.K = K) : OpR X (compareOp .NotIn) (rNotInA K) := h ▸ op_notIn_seq.or op_notin_str
theorem al_inB {P : Bool → Nat → Prop} {Z : Str → Fs → Nat → Prop} {x y : D} {v w : V} (d1 : Den g U H v x) (d2 : Den g U H w y) (h : Al P Z (inB x y) b) :
    (∃ p vs, w = .ref p ∧ (SqL g.K H p vs ∨ SqT g.K H p vs) ∧ flatV v = true ∧ vs.all flatV = true ∧ P (inV v vs) b) ∨ ∃ i j, v = .str i ∧ w = .str j ∧ P (!(Builtin.Str.occurrences j i 0 j.length 1).isEmpty) b := by
  unfold inB at h
  split at h
  · split at h
    · rename_i z
      obtain ⟨p, vs, rfl, hh, _, _, k⟩ := den_lst d2
      rw [inD_den d1 k] at h
      exact .inl ⟨p, vs, rfl, .inl (SqL.of hh), flat_den d1 z.1, flats_den k z.2, h⟩
    · exact h.elim
  · split at h
    · rename_i z
      obtain ⟨p, vs, rfl, hh, _, k⟩ := den_tup d2
      rw [inD_den d1 k] at h
      exact .inl ⟨p, vs, rfl, .inr hh, flat_den d1 z.1, flats_den k z.2, h⟩
    · exact h.elim
  · split at h
    · obtain ⟨rfl, _⟩ := den_str d1
      obtain ⟨rfl, _⟩ := den_str d2
      exact .inr ⟨_, _, rfl, rfl, h⟩
    · exact h.elim
  · exact h.elim
theorem sr_in : SR2 g E (rInA g.K) inOD := fun U H b x y dx dy Q d1 d2 w u q => by
  rcases al_inB d1 d2 (al_bd.mp q) with ⟨p, vs, rfl, h1, h2, h3, h4⟩ | ⟨i, j, rfl, rfl, h⟩
  · exact .inl ⟨p, vs, rfl, h1, h2, h3, okP.here h4 w (.bl _)⟩
  · exact .inr ⟨i, j, rfl, rfl, okP.here h w (.bl _)⟩
theorem sr_notin : SR2 g E (rNotInA g.K) notinD := fun U H b x y dx dy Q d1 d2 w u q => by
  rcases al_inB d1 d2 (al_bd.mp q) with ⟨p, vs, rfl, h1, h2, h3, h4⟩ | ⟨i, j, rfl, rfl, h⟩
  · exact .inl ⟨p, vs, rfl, h1, h2, h3, okP.here h4 w (.bl _)⟩
  · exact .inr ⟨i, j, rfl, rfl, okP.here h w (.bl _)⟩
/-! ### slices -/
def SO (g : Gw) (E : XK) (ε : Env) (t : TO) (m : Tr (Option Int)) : Prop := ∀ U σ H b (Q : Option Int → Hp → Prop), Rel g U H σ ε → Wd g H b → UOk g U H → Al (fun o b' => ∀ H', Wd g H' b' → Fr H H' g.p → Q o H') (exP g U E H) m b → t σ H Q
theorem so_none : SO g E ε tNoPart (.ok none) := fun U σ H b Q R W u q => q H W Fr.refl
def asI (d : D) : Tr (Option Int) := match d with
  | .int i => .ok (some i)
  | _ => .bad
theorem so_some (he : SE g E ε te me) : SO g E ε (tPart te) (bd me asI) := fun U σ H b Q R W u q =>
  he.step R W u q fun v d H1 b1 d1 w1 f1 R1 u1 q1 => by
    cases d with
    | int i =>
      cases den_int d1
      exact ⟨i, rfl, q1 H1 w1 f1⟩
    | _ => exact q1.elim
theorem SO.step {α : Type} {t : TO} {m : Tr (Option Int)} {k : Option Int → Tr α} {P : α → Nat → Prop} {Q : Option Int → Hp → Prop} (ha : SO g E ε t m) (R : Rel g U H σ ε) (W : Wd g H b) (u : UOk g U H) (h : Al P (exP g U E H) (bd m k) b)
    (hk : ∀ d H1 b1, Wd g H1 b1 → Fr H H1 g.p → Rel g U H1 σ ε → UOk g U H1 → Al P (exP g U E H1) (k d) b1 → Q d H1) : t σ H Q :=
  ha U σ H b Q R W u ((al_bd.mp h).mono (fun d b1 h1 H1 w1 f1 => hk d H1 b1 w1 f1 (R.fr u f1) (u.fr f1 w1) (al_frX f1 h1)) (fun _ _ _ h => h))
def cutG {α : Type} (xs : List α) (lo hi : Option Int) : List α := (xs.drop (HT.sIx xs.length 0 lo)).take (HT.sIx xs.length xs.length hi - HT.sIx xs.length 0 lo)
def slD (x : D) (lo hi : Option Int) : Tr D := match x with
  | .lst ds => .ok (.lst (cutG ds lo hi))
  | .tup ds => .ok (.tup (cutG ds lo hi))
  | .str z => if (cutS z lo hi).length ≤ sizeLine then .ok (.str (cutS z lo hi)) else .bad
  | _ => .bad
def rSlAll (K : PySem.W.Frag) : V → Option Int → Option Int → Hp → VK → Prop := fun x lo hi H Q => rSlL K x lo hi H Q ∨ rSlA K x lo hi H Q ∨ L2.rSlS x lo hi H Q
theorem sl_all {X : Cx} {K : PySem.W.Frag} (h : X.K = K) : L2.SlR X (rSlAll K) := h ▸ sl_list.or (sl_tupA.or sl_str)
theorem cutG_length {α : Type} (xs : List α) (lo hi : Option Int) : (cutG xs lo hi).length ≤ xs.length := by
  unfold cutG
  rw [List.length_take, List.length_drop]
  omega
theorem denL_cut {vs : List V} {ds : List D} (k : DenL g U H vs ds) (lo hi : Option Int) : DenL g U H (cutV vs lo hi) (cutG ds lo hi) := by
  unfold cutV cutG
  rw [k.length]
  exact (k.drop _).take _
theorem se_sl {tl th : TO} {ml mh : Tr (Option Int)} (he : SE g E ε te me) (hl : SO g E ε tl ml) (hh : SO g E ε th mh) : SE g E ε (tSl (rSlAll g.K) te tl th) (bd me fun x => bd ml fun lo => bd mh fun hi => slD x lo hi) := fun U σ H b Q R W u q =>
  he.step R W u q fun v d H1 b1 d1 w1 f1 R1 u1 q1 => hl.step R1 w1 u1 q1 fun lo H2 b2 w2 f2 R2 u2 q2 => hh.step R2 w2 u2 q2 fun hi H3 b3 w3 f3 R3 u3 q3 => by
    have d3 := d1.fr u1 (f2.trans f3)
    have q4 := q3.mono (P' := okP g U H3 Q) (fun _ _ h => okP.fr ((f1.trans f2).trans f3) h) (fun _ _ _ h => h)
    cases d with
    | lst ds =>
      obtain ⟨p, vs, rfl, h, n, l, k⟩ := den_lst d3
      exact .inl ⟨p, vs, rfl, SqL.of h, new_lst q4 w3 u3 (Nat.le_trans (cutV_length _ _ _) l) (denL_cut k lo hi)⟩
    | tup ds =>
      obtain ⟨p, vs, rfl, h, l, k⟩ := den_tup d3
      refine .inr (.inl ⟨p, vs, rfl, h, fun e => ?_, fun _ => new_tup q4 w3 u3 (Nat.le_trans (cutV_length _ _ _) l) (denL_cut k lo hi)⟩)
      have e2 : cutG ds lo hi = ds := by
        unfold cutG
        rw [← k.length, e.1, e.2, List.drop_zero, Nat.sub_zero, k.length]
        exact List.take_length
      have q5 : okP g U H3 Q (.tup (cutG ds lo hi)) b3 := q4
      rw [e2] at q5
      exact okP.here q5 w3 d3
    | str z =>
      obtain ⟨rfl, l⟩ := den_str d3
      by_cases hz : (cutS z lo hi).length ≤ sizeLine
      · have q5 : Al (okP g U H3 Q) (exP g U E H3) (if (cutS z lo hi).length ≤ sizeLine then .ok (.str (cutS z lo hi)) else .bad) b3 := q4
        rw [if_pos hz] at q5
        exact .inr (.inr ⟨z, rfl, l, okP.here q5 w3 (.str _ hz)⟩)
      · have q5 : Al (okP g U H3 Q) (exP g U E H3) (if (cutS z lo hi).length ≤ sizeLine then .ok (.str (cutS z lo hi)) else .bad) b3 := q4
        rw [if_neg hz] at q5
        exact q5.elim
    | _ => exact q4.elim
/-- xs[::-1] -/
def revD (x : D) : Tr D := match x with
  | .lst ds => .ok (.lst ds.reverse)
  | _ => .bad
theorem DenL.reverse : ∀ {vs : List V} {ds : List D}, DenL g U H vs ds → DenL g U H vs.reverse ds.reverse
  | _, _, .nil => .nil
  | _, _, .cons a r => by
    rw [List.reverse_cons, List.reverse_cons]
    exact (DenL.reverse r).append (.cons a .nil)
theorem pe_revLK {X : Cx} {K : PySem.W.Frag} {e : Expr} {k : Nat} {p1 p2 p3 pos : Pos} (hK : X.K = K) (he : PE X e te) : PE X (.Subscript e (.Slice none none (some (.UnaryOp .USub (.Constant (.int 1) k p1) p2)) p3) pos) (tRevL K te) := hK ▸ pe_revL he
theorem se_rev (he : SE g E ε te me) : SE g E ε (tRevL g.K te) (bd me revD) := fun U σ H b Q R W u q =>
  he.step R W u q fun v d H1 b1 d1 w1 f1 R1 u1 q1 => by
    cases d with
    | lst ds =>
      obtain ⟨p, vs, rfl, h, n, l, k⟩ := den_lst d1
      exact ⟨p, vs, rfl, SqL.of h, new_lst (okP.fr f1 q1) w1 u1 (by rw [List.length_reverse]; exact l) k.reverse⟩
    | _ => exact q1.elim
/-! ### list(range(..)), tuple(range(..)) -/
def SRg (g : Gw) (E : XK) (ε : Env) (t : L2.St → Hp → (Int → Int → Hp → Prop) → Prop) (m : Tr (Int × Int)) : Prop := ∀ U σ H b (Q : Int → Int → Hp → Prop), Rel g U H σ ε → Wd g H b → UOk g U H → Al (fun o b' => ∀ H', Wd g H' b' → Fr H H' g.p → Q o.1 o.2 H') (exP g U E H) m b → t σ H Q
def rgA1 (d : D) : Tr (Int × Int) := match d with
  | .int n => .ok (0, n)
  | _ => .bad
def rgA2 (x y : D) : Tr (Int × Int) := match x, y with
  | .int i, .int j => .ok (i, j)
  | _, _ => .bad
theorem srg_1 (he : SE g E ε te me) : SRg g E ε (tRg1 te) (bd me rgA1) := fun U σ H b Q R W u q =>
  he.step R W u q fun v d H1 b1 d1 w1 f1 R1 u1 q1 => by
    cases d with
    | int i =>
      cases den_int d1
      exact ⟨i, rfl, q1 H1 w1 f1⟩
    | _ => exact q1.elim
theorem srg_2 {te2 : TE} {me2 : Tr D} (he : SE g E ε te me) (he2 : SE g E ε te2 me2) : SRg g E ε (tRg2 te te2) (bd me fun x => bd me2 fun y => rgA2 x y) := fun U σ H b Q R W u q =>
  he.step R W u q fun v d H1 b1 d1 w1 f1 R1 u1 q1 => he2.step R1 w1 u1 q1 fun v2 e H2 b2 d2 w2 f2 R2 u2 q2 => by
    unfold rgA2 at q2
    split at q2
    · cases den_int d1
      cases den_int d2
      exact ⟨_, _, rfl, rfl, q2 H2 w2 (f1.trans f2)⟩
    · exact q2.elim
def rgOk (a b : Int) : Prop := -(2 ^ 62) ≤ a ∧ a < 2 ^ 62 ∧ -(2 ^ 62) ≤ b ∧ b < 2 ^ 62 ∧ b - a ≤ 16777216
instance (a b : Int) : Decidable (rgOk a b) := by unfold rgOk; infer_instance
theorem denL_rg (a b : Int) : DenL g U H (rgV a b) (rgD a (b - a).toNat) := by
  have e : ∀ ns : List Nat, DenL g U H (ns.map fun i => V.int (a + (i : Nat))) (ns.map fun i => D.int (a + (i : Nat))) := fun ns => by
    induction ns with
    | nil => exact .nil
    | cons n r ih => exact .cons (.int _) ih
  exact e _
theorem rgV_ok {a b : Int} (h : rgOk a b) : (rgV a b).length ≤ sizeLine := by
  rw [rgV_length, sizeLine_eq]
  have := h.2.2.2.2
  omega
theorem se_lstRg {t : L2.St → Hp → (Int → Int → Hp → Prop) → Prop} {m : Tr (Int × Int)} (he : SRg g E ε t m) : SE g E ε (tLstRg t) (bd m fun r => if rgOk r.1 r.2 then .ok (.lst (rgD r.1 (r.2 - r.1).toNat)) else .bad) := fun U σ H b Q R W u q =>
  he U σ H b _ R W u ((al_bd.mp q).mono (fun r b1 h1 H1 w1 f1 => by
    by_cases h : rgOk r.1 r.2
    · rw [if_pos h] at h1
      exact ⟨⟨h.1, h.2.1, h.2.2.1, h.2.2.2.1, by have := h.2.2.2.2; omega⟩, new_lst (okP.fr f1 h1) w1 (u.fr f1 w1) (rgV_ok h) (denL_rg _ _)⟩
    · rw [if_neg h] at h1
      exact h1.elim) (fun _ _ _ h => h))
theorem se_tupRg {t : L2.St → Hp → (Int → Int → Hp → Prop) → Prop} {m : Tr (Int × Int)} (he : SRg g E ε t m) : SE g E ε (tTupRg t) (bd m fun r => if rgOk r.1 r.2 then .ok (.tup (rgD r.1 (r.2 - r.1).toNat)) else .bad) := fun U σ H b Q R W u q =>
  he U σ H b _ R W u ((al_bd.mp q).mono (fun r b1 h1 H1 w1 f1 => by
    by_cases h : rgOk r.1 r.2
    · rw [if_pos h] at h1
      exact ⟨⟨h.1, h.2.1, h.2.2.1, h.2.2.2.1, by have := h.2.2.2.2; omega⟩, new_tup (okP.fr f1 h1) w1 (u.fr f1 w1) (rgV_ok h) (denL_rg _ _)⟩
    · rw [if_neg h] at h1
      exact h1.elim) (fun _ _ _ h => h))
/-! ### isinstance -/
/-- what the class u says of data -/
def IsT (g : Gw) (u : Value) (f : D → Option Bool) : Prop := ∀ U H v d k, Den g U H v d → f d = some k → (∃ t, TyX g.K H v t ∧ PySem.W.kitOne g.K t u = some k) ∨ ∃ a C dd fvs, v = .ref a ∧ H a = some (exk a C dd) ∧ H dd = some (.xd fvs) ∧ ErrT g.K C ∧ PySem.W.kitOne g.K (.ref C) u = some k
def opt {α : Type} (o : Option α) : Tr α := match o with
  | some a => .ok a
  | none => .bad
theorem opt_some {α : Type} (a : α) : opt (some a) = .ok a := rfl
theorem se_isi {cv : V} {u : Value} {f : D → Option Bool} (hc : ClsV cv u) (hT : IsT g u f) (he : SE g E ε te me) : SE g E ε (tCB (rIsiZ g.K) (tCons te (tCons (tC cv) tNil))) (bd me fun d => bd (opt (f d)) fun k => .ok (.bl k)) := fun U σ H b Q R W uo q =>
  he.step R W uo q fun v d H1 b1 d1 w1 f1 R1 u1 q1 => by
    cases e : f d with
    | none => rw [e] at q1; exact q1.elim
    | some k =>
      rw [e] at q1
      have q2 := okP.here (okP.fr f1 q1) w1 (.bl k)
      rcases hT U H1 v d k d1 e with ⟨t, h1, h2⟩ | ⟨a, C, dd, fvs, rfl, h1, h2, h3, h4⟩
      · exact .inl ⟨v, cv, t, u, k, rfl, hc, h1, h2, q2⟩
      · exact .inr ⟨a, C, dd, fvs, cv, u, k, rfl, hc, h1, h2, h3, h4, q2⟩
/-- the kind of data, by a built-in class's name -/
def kdN : D → Option String
  | .non => some "NoneType"
  | .bl _ => some "bool"
  | .int _ => some "int"
  | .str _ => some "str"
  | .lst _ => some "list"
  | .tup _ => some "tuple"
  | _ => none
theorem kd_ty {v : V} {d : D} {n : String} (h : Den g U H v d) (e : kdN d = some n) : TyX g.K H v (.type n) := by
  cases h with
  | non => cases e; exact .base .non
  | bl b => cases e; exact .base (.bl b)
  | int i => cases e; exact .base (.int i)
  | str x _ => cases e; exact .base (.str x)
  | tup h _ _ _ => cases e; exact .base (.tup h)
  | tupW h _ _ =>
    cases e
    rcases h (fun _ => none) with (z | ⟨o, z⟩) | ⟨o, its, n, z1, z2, _⟩
    · cases z
    · cases z
    · exact .kTuple z1 z2
  | lst h _ _ _ => cases e; exact .base (.lst h)
  | obj _ _ _ => cases e
  | err _ _ _ _ _ => cases e
  | pen => cases e
/-- f by the kinds, by own classes, by errors -/
def isF (kb : String → Option Bool) (tab etab : List (Str × Bool)) (d : D) : Option Bool := match d with
  | .obj c _ => tab.lookup c
  | .err c _ => etab.lookup c
  | d => (kdN d).bind kb
theorem isT_of {u : Value} {kb : String → Option Bool} {tab etab : List (Str × Bool)} (h1 : ∀ n k, kb n = some k → PySem.W.kitOne g.K (.type n) u = some k) (h2 : ∀ c k, tab.lookup c = some k → Cls g.K (gd c g.K) ∧ InsT g.K (gd c g.K) ∧ PySem.W.kitOne g.K (.ref (gd c g.K)) u = some k)
    (h3 : ∀ c k, etab.lookup c = some k → ErrT g.K (gd c g.K) ∧ PySem.W.kitOne g.K (.ref (gd c g.K)) u = some k) : IsT g u (isF kb tab etab) := fun U H v d k dn e => by
  have base : ∀ d, Den g U H v d → (kdN d).bind kb = some k → ∃ t, TyX g.K H v t ∧ PySem.W.kitOne g.K t u = some k := fun d dn e => by
    cases q : kdN d with
    | none => rw [q] at e; cases e
    | some n =>
      rw [q] at e
      exact ⟨_, kd_ty dn q, h1 n k e⟩
  cases d with
  | obj c fs =>
    obtain ⟨a, dx, fvs, rfl, ea, _, _⟩ := den_obj dn
    obtain ⟨z1, z2, z3⟩ := h2 c k e
    exact .inl ⟨_, z2.ty z1 ea, z3⟩
  | err c fs =>
    cases dn with
    | err ha _ hd _ _ =>
      obtain ⟨z1, z2⟩ := h3 c k e
      exact .inr ⟨_, _, _, _, rfl, ha, hd, z1, z2⟩
  | non => exact .inl (base _ dn e)
  | bl b => exact .inl (base _ dn e)
  | int i => exact .inl (base _ dn e)
  | str x => exact .inl (base _ dn e)
  | lst ds => exact .inl (base _ dn e)
  | tup ds => exact .inl (base _ dn e)
  | pen => exact .inl (base _ dn e)
/-! ### shown -/
def shwD (d : D) : Option Str := match d with
  | .non => some "None"
  | .bl b => some (if b then "True" else "False")
  | .int i => if i.natAbs.log2 < 1920 then some (toString i) else none
  | .str x => if (reprText x).length ≤ sizeLine then some (reprText x) else none
  | d => match toPy d with
    | some e => if e.showable = true ∧ e.hasDict = false ∧ e.depth ≤ 100 ∧ e.shown.length ≤ sizeLine then some e.shown else none
    | none => none
def reprD (d : D) : Tr D := match shwD d with
  | some x => if x.length ≤ sizeLine then .ok (.str x) else .bad
  | none => .bad
theorem den_shw {v : V} {d : D} {x : Str} (h : Den g U H v d) (e : shwD d = some x) : Shw g.K H v x := by
  have cmp : ∀ {a : Addr}, v = .ref a → (match toPy d with
    | some e => if e.showable = true ∧ e.hasDict = false ∧ e.depth ≤ 100 ∧ e.shown.length ≤ sizeLine then some e.shown else none
    | none => none) = some x → Shw g.K H v x := fun {a} ev e => by
    subst ev
    split at e
    · split at e
      · rename_i q z
        cases e
        exact .dp (den_dp d h q) z.1 z.2.1 z.2.2.1 z.2.2.2
      · cases e
    · cases e
  cases d with
  | non => cases h; cases e; exact .non
  | bl b => cases h; cases e; exact .bl b
  | int i =>
    cases h
    unfold shwD at e
    dsimp only at e
    split at e
    · cases e; exact .int i (by assumption)
    · cases e
  | str y =>
    cases h
    unfold shwD at e
    dsimp only at e
    split at e
    · cases e; exact .str y (by assumption)
    · cases e
  | tup ds =>
    obtain ⟨a, _, rfl, _⟩ := den_tup h
    exact cmp rfl e
  | lst ds =>
    obtain ⟨a, _, rfl, _⟩ := den_lst h
    exact cmp rfl e
  | obj c fs => cases e
  | err c fs => cases e
  | pen => cases e
theorem srl_repr : SRL g E (rShow g.K) (ul1 reprD) := fun U H b xs dxs Q dn w u q => by
  obtain ⟨x, rfl, q1⟩ := al_ul1 q
  obtain ⟨v, rfl, d1⟩ := denL_1 dn
  unfold reprD at q1
  split at q1
  · rename_i z e
    split at q1
    · exact rShow_of (den_shw d1 e) (okP.here q1 w (.str _ (by assumption)))
    · exact q1.elim
  · exact q1.elim
/-- str(int), str(text) -/
def strD (d : D) : Tr D := match d with
  | .int i => if i.natAbs.log2 < 1920 ∧ (Str.ofString (toString i)).length ≤ sizeLine then .ok (.str (toString i)) else .bad
  | _ => .bad
theorem srl_str : SRL g E rStrI (ul1 strD) := fun U H b xs dxs Q dn w u q => by
  obtain ⟨x, rfl, q1⟩ := al_ul1 q
  obtain ⟨v, rfl, d1⟩ := denL_1 dn
  unfold strD at q1
  split at q1
  · split at q1
    · rename_i z
      cases den_int d1
      exact st_strI z.1 (okP.here q1 w (.str _ z.2))
    · exact q1.elim
  · exact q1.elim
/-! ### fields stored, errors raised -/
theorem ss_setf {c f : Str} {fs : Fs} {k : D → Tr (Fl W L)} (he : SE g E ε te me) (hk : ∀ d, SS g E (ε.set 0 (.oi c (putD f d fs))) u env envL (k d)) (hi : ε[0]? = some (.oi c fs) := by rfl) :
    SS g E ε (tSeq (sF (gd c g.K) (tVar 0) te f) u) env envL (bd me fun d => if fs.length < 900 then k d else .bad) := fun Mt U0 H0 U Ds σ H b s q => by
  refine st_sF ?_
  refine he.sstep s q fun y d H1 b1 dy s1 q1 => ?_
  by_cases hl : fs.length < 900
  · rw [if_pos hl] at q1
    obtain ⟨o, eo, a, dx, fvs, rfl, ha, df, ua, n1, n2⟩ := s1.rel.at_ 0 _ hi
    refine ⟨.ref a, eo, st_setF ha (by rw [df.length]; omega) fun H2 m2 => ?_⟩
    have kp := m2.keep
    have xt : ExtU U H1 H2 := fun x o e ne _ => kp x o e (fun z => ne (z ▸ ua))
    have il : 0 < ε.length := (List.getElem?_eq_some_iff.mp hi).1
    have ow : ∀ j x, OwnAt σ (ε.set 0 (.oi c (putD f d fs))) j x → OwnAt σ ε j x := fun j x z => by
      obtain ⟨z1, z2⟩ := z
      by_cases q : 0 = j
      · subst q
        exact ⟨z1, .inr ⟨c, fs, hi⟩⟩
      · rw [List.getElem?_set_ne q] at z2
        exact ⟨z1, z2⟩
    have apart : ∀ j x, 0 ≠ j → OwnAt σ ε j x → x ≠ a := fun j x ne z e => by
      subst e
      exact s1.rel.apart 0 j x ne ⟨eo, .inr ⟨c, fs, hi⟩⟩ z
    have hmt := s1.oim 0 c fs a hi eo
    have ev : Ev U H1 U H2 := ⟨xt, fun _ _ _ n _ => n⟩
    refine hk d Mt U0 H0 U Ds σ H2 b1 ⟨⟨by rw [List.length_set]; exact s1.rel.len, fun j x e => ?_, fun j k x ne z1 z2 => s1.rel.apart j k x ne (ow _ _ z1) (ow _ _ z2)⟩, ⟨s1.wd.pen.keep kp n1 n2, tabs_muI m2 ha s1.wd.tabs⟩, ⟨s1.uok.p, s1.uok.c, fun x hx => ?_⟩, s1.sub, fun j x z => s1.own j x (ow _ _ z), fun x o e m1 m2 m3 => ?_, fun j xs x e1 e2 => ?_, fun j c' fs' x e1 e2 => ?_⟩ (q1.mono (fun _ _ z => z.ev ev) (fun _ _ _ z => z))
    · by_cases q : 0 = j
      · subst q
        rw [List.getElem?_set_self il] at e
        cases e
        exact ⟨_, eo, a, dx, _, rfl, m2.at_, (df.put dy).ext xt, ua, n1, n2⟩
      · rw [List.getElem?_set_ne q] at e
        obtain ⟨o, e1, e2⟩ := s1.rel.at_ j x e
        refine ⟨o, e1, ?_⟩
        cases x with
        | no => trivial
        | fz d =>
          obtain ⟨v, e3, e4⟩ := e2
          exact ⟨v, e3, e4.ext xt⟩
        | ow ds2 =>
          obtain ⟨a2, v2, rfl, h2, l2, d2, u2, m1, m2⟩ := e2
          have ne := apart j a2 q ⟨e1, .inl ⟨ds2, e⟩⟩
          exact ⟨a2, v2, rfl, kp _ _ h2 ne, l2, d2.ext xt, u2, m1, m2⟩
        | oi c fs =>
          obtain ⟨a2, dx, v2, rfl, h2, d2, u2, m1, m2⟩ := e2
          have ne := apart j a2 q ⟨e1, .inr ⟨c, fs, e⟩⟩
          exact ⟨a2, dx, v2, rfl, kp _ _ h2 ne, d2.ext xt, u2, m1, m2⟩
    · by_cases q : x = a
      · subst q
        exact ⟨_, m2.at_, fun _ z => by cases z⟩
      · obtain ⟨o, e, t⟩ := s1.uok.al x hx
        exact ⟨o, kp x o e q, t⟩
    · exact kp x o (s1.ext x o e m1 m2 m3) (fun z => m2 (z ▸ hmt))
    · by_cases q : 0 = j
      · subst q
        rw [List.getElem?_set_self il] at e1
        cases e1
      · rw [List.getElem?_set_ne q] at e1
        exact s1.nu0 j xs x e1 e2
    · by_cases q : 0 = j
      · subst q
        exact s1.oim 0 c fs x hi e2
      · rw [List.getElem?_set_ne q] at e1
        exact s1.oim j c' fs' x e1 e2
  · rw [if_neg hl] at q1
    exact q1.elim
/-- raise X(e) -/
theorem ss_raise1 {c f : Str} (he : SE g E ε te me) : SS g E ε (tSeq (fun _ σ H => tMkO (gd c g.K) (spErr1 (gd c g.K) f) [] (tCons te tNil) σ H (fun cls d H' => E cls d H')) u) env envL (bd me fun d => .ex c [(f, d)]) := fun Mt U0 H0 U Ds σ H b s q => by
  show te σ H _
  refine he.sstep s q fun v d H1 b1 dv s1 q1 => ?_
  refine mk_err1 fun dd H2 sm nd hd => ?_
  have q2 : exS g Mt U0 H0 E c [(f, d)] b1 := q1
  exact q2 dd _ H2 hd (fun z => s1.uok.new nd (s1.sub _ z)) (.cons ((dv.ext (fun a o e _ _ => sm a o e)).sub fun a _ z => s1.sub a z) .nil) (s1.wd.same sm) (s1.ext.trans (fr_same sm))
end
end Gp

set_option Elab.async false
set_option linter.all false
set_option maxRecDepth 100000
set_option maxHeartbeats 4000000
/-! Pr: the rest of what the generator prints: inits, the law, own operators, static methods, instances called, walks by enumerate and zip, sums, texts. -/
namespace Gp
open PySem PySem.Spec PyProof.Rows L2 Gh
section
variable {g : Gw} {Mt U0 U U' : Addr → Prop} {H0 H H' H1 H2 : Hp} {b b1 : Nat} {σ : L2.St} {ε ε' : Env} {E : XK} {Q : VK} {W L W' : Type}
variable {env : W → Env} {envL : L → Env} {env' : W' → Env} {u ta tb : TS} {te : TE} {me : Tr D}
theorem se_powK {a c r : Int} (h1 : 0 ≤ c ∧ c ≤ 1000) (h2 : -(2 ^ 60) < a ∧ a < 2 ^ 60) (h3 : a ^ c.toNat = r) : SE g E ε (tOp (rPowK r) (tC (.int a)) (tC (.int c))) (.ok (.int r)) := fun U σ H b Q R W u q =>
  st_powK ⟨h1.1, by omega, by omega⟩ h3 (okP.here q W (.int _))
theorem passA {X : Cx} {E : XK} : Passes CX0 X E := fun _ _ _ _ _ _ _ h => h.elim
theorem PE.or {X : Cx} {e : Expr} {t1 t2 : TE} (a : PE X e t1) (c : PE X e t2) : PE X e (fun σ H Q => t1 σ H Q ∨ t2 σ H Q) := ⟨fun pins s σ H Q I h => h.elim (a.run pins s σ H Q I) (c.run pins s σ H Q I)⟩
theorem se_or {t1 t2 : TE} {m1 m2 : Tr D} (k : Bool) (h1 : SE g E ε t1 m1) (h2 : SE g E ε t2 m2) : SE g E ε (fun σ H Q => t1 σ H Q ∨ t2 σ H Q) (if k = true then m1 else m2) := fun U σ H b Q R W u q => by
  cases k with
  | true => exact .inl (h1 U σ H b Q R W u q)
  | false => exact .inr (h2 U σ H b Q R W u q)
def isC (c : Str) (o : D) : Bool := match o with
  | .obj c' _ => decide (c' = c)
  | _ => false
/-! ### isinstance with a tuple of classes -/
def IsA (g : Gw) (us : List Value) (f : D → Option Bool) : Prop := ∀ U H v d k, Den g U H v d → f d = some k → ∃ t, TyX g.K H v t ∧ PySem.W.kitAny g.K t us = some k
theorem tyX_new {K : PySem.W.Frag} {v : V} {t : Value} {p : Addr} {o : HO} (np : H p = none) (h : TyX K H v t) : TyX K (upd H p o) v t := by
  have s := same_new (o := o) np
  cases h with
  | base h =>
    cases h with
    | non => exact .base .non
    | bl x => exact .base (.bl x)
    | int i => exact .base (.int i)
    | str x => exact .base (.str x)
    | flt x => exact .base (.flt x)
    | lst e => exact .base (.lst (s _ _ e))
    | frz e => exact .base (.frz (s _ _ e))
    | tup e => exact .base (.tup (s _ _ e))
    | dK e => exact .base (.dK (s _ _ e))
    | dT e => exact .base (.dT (s _ _ e))
    | ins e cl ha hn htk hm => exact .base (.ins (s _ _ e) cl ha hn htk hm)
  | byt b => exact .byt b
  | set e => exact .set (s _ _ e)
  | kList e c => exact .kList e c
  | kTuple e c => exact .kTuple e c
  | kDict e c => exact .kDict e c
  | fTuple e => exact .fTuple (s _ _ e)
  | fDict e => exact .fDict (s _ _ e)
theorem se_isiT {n1 n2 : String} {f : D → Option Bool} (hT : IsA g [.type n1, .type n2] f) (he : SE g E ε te me) : SE g E ε (tCB (rIsiT g.K) (tCons te (tCons (tTup (tCons (tC (.ty n1)) (tCons (tC (.ty n2)) tNil))) tNil))) (bd me fun d => bd (opt (f d)) fun k => .ok (.bl k)) := fun U σ H b Q R W uo q =>
  he.step R W uo q fun v d H1 b1 d1 w1 f1 R1 u1 q1 => by
    refine ⟨by show 2 ≤ sizeLine; decide, fun p np => ?_⟩
    cases e : f d with
    | none => rw [e] at q1; exact q1.elim
    | some k =>
      rw [e] at q1
      obtain ⟨t, h1, h2⟩ := hT U H1 v d k d1 e
      have s := same_new (o := .tup [V.ty n1, V.ty n2]) np
      exact ⟨v, p, _, t, _, k, rfl, upd_same, .cons (.ty _) (.cons (.ty _) .nil), tyX_new np h1, h2, q1 _ _ (.bl k) (w1.same s) (f1.trans (fr_same s))⟩
theorem isA_of {us : List Value} {kb : String → Option Bool} {tab : List (Str × Bool)} (h1 : ∀ n k, kb n = some k → PySem.W.kitAny g.K (.type n) us = some k) (h2 : ∀ c k, tab.lookup c = some k → Cls g.K (gd c g.K) ∧ InsT g.K (gd c g.K) ∧ PySem.W.kitAny g.K (.ref (gd c g.K)) us = some k) : IsA g us (isF kb tab []) := fun U H v d k dn e => by
  have base : ∀ d, Den g U H v d → (kdN d).bind kb = some k → ∃ t, TyX g.K H v t ∧ PySem.W.kitAny g.K t us = some k := fun d dn e => by
    cases q : kdN d with
    | none => rw [q] at e; cases e
    | some n =>
      rw [q] at e
      exact ⟨_, kd_ty dn q, h1 n k e⟩
  cases d with
  | obj c fs =>
    obtain ⟨a, dx, fvs, rfl, ea, _, _⟩ := den_obj dn
    obtain ⟨z1, z2, z3⟩ := h2 c k e
    exact ⟨_, z2.ty z1 ea, z3⟩
  | err c fs => cases e
  | non => exact base _ dn e
  | bl b => exact base _ dn e
  | int i => exact base _ dn e
  | str x => exact base _ dn e
  | lst ds => exact base _ dn e
  | tup ds => exact base _ dn e
  | pen => exact base _ dn e
theorem look_cons {α : Type} {a c : Str} {x k : α} {r : List (Str × α)} (h : ((a, x) :: r).lookup c = some k) : (c = a ∧ k = x) ∨ r.lookup c = some k := by
  simp only [List.lookup] at h
  split at h
  · rename_i z
    cases h
    exact .inl ⟨beq_iff_eq.mp z, rfl⟩
  · exact .inr h
/-! ### inits -/
theorem spI_len {K : PySem.W.Frag} {T : List (Addr × Str)} {cn : Str} {F : Fs → List D → Tr Fs} {n : Nat} (hn : ∀ fs (P : Fs → Nat → Prop) (X : Str → Fs → Nat → Prop) ds b, Al P X (F fs ds) b → ds.length = n) {vs : List V} (h : spI K T cn F vs H Q E) : vs.length = n + 1 := by
  obtain ⟨p, c, U, ds, b, x, dx, fvs, fs, rest, rfl, hx, df, ux, np, nc, dn, wd, u, al⟩ := h
  rw [List.length_cons, dn.length, hn _ _ _ _ _ al]
theorem lenI0 {F : Fs → Tr Fs} (fs : Fs) (P : Fs → Nat → Prop) (X : Str → Fs → Nat → Prop) (ds : List D) (b : Nat) (h : Al P X (ul0 (F fs) ds) b) : ds.length = 0 := by obtain ⟨rfl, _⟩ := al_ul0 h; rfl
theorem lenI1 {F : Fs → D → Tr Fs} (fs : Fs) (P : Fs → Nat → Prop) (X : Str → Fs → Nat → Prop) (ds : List D) (b : Nat) (h : Al P X (ul1 (F fs) ds) b) : ds.length = 1 := by obtain ⟨_, rfl, _⟩ := al_ul1 h; rfl
theorem lenI2 {F : Fs → D → D → Tr Fs} (fs : Fs) (P : Fs → Nat → Prop) (X : Str → Fs → Nat → Prop) (ds : List D) (b : Nat) (h : Al P X (ul2 (F fs) ds) b) : ds.length = 2 := by obtain ⟨_, _, rfl, _⟩ := al_ul2 h; rfl
theorem lenI3 {F : Fs → D → D → D → Tr Fs} (fs : Fs) (P : Fs → Nat → Prop) (X : Str → Fs → Nat → Prop) (ds : List D) (b : Nat) (h : Al P X (ul3 (F fs) ds) b) : ds.length = 3 := by obtain ⟨_, _, _, rfl, _⟩ := al_ul3 h; rfl
theorem lenI4 {F : Fs → D → D → D → D → Tr Fs} (fs : Fs) (P : Fs → Nat → Prop) (X : Str → Fs → Nat → Prop) (ds : List D) (b : Nat) (h : Al P X (ul4 (F fs) ds) b) : ds.length = 4 := by obtain ⟨_, _, _, _, rfl, _⟩ := al_ul4 h; rfl
section
variable {K : PySem.W.Frag} {T : List (Addr × Str)} {N : List Str} {cn : Str} {vs : List V} {t : TS} {envI : Fs → Env}
theorem ini_of1 {F : Fs → D → Tr Fs} {m : Fs → D → Tr (Fl Fs Empty)} (h : spI K T cn (fun fs => ul1 (F fs)) vs H Q E) (hF : ∀ fs x, F fs x = finI (m fs x)) (hs : ∀ p c fs x, SS ⟨K, T, p, c⟩ E (.oi cn fs :: ([x].map Sl.fz ++ List.replicate (N.length - (1 + 1)) Sl.no)) t envI envE (m fs x)) (he : ∀ fs, (envI fs)[0]? = some (.oi cn fs) := by intro _; rfl) : t { nx := fun _ H' => Q .non H', rt := Q } (L2.start N vs) H :=
  ini_of h (fun p c fs ds ⟨_, _, _, al⟩ => by
    obtain ⟨x, rfl, _⟩ := al_ul1 al
    exact ⟨m fs x, hF fs x, hs p c fs x⟩) he
theorem ini_of2 {F : Fs → D → D → Tr Fs} {m : Fs → D → D → Tr (Fl Fs Empty)} (h : spI K T cn (fun fs => ul2 (F fs)) vs H Q E) (hF : ∀ fs x y, F fs x y = finI (m fs x y)) (hs : ∀ p c fs x y, SS ⟨K, T, p, c⟩ E (.oi cn fs :: ([x, y].map Sl.fz ++ List.replicate (N.length - (2 + 1)) Sl.no)) t envI envE (m fs x y)) (he : ∀ fs, (envI fs)[0]? = some (.oi cn fs) := by intro _; rfl) : t { nx := fun _ H' => Q .non H', rt := Q } (L2.start N vs) H :=
  ini_of h (fun p c fs ds ⟨_, _, _, al⟩ => by
    obtain ⟨x, y, rfl, _⟩ := al_ul2 al
    exact ⟨m fs x y, hF fs x y, hs p c fs x y⟩) he
theorem ini_of3 {F : Fs → D → D → D → Tr Fs} {m : Fs → D → D → D → Tr (Fl Fs Empty)} (h : spI K T cn (fun fs => ul3 (F fs)) vs H Q E) (hF : ∀ fs x y z, F fs x y z = finI (m fs x y z)) (hs : ∀ p c fs x y z, SS ⟨K, T, p, c⟩ E (.oi cn fs :: ([x, y, z].map Sl.fz ++ List.replicate (N.length - (3 + 1)) Sl.no)) t envI envE (m fs x y z)) (he : ∀ fs, (envI fs)[0]? = some (.oi cn fs) := by intro _; rfl) : t { nx := fun _ H' => Q .non H', rt := Q } (L2.start N vs) H :=
  ini_of h (fun p c fs ds ⟨_, _, _, al⟩ => by
    obtain ⟨x, y, z, rfl, _⟩ := al_ul3 al
    exact ⟨m fs x y z, hF fs x y z, hs p c fs x y z⟩) he
theorem ini_of4 {F : Fs → D → D → D → D → Tr Fs} {m : Fs → D → D → D → D → Tr (Fl Fs Empty)} (h : spI K T cn (fun fs => ul4 (F fs)) vs H Q E) (hF : ∀ fs x y z w, F fs x y z w = finI (m fs x y z w)) (hs : ∀ p c fs x y z w, SS ⟨K, T, p, c⟩ E (.oi cn fs :: ([x, y, z, w].map Sl.fz ++ List.replicate (N.length - (4 + 1)) Sl.no)) t envI envE (m fs x y z w)) (he : ∀ fs, (envI fs)[0]? = some (.oi cn fs) := by intro _; rfl) : t { nx := fun _ H' => Q .non H', rt := Q } (L2.start N vs) H :=
  ini_of h (fun p c fs ds ⟨_, _, _, al⟩ => by
    obtain ⟨x, y, z, w, rfl, _⟩ := al_ul4 al
    exact ⟨m fs x y z w, hF fs x y z w, hs p c fs x y z w⟩) he
end
/-! ### the law -/
/-- the law's promise: T the tables -/
def spLaw (K : PySem.W.Frag) (T : List (Addr × Str)) : Sp := fun vs H Q _ => ∃ (a : Addr) (ns : List Int), vs = [.ref a] ∧ SqL K H a (ns.map V.int) ∧ ns.length ≤ 63 ∧ LamX.Tabs T H ∧ ∀ H', Q (.bl true) H'
theorem spLaw_len {K : PySem.W.Frag} {T : List (Addr × Str)} {vs : List V} (h : spLaw K T vs H Q E) : vs.length = 1 := by
  obtain ⟨a, ns, rfl, _⟩ := h
  rfl
/-- all that comes of it is True -/
def Yes (F : Tr D) : Prop := Al (fun d _ => d = .bl true) (fun _ _ _ => False) F 1000000
theorem law_of {K : PySem.W.Frag} {T : List (Addr × Str)} {N : List Str} {i n : Nat} {F : Tr D} {m : Tr (Fl Unit Empty)} {vs : List V} {t : TS} {envU : Unit → Env} (yes : Yes F) (h : spLaw K T vs H Q E) (hN : N.length = n + 1) (hi : i < n + 1) (h0 : i ≠ 0) (hF : F = fin m)
    (hs : ∀ p c, SS ⟨K, T, p, c⟩ EF ((List.replicate (n + 1) Sl.no).set i (.fz .pen)) t envU envE m) : tSeq (tAsg (tCl (rSp (spPn K) [] E) (tCons (tVar 0) tNil)) (gName i)) t { nx := fun _ H' => Q .non H', rt := Q } (L2.start N vs) H := by
  obtain ⟨a, ns, rfl, hS, hl, hT, q⟩ := h
  have st0 : L2.start N [V.ref a] = some (.ref a) :: List.replicate n none := by
    unfold L2.start
    rw [List.length_singleton, hN]
    rfl
  rw [st0]
  refine ⟨.ref a, rfl, ?_⟩
  refine ⟨a, ns, rfl, hS, hl, fun p c H1 np pn s => ?_⟩
  obtain ⟨ns', i', z', h1, h2, _⟩ := id pn
  have wd : Wd ⟨K, T, p, c⟩ H1 1000000 := ⟨pn, hT.ext s⟩
  have u : UOk ⟨K, T, p, c⟩ (fun x => x = p ∨ x = c) H1 := ⟨.inl rfl, .inr rfl, fun x hx => by
    rcases hx with rfl | rfl
    · exact ⟨_, h1, fun _ z => by cases z⟩
    · exact ⟨_, h2, fun _ z => by cases z⟩⟩
  have own : ∀ j x, ¬ OwnAt ((some (V.ref a) :: List.replicate n none).set i (some (.ref p))) ((List.replicate (n + 1) Sl.no).set i (.fz .pen)) j x := fun j x z => by
    obtain ⟨_, z2⟩ := ownAt_set z
    rcases z2.2 with ⟨ds, e⟩ | ⟨c, fs, e⟩
    · cases (List.mem_replicate.mp (List.mem_of_getElem? e)).2
    · cases (List.mem_replicate.mp (List.mem_of_getElem? e)).2
  have rl0 : Rel ⟨K, T, p, c⟩ (fun x => x = p ∨ x = c) H1 (some (V.ref a) :: List.replicate n none) (List.replicate (n + 1) Sl.no) := by
    refine ⟨by rw [List.length_cons, List.length_replicate, List.length_replicate], fun j s e => ?_, fun j k x ne z1 z2 => ?_⟩
    · have hj := (List.getElem?_eq_some_iff.mp e).1
      rw [List.length_replicate] at hj
      obtain ⟨_, rfl⟩ := List.mem_replicate.mp (List.mem_of_getElem? e)
      have hl2 : j < (some (V.ref a) :: List.replicate n (none : Option V)).length := by rw [List.length_cons, List.length_replicate]; exact hj
      exact ⟨_, List.getElem?_eq_getElem hl2, trivial⟩
    · rcases z1.2 with ⟨ds, e⟩ | ⟨c, fs, e⟩
      · cases (List.mem_replicate.mp (List.mem_of_getElem? e)).2
      · cases (List.mem_replicate.mp (List.mem_of_getElem? e)).2
  have rl := rl0.set i (v := .ref p) (d := .pen) .pen
  have yes' : Al (fun d _ => d = .bl true) (fun _ _ _ => False) (fin m) 1000000 := hF ▸ yes
  refine hs p c (fun _ => False) (fun x => x = p ∨ x = c) H1 (fun x => x = p ∨ x = c) _ _ H1 1000000 ⟨rl, wd, u, fun _ z => z, fun j x z => (own j x z).elim, fun _ _ z _ _ _ => z, fun j ds x z1 z2 => (own j x ⟨z2, .inl ⟨ds, z1⟩⟩).elim, fun j cc fs x z1 z2 => (own j x ⟨z2, .inr ⟨cc, fs, z1⟩⟩).elim⟩ ((al_bd.mp yes').mono (fun f b h => ?_) (fun _ _ _ z => z.elim))
  cases f with
  | nx w => cases (show D.non = .bl true from h)
  | rt d =>
    have h' : d = .bl true := h
    subst h'
    intro v H2 dn _ _
    cases dn
    exact q H2
  | bk e => exact nomatch e
  | ct e => exact nomatch e
/-! ### operators of one's own -/
theorem isO_true {α : Type} {c : Str} {o : D} {k : Fs → Tr α} {P : α → Nat → Prop} {X : Str → Fs → Nat → Prop} (h : Al P X (isO c o k) b) : ∃ fs, o = .obj c fs ∧ Al P X (k fs) b := al_isO h
def binO (c : Str) (F : List D → Tr D) (x y : D) : Tr D := isO c x fun _ => isO c y fun _ => F [x, y]
theorem sr_bin {c : Str} {r : List V → Hp → VK → Prop} {F : List D → Tr D} (hr : SRL g E r F) : SR2 g E (rBin (gd c g.K) r) (binO c F) := fun U H b x y dx dy Q d1 d2 w u q => by
  obtain ⟨fs, rfl, q1⟩ := al_isO q
  obtain ⟨gs, rfl, q2⟩ := al_isO q1
  obtain ⟨a, da, fa, rfl, ea, _, _⟩ := den_obj d1
  obtain ⟨a2, da2, fa2, rfl, ea2, _, _⟩ := den_obj d2
  unfold rBin
  exact ⟨a, da, fa, a2, da2, fa2, rfl, rfl, ea, ea2, hr U H b _ _ Q (.cons d1 (.cons d2 .nil)) w u q2⟩
def binOI (c : Str) (F : List D → Tr D) (x y : D) : Tr D := isO c x fun _ => match y with
  | .int i => F [x, .int i]
  | _ => .bad
theorem sr_binI {c : Str} {r : List V → Hp → VK → Prop} {F : List D → Tr D} (hr : SRL g E r F) : SR2 g E (rBinI (gd c g.K) r) (binOI c F) := fun U H b x y dx dy Q d1 d2 w u q => by
  obtain ⟨fs, rfl, q1⟩ := al_isO q
  obtain ⟨a, da, fa, rfl, ea, _, _⟩ := den_obj d1
  cases dy with
  | int i =>
    cases den_int d2
    unfold rBinI
    exact ⟨a, da, fa, i, rfl, rfl, ea, hr U H b _ _ Q (.cons d1 (.cons d2 .nil)) w u q1⟩
  | _ => exact q1.elim
def unO (c : Str) (F : List D → Tr D) (x : D) : Tr D := isO c x fun _ => F [x]
theorem sr_unO {c : Str} {r : List V → Hp → VK → Prop} {F : List D → Tr D} (hr : SRL g E r F) : SR1 g E (rUnO (gd c g.K) r) (unO c F) := fun U H b x dx Q d1 w u q => by
  obtain ⟨fs, rfl, q1⟩ := al_isO q
  obtain ⟨a, da, fa, rfl, ea, _, _⟩ := den_obj d1
  exact st_unO ea (hr U H b _ _ Q (.cons d1 .nil) w u q1)
def cmpO (c : Str) (F : List D → Tr D) (x y : D) : Tr D := isO c x fun _ => isO c y fun _ => F [x, y]
theorem sr_cmp {c : Str} {r : List V → Hp → VK → Prop} {F : List D → Tr D} (nf : PySem.W.notFirst g.K (gd c g.K) (.ref (gd c g.K)) = true) (hr : SRL g E r F) : SR2 g E (rCmp g.K (gd c g.K) r) (cmpO c F) := fun U H b x y dx dy Q d1 d2 w u q => by
  obtain ⟨fs, rfl, q1⟩ := al_isO q
  obtain ⟨gs, rfl, q2⟩ := al_isO q1
  obtain ⟨a, da, fa, rfl, ea, _, _⟩ := den_obj d1
  obtain ⟨a2, da2, fa2, rfl, ea2, _, _⟩ := den_obj d2
  unfold rCmp
  exact ⟨a, da, fa, a2, _, da2, fa2, rfl, rfl, ea, ea2, nf, hr U H b _ _ Q (.cons d1 (.cons d2 .nil)) w u q2⟩
/-- what stands at the right of an own == -/
def EqR (g : Gw) (c : Str) (f : D → Bool) : Prop := ∀ U H v d, Den g U H v d → f d = true → ∃ tb, TyX g.K H v tb ∧ PySem.W.notFirst g.K (gd c g.K) tb = true
def eqO (c : Str) (f : D → Bool) (F : List D → Tr D) (x y : D) : Tr D := isO c x fun _ => if f y = true then F [x, y] else .bad
theorem sr_eqO {c : Str} {f : D → Bool} {r : List V → Hp → VK → Prop} {F : List D → Tr D} (hf : EqR g c f) (hr : SRL g E r F) : SR2 g E (rEqO g.K (gd c g.K) r) (eqO c f F) := fun U H b x y dx dy Q d1 d2 w u q => by
  obtain ⟨fs, rfl, q1⟩ := al_isO q
  obtain ⟨a, da, fa, rfl, ea, _, _⟩ := den_obj d1
  by_cases h : f dy = true
  · rw [if_pos h] at q1
    obtain ⟨tb, h1, h2⟩ := hf U H y dy d2 h
    exact st_eqO ea h1 h2 (hr U H b _ _ Q (.cons d1 (.cons d2 .nil)) w u q1)
  · rw [if_neg h] at q1
    exact q1.elim
def neO (c : Str) (f : D → Bool) (F : List D → Tr D) (x y : D) : Tr D := isO c x fun _ => if f y = true then bd (bd (F [x, y]) asB) fun k => .ok (.bl (!k)) else .bad
theorem sr_neO {c : Str} {f : D → Bool} {F : List D → Tr D} (hf : EqR g c f) : SR2 g E (rNeO g.K (gd c g.K) (spF g.K g.T F) E) (neO c f F) := fun U H b x y dx dy Q d1 d2 w u q => by
  obtain ⟨fs, rfl, q1⟩ := al_isO q
  obtain ⟨a, da, fa, rfl, ea, _, _⟩ := den_obj d1
  by_cases h : f dy = true
  · rw [if_pos h, bd_bd] at q1
    obtain ⟨tb, h1, h2⟩ := hf U H y dy d2 h
    refine st_neO ea h1 h2 ⟨g.p, g.c, U, _, b, .cons d1 (.cons d2 .nil), w, u, (al_bd.mp q1).mono (fun d b1 h1 v H1 dv w1 f1 => ?_) (fun _ _ _ z => z)⟩
    obtain ⟨k, rfl, q2⟩ := al_asBk h1
    exact ⟨k, den_bl dv, q2 _ H1 (.bl _) w1 f1⟩
  · rw [if_neg h] at q1
    exact q1.elim
def inO (c : Str) (neg : Bool) (F : List D → Tr D) (x y : D) : Tr D := isO c y fun _ => bd (bd (F [y, x]) asB) fun k => .ok (.bl (if neg then !k else k))
theorem sr_inO {c : Str} {neg : Bool} {F : List D → Tr D} : SR2 g E (rInO (gd c g.K) neg (rSp (spF g.K g.T F) [] E)) (inO c neg F) := fun U H b x y dx dy Q d1 d2 w u q => by
  obtain ⟨fs, rfl, q1⟩ := al_isO q
  obtain ⟨a, da, fa, rfl, ea, _, _⟩ := den_obj d2
  rw [bd_bd] at q1
  refine st_inO ea ⟨g.p, g.c, U, _, b, .cons d2 (.cons d1 .nil), w, u, (al_bd.mp q1).mono (fun d b1 h1 v H1 dv w1 f1 => ?_) (fun _ _ _ z => z)⟩
  obtain ⟨k, rfl, q2⟩ := al_asBk h1
  exact ⟨k, den_bl dv, q2 _ H1 (.bl _) w1 f1⟩
def asS (d : D) : Tr D := match d with
  | .str x => .ok (.str x)
  | _ => .bad
def strO (c : Str) (F : List D → Tr D) (x : D) : Tr D := isO c x fun _ => bd (F [x]) asS
theorem srl_strO {c : Str} {F : List D → Tr D} : SRL g E (rStrO (gd c g.K) (spF g.K g.T F) E) (ul1 (strO c F)) := fun U H b xs dxs Q dn w u q => by
  obtain ⟨x, rfl, q1⟩ := al_ul1 q
  obtain ⟨v, rfl, d1⟩ := denL_1 dn
  obtain ⟨fs, rfl, q2⟩ := al_isO q1
  obtain ⟨a, da, fa, rfl, ea, _, _⟩ := den_obj d1
  refine st_strO ea ⟨g.p, g.c, U, _, b, .cons d1 .nil, w, u, (al_bd.mp q2).mono (fun d b1 h1 v H1 dv w1 f1 => ?_) (fun _ _ _ z => z)⟩
  cases d with
  | str z =>
    obtain ⟨rfl, l⟩ := den_str dv
    exact ⟨z, rfl, h1 _ H1 dv w1 f1⟩
  | _ => exact h1.elim
def lenO (c : Str) (F : List D → Tr D) (x : D) : Tr D := isO c x fun _ => bd (F [x]) fun d => match d with
  | .int i => if 0 ≤ i ∧ i < 2 ^ 62 then .ok (.int i) else .bad
  | _ => .bad
theorem srl_lenO {c : Str} {F : List D → Tr D} : SRL g E (rLenO (gd c g.K) (spF g.K g.T F) E) (ul1 (lenO c F)) := fun U H b xs dxs Q dn w u q => by
  obtain ⟨x, rfl, q1⟩ := al_ul1 q
  obtain ⟨v, rfl, d1⟩ := denL_1 dn
  obtain ⟨fs, rfl, q2⟩ := al_isO q1
  obtain ⟨a, da, fa, rfl, ea, _, _⟩ := den_obj d1
  refine st_lenO ea ⟨g.p, g.c, U, _, b, .cons d1 .nil, w, u, (al_bd.mp q2).mono (fun d b1 h1 v H1 dv w1 f1 => ?_) (fun _ _ _ z => z)⟩
  cases d with
  | int i =>
    cases den_int dv
    dsimp only at h1
    split at h1
    · rename_i z
      have ei : (i.toNat : Int) = i := Int.toNat_of_nonneg z.1
      refine ⟨i.toNat, by rw [ei], by omega, ?_⟩
      rw [ei]
      exact h1 _ H1 (.int i) w1 f1
    · exact h1.elim
  | _ => exact h1.elim
def ixO (c : Str) (F : List D → Tr D) (x y : D) : Tr D := isO c x fun _ => F [x, y]
theorem sr_ixO {c : Str} {F : List D → Tr D} : SR2 g E (rIxO (gd c g.K) (spF g.K g.T F) E) (ixO c F) := fun U H b x y dx dy Q d1 d2 w u q => by
  obtain ⟨fs, rfl, q1⟩ := al_isO q
  obtain ⟨a, da, fa, rfl, ea, _, _⟩ := den_obj d1
  exact st_ixO ea ⟨g.p, g.c, U, _, b, .cons d1 (.cons d2 .nil), w, u, q1⟩
/-- x(..), x an instance -/
theorem se_callI {c : Str} {F : List D → Tr D} {tf : TE} {mf : Tr D} {t : TA} {m : Tr (List D)} (hf : SE g E ε tf mf) (ha : SA g E ε t m) : SE g E ε (tCallI (gd c g.K) (spF g.K g.T F) E tf t) (bd mf fun o => isO c o fun _ => bd m fun ds => F (o :: ds)) := fun U σ H b Q R W u q =>
  hf.step R W u q fun v d H1 b1 d1 w1 f1 R1 u1 q1 => by
    obtain ⟨fs, rfl, q3⟩ := al_isO q1
    obtain ⟨a, dx, fvs, rfl, ea, _, _⟩ := den_obj d1
    refine ⟨a, rfl, ha.step R1 w1 u1 q3 fun vs ds H2 b2 d2 w2 f2 R2 u2 q2 => ?_⟩
    have d3 := d1.fr u1 f2
    obtain ⟨a', dx, fvs, e, ea, _, _⟩ := den_obj d3
    cases e
    exact ⟨⟨dx, fvs, ea⟩, g.p, g.c, U, _, b2, .cons d3 d2, w2, u2, q2.mono (fun _ _ h => h.fr (f1.trans f2)) (fun _ _ _ h => h)⟩
/-- C.m(..), static -/
theorem se_sm {C : Addr} {r : List V → Hp → VK → Prop} {f : List D → Tr D} {t : TA} {m : Tr (List D)} (hr : SRL g E r f) (ha : SA g E ε t m) : SE g E ε (tSm C r (tC (.ref C)) t) (bd m f) := fun U σ H b Q R W u q =>
  ⟨rfl, ha.step R W u q fun v d H1 b1 d1 w1 f1 R1 u1 q1 => hr U H1 b1 v d Q d1 w1 u1 (q1.mono (fun _ _ h => h.fr f1) (fun _ _ _ h => h))⟩
end
end Gp
namespace Gp
open PySem PySem.Spec PyProof.Rows L2 Gh
section
variable {g : Gw}
theorem kitAny2 {K : PySem.W.Frag} {n a c : String} {k : Bool} (h : ((kitB n a).bind fun x => (kitB n c).map fun y => x || y) = some k) : PySem.W.kitAny K (.type n) [.type a, .type c] = some k := by
  cases e1 : kitB n a with
  | none => rw [e1] at h; cases h
  | some x =>
    cases e2 : kitB n c with
    | none => rw [e1, e2] at h; cases h
    | some y =>
      rw [e1, e2] at h
      cases h
      cases x with
      | true => exact kitAny_cons (kit_ty e1) (fun z => by cases z) (fun _ => rfl)
      | false =>
        refine kitAny_cons (kit_ty e1) (fun _ => ?_) (fun z => by cases z)
        cases y with
        | true => exact kitAny_cons (kit_ty e2) (fun z => by cases z) (fun _ => rfl)
        | false => exact kitAny_cons (kit_ty e2) (fun _ => rfl) (fun z => by cases z)
def eqF0 (cs : List Str) (d : D) : Bool := match d with
  | .obj c _ => cs.contains c
  | d => (kdN d).isSome
theorem eqR_of {c : Str} {cs : List Str} (h1 : ∀ n ∈ (["NoneType", "bool", "int", "str", "list", "tuple", "dict"] : List String), PySem.W.notFirst g.K (gd c g.K) (.type n) = true) (h2 : ∀ c' ∈ cs, Cls g.K (gd c' g.K) ∧ InsT g.K (gd c' g.K) ∧ PySem.W.notFirst g.K (gd c g.K) (.ref (gd c' g.K)) = true) : EqR g c (eqF0 cs) := fun U H v d dn e => by
  have base : ∀ d, Den g U H v d → (kdN d).isSome = true → ∃ tb, TyX g.K H v tb ∧ PySem.W.notFirst g.K (gd c g.K) tb = true := fun d dn e => by
    cases q : kdN d with
    | none => rw [q] at e; cases e
    | some n =>
      refine ⟨_, kd_ty dn q, h1 n ?_⟩
      cases d <;> cases q <;> decide
  cases d with
  | obj c' fs =>
    obtain ⟨a, dx, fvs, rfl, ea, _, _⟩ := den_obj dn
    obtain ⟨z1, z2, z3⟩ := h2 c' (by simpa [eqF0] using e)
    exact ⟨_, z2.ty z1 ea, z3⟩
  | err c fs => exact base _ dn e
  | non => exact base _ dn e
  | bl b => exact base _ dn e
  | int i => exact base _ dn e
  | str x => exact base _ dn e
  | lst ds => exact base _ dn e
  | tup ds => exact base _ dn e
  | pen => exact base _ dn e
end
end Gp
namespace Gp
open PySem PySem.Spec PyProof.Rows L2 Gh
theorem fnOk_weak {P : Program} {w : World} {K : PySem.W.Frag} {mg : Str → Option Value} {base : Heap} {CX : CXT} {k : Nat} {f : Addr} {fd : FuncData} {ps : List Str} {sp sp' : Sp} (F : FnOk P w K mg base CX k f fd ps sp) (h : ∀ vs H Q E, sp' vs H Q E → sp vs H Q E) : FnOk P w K mg base CX k f fd ps sp' :=
  ⟨fun vs H Q E z => F.len vs H Q E (h _ _ _ _ z), fun A o s H a us vs Q E hr e0 hb r z => F.run A o s H a us vs Q E hr e0 hb r (h _ _ _ _ z)⟩
/-- the draw -/
def F_draw (x y : D) : Tr D := match x, y with
  | .pen, .int m => .draw m fun d => .ok (.int d)
  | _, _ => .bad
theorem F_draw_eq (m : Int) : F_draw .pen (.int m) = .draw m fun d => .ok (.int d) := rfl
theorem draw_of {K : PySem.W.Frag} {T : List (Addr × Str)} {vs : List V} {H : Hp} {Q : VK} {E : XK} (h : spF K T (ul2 F_draw) vs H Q E) : spDr vs H Q E := by
  obtain ⟨p, c, U, ds, b, dn, wd, u, al⟩ := h
  obtain ⟨x, y, rfl, al2⟩ := al_ul2 al
  obtain ⟨v, w, rfl, d1, d2⟩ := denL_2 dn
  unfold F_draw at al2
  split at al2
  · rename_i m
    cases d1
    cases d2
    obtain ⟨b', rfl, h0, h1, h2⟩ := al2
    refine ⟨p, c, b', m, rfl, h0, log_of h0 h1, wd.pen, fun d H' d0 d1 pn k => ?_⟩
    exact h2 d d0 d1 (.int d) H' (.int d) ⟨pn, tabs_keepP k wd.pen wd.tabs⟩ (keep_fr k)
  · exact al2.elim
end Gp

set_option Elab.async false
set_option linter.all false
set_option maxRecDepth 100000
set_option maxHeartbeats 4000000
/-! Ps: sums, greatest and least ones, sorted, all, any; enumerate, zip; texts. -/
namespace Gp
open PySem PySem.Spec PyProof.Rows L2 Gh
def intsD : List D → Option (List Int)
  | [] => some []
  | .int i :: r => (intsD r).map (i :: ·)
  | _ => none
def blsD : List D → Option (List Bool)
  | [] => some []
  | .bl i :: r => (blsD r).map (i :: ·)
  | _ => none
def strsD : List D → Option (List Str)
  | [] => some []
  | .str i :: r => (strsD r).map (i :: ·)
  | _ => none
theorem intsD_map (ns : List Int) : intsD (ns.map D.int) = some ns := by
  induction ns with
  | nil => rfl
  | cons n r ih => show (intsD (r.map D.int)).map (n :: ·) = _; rw [ih]; rfl
theorem blsD_map (ns : List Bool) : blsD (ns.map D.bl) = some ns := by
  induction ns with
  | nil => rfl
  | cons n r ih => show (blsD (r.map D.bl)).map (n :: ·) = _; rw [ih]; rfl
theorem strsD_map (ns : List Str) : strsD (ns.map D.str) = some ns := by
  induction ns with
  | nil => rfl
  | cons n r ih => show (strsD (r.map D.str)).map (n :: ·) = _; rw [ih]; rfl
section
variable {g : Gw} {U : Addr → Prop} {H : Hp} {b : Nat} {E : XK} {Q : VK} {ε : Env} {te : TE} {me : Tr D}
theorem ints_den : ∀ {vs : List V} {ds : List D} {ns : List Int}, DenL g U H vs ds → intsD ds = some ns → vs = ns.map V.int
  | _, _, _, .nil, h => by cases h; rfl
  | _, d :: ds, ns, .cons a r, h => by
    cases d with
    | int i =>
      cases q : intsD ds with
      | none => unfold intsD at h; rw [q] at h; cases h
      | some z =>
        unfold intsD at h
        rw [q] at h
        cases h
        rw [den_int a, ints_den r q]
        rfl
    | _ => cases h
theorem bls_den : ∀ {vs : List V} {ds : List D} {ns : List Bool}, DenL g U H vs ds → blsD ds = some ns → vs = ns.map V.bl
  | _, _, _, .nil, h => by cases h; rfl
  | _, d :: ds, ns, .cons a r, h => by
    cases d with
    | bl i =>
      cases q : blsD ds with
      | none => unfold blsD at h; rw [q] at h; cases h
      | some z =>
        unfold blsD at h
        rw [q] at h
        cases h
        rw [den_bl a, bls_den r q]
        rfl
    | _ => cases h
theorem strs_den : ∀ {vs : List V} {ds : List D} {ns : List Str}, DenL g U H vs ds → strsD ds = some ns → vs = ns.map V.str
  | _, _, _, .nil, h => by cases h; rfl
  | _, d :: ds, ns, .cons a r, h => by
    cases d with
    | str i =>
      cases q : strsD ds with
      | none => unfold strsD at h; rw [q] at h; cases h
      | some z =>
        unfold strsD at h
        rw [q] at h
        cases h
        rw [(den_str a).1, strs_den r q]
        rfl
    | _ => cases h
def lsI (x : D) (k : List Int → Tr D) : Tr D := match x with
  | .lst ds => match intsD ds with
    | some ns => k ns
    | none => .bad
  | _ => .bad
theorem al_lsI {P : D → Nat → Prop} {X : Str → Fs → Nat → Prop} {x : D} {k : List Int → Tr D} {v : V} (dn : Den g U H v x) (h : Al P X (lsI x k) b) : ∃ a ns, v = .ref a ∧ SqL g.K H a (ns.map V.int) ∧ x = .lst (ns.map D.int) ∧ ns.length ≤ sizeLine ∧ Al P X (k ns) b := by
  unfold lsI at h
  split at h
  · rename_i ds
    split at h
    · rename_i ns e
      obtain ⟨a, vs, rfl, hh, _, l, kk⟩ := den_lst dn
      have e2 := ints_den kk e
      subst e2
      refine ⟨a, ns, rfl, SqL.of hh, ?_, by rw [List.length_map] at l; exact l, h⟩
      congr 1
      clear kk l hh dn h
      induction ds generalizing ns with
      | nil => cases e; rfl
      | cons d r ih =>
        cases d with
        | int i =>
          unfold intsD at e
          cases q : intsD r with
          | none => rw [q] at e; cases e
          | some z =>
            rw [q] at e
            cases e
            rw [List.map_cons, ← ih z q]
        | _ => cases e
    · exact h.elim
  · exact h.elim
def sumD (x : D) : Tr D := lsI x fun ns => .ok (.int ns.sum)
theorem cr_sumK {X : Cx} {K : PySem.W.Frag} (h : X.K = K) (hc : X.calm = true) : CallR X (.builtin "sum") (rSum K) := h ▸ cr_sum hc
theorem srl_sum : SRL g E (rSum g.K) (ul1 sumD) := fun U H b xs dxs Q dn w u q => by
  obtain ⟨x, rfl, q1⟩ := al_ul1 q
  obtain ⟨v, rfl, d1⟩ := denL_1 dn
  obtain ⟨a, ns, rfl, h1, _, _, q2⟩ := al_lsI d1 q1
  exact ⟨a, ns, rfl, h1, okP.here q2 w (.int _)⟩
/-- the greatest one -/
def maxI : List Int → Int
  | [] => 0
  | [a] => a
  | a :: r => if maxI r ≤ a then a else maxI r
def minI : List Int → Int
  | [] => 0
  | [a] => a
  | a :: r => if a ≤ minI r then a else minI r
theorem maxI_ok : ∀ (ns : List Int), 0 < ns.length → maxI ns ∈ ns ∧ ∀ y ∈ ns, y ≤ maxI ns
  | [], h => by cases h
  | [a], _ => ⟨List.mem_singleton.mpr rfl, fun y hy => by rw [List.mem_singleton.mp hy]; exact Int.le_refl _⟩
  | a :: c :: r, _ => by
    obtain ⟨h1, h2⟩ := maxI_ok (c :: r) (Nat.succ_pos _)
    have e : maxI (a :: c :: r) = if maxI (c :: r) ≤ a then a else maxI (c :: r) := rfl
    rw [e]
    split
    · refine ⟨List.mem_cons_self, fun y hy => ?_⟩
      rcases List.mem_cons.mp hy with rfl | hy
      · exact Int.le_refl _
      · exact Int.le_trans (h2 y hy) (by assumption)
    · refine ⟨List.mem_cons_of_mem _ h1, fun y hy => ?_⟩
      rcases List.mem_cons.mp hy with rfl | hy
      · omega
      · exact h2 y hy
theorem minI_ok : ∀ (ns : List Int), 0 < ns.length → minI ns ∈ ns ∧ ∀ y ∈ ns, minI ns ≤ y
  | [], h => by cases h
  | [a], _ => ⟨List.mem_singleton.mpr rfl, fun y hy => by rw [List.mem_singleton.mp hy]; exact Int.le_refl _⟩
  | a :: c :: r, _ => by
    obtain ⟨h1, h2⟩ := minI_ok (c :: r) (Nat.succ_pos _)
    have e : minI (a :: c :: r) = if a ≤ minI (c :: r) then a else minI (c :: r) := rfl
    rw [e]
    split
    · refine ⟨List.mem_cons_self, fun y hy => ?_⟩
      rcases List.mem_cons.mp hy with rfl | hy
      · exact Int.le_refl _
      · exact Int.le_trans (by assumption) (h2 y hy)
    · refine ⟨List.mem_cons_of_mem _ h1, fun y hy => ?_⟩
      rcases List.mem_cons.mp hy with rfl | hy
      · omega
      · exact h2 y hy
def maxD (x : D) : Tr D := lsI x fun ns => if 0 < ns.length then .ok (.int (maxI ns)) else .bad
def minD (x : D) : Tr D := lsI x fun ns => if 0 < ns.length then .ok (.int (minI ns)) else .bad
theorem cr_maxK {X : Cx} {K : PySem.W.Frag} (h : X.K = K) (hc : X.calm = true) : CallR X (.builtin "max") (rMax K) := h ▸ cr_max hc
theorem cr_minK0 {X : Cx} {K : PySem.W.Frag} (h : X.K = K) (hc : X.calm = true) : CallR X (.builtin "min") (rMin K) := h ▸ cr_min hc
theorem srl_max : SRL g E (rMax g.K) (ul1 maxD) := fun U H b xs dxs Q dn w u q => by
  obtain ⟨x, rfl, q1⟩ := al_ul1 q
  obtain ⟨v, rfl, d1⟩ := denL_1 dn
  obtain ⟨a, ns, rfl, h1, _, _, q2⟩ := al_lsI d1 q1
  by_cases h0 : 0 < ns.length
  · rw [if_pos h0] at q2
    obtain ⟨z1, z2⟩ := maxI_ok ns h0
    refine ⟨a, ns, rfl, h1, h0, fun m hm hle => ?_⟩
    have e : m = maxI ns := Int.le_antisymm (z2 m hm) (hle _ z1)
    rw [e]
    exact okP.here q2 w (.int _)
  · rw [if_neg h0] at q2
    exact q2.elim
theorem srl_min : SRL g E (rMin g.K) (ul1 minD) := fun U H b xs dxs Q dn w u q => by
  obtain ⟨x, rfl, q1⟩ := al_ul1 q
  obtain ⟨v, rfl, d1⟩ := denL_1 dn
  obtain ⟨a, ns, rfl, h1, _, _, q2⟩ := al_lsI d1 q1
  by_cases h0 : 0 < ns.length
  · rw [if_pos h0] at q2
    obtain ⟨z1, z2⟩ := minI_ok ns h0
    refine ⟨a, ns, rfl, h1, h0, fun m hm hle => ?_⟩
    have e : m = minI ns := Int.le_antisymm (hle _ z1) (z2 m hm)
    rw [e]
    exact okP.here q2 w (.int _)
  · rw [if_neg h0] at q2
    exact q2.elim
/-- sorted -/
def insI (a : Int) : List Int → List Int
  | [] => [a]
  | b :: r => if a ≤ b then a :: b :: r else b :: insI a r
def sortI : List Int → List Int
  | [] => []
  | a :: r => insI a (sortI r)
theorem insI_perm (a : Int) : ∀ l : List Int, (insI a l).Perm (a :: l)
  | [] => .refl _
  | b :: r => by
    unfold insI
    split
    · exact .refl _
    · exact ((insI_perm a r).cons b).trans (.swap a b r)
theorem insI_sorted (a : Int) : ∀ l : List Int, l.Pairwise (· ≤ ·) → (insI a l).Pairwise (· ≤ ·)
  | [], _ => List.pairwise_singleton _ _
  | b :: r, h => by
    unfold insI
    split
    · rename_i hab
      refine List.pairwise_cons.mpr ⟨fun y hy => ?_, h⟩
      rcases List.mem_cons.mp hy with rfl | hy
      · exact hab
      · exact Int.le_trans hab ((List.pairwise_cons.mp h).1 y hy)
    · rename_i hab
      refine List.pairwise_cons.mpr ⟨fun y hy => ?_, insI_sorted a r (List.pairwise_cons.mp h).2⟩
      rcases List.mem_cons.mp ((insI_perm a r).mem_iff.mp hy) with rfl | hy
      · omega
      · exact (List.pairwise_cons.mp h).1 y hy
theorem sortI_perm : ∀ l : List Int, (sortI l).Perm l
  | [] => .refl _
  | a :: r => (insI_perm a _).trans ((sortI_perm r).cons a)
theorem sortI_sorted : ∀ l : List Int, (sortI l).Pairwise (· ≤ ·)
  | [] => .nil
  | a :: r => insI_sorted a _ (sortI_sorted r)
theorem sorted_eq : ∀ {l m : List Int}, l.Perm m → l.Pairwise (· ≤ ·) → m.Pairwise (· ≤ ·) → l = m
  | [], m, p, _, _ => (List.nil_perm.mp p).symm
  | a :: r, [], p, _, _ => by cases List.perm_nil.mp p
  | a :: r, c :: s, p, h1, h2 => by
    have e : a = c := by
      have m1 : c ∈ a :: r := p.mem_iff.mpr List.mem_cons_self
      have m2 : a ∈ c :: s := p.mem_iff.mp List.mem_cons_self
      rcases List.mem_cons.mp m1 with e | e
      · exact e.symm
      · rcases List.mem_cons.mp m2 with e2 | e2
        · exact e2
        · exact Int.le_antisymm ((List.pairwise_cons.mp h1).1 c e) ((List.pairwise_cons.mp h2).1 a e2)
    subst e
    rw [sorted_eq (List.perm_cons a |>.mp p) (List.pairwise_cons.mp h1).2 (List.pairwise_cons.mp h2).2]
def sortD (x : D) : Tr D := lsI x fun ns => .ok (.lst ((sortI ns).map .int))
theorem cr_sortedK {X : Cx} {K : PySem.W.Frag} (h : X.K = K) : CallR X (.builtin "sorted") (rSortedI K) := h ▸ cr_sortedI
theorem srl_sorted : SRL g E (rSortedI g.K) (ul1 sortD) := fun U H b xs dxs Q dn w u q => by
  obtain ⟨x, rfl, q1⟩ := al_ul1 q
  obtain ⟨v, rfl, d1⟩ := denL_1 dn
  obtain ⟨a, ns, rfl, h1, _, l, q2⟩ := al_lsI d1 q1
  refine ⟨a, ns, rfl, h1, fun ns' p pm srt np => ?_⟩
  have e : ns' = sortI ns := sorted_eq (pm.trans (sortI_perm ns).symm) srt (sortI_sorted ns)
  subst e
  refine new_lst q2 w u ?_ (DenL.ints _) p np
  rw [List.length_map, (sortI_perm ns).length_eq]
  exact l
/-- all, any -/
def lsB (x : D) (k : List Bool → Tr D) : Tr D := match x with
  | .lst ds => match blsD ds with
    | some ns => k ns
    | none => .bad
  | _ => .bad
def allD (x : D) : Tr D := lsB x fun ns => .ok (.bl (ns.all id))
def anyD (x : D) : Tr D := lsB x fun ns => .ok (.bl (ns.any id))
theorem cr_allK {X : Cx} {K : PySem.W.Frag} (h : X.K = K) (hc : X.calm = true) : CallR X (.builtin "all") (rAll K) := h ▸ cr_all hc
theorem cr_anyK {X : Cx} {K : PySem.W.Frag} (h : X.K = K) (hc : X.calm = true) : CallR X (.builtin "any") (rAny K) := h ▸ cr_any hc
theorem al_lsB {P : D → Nat → Prop} {X : Str → Fs → Nat → Prop} {x : D} {k : List Bool → Tr D} {v : V} (dn : Den g U H v x) (h : Al P X (lsB x k) b) : ∃ a ns, v = .ref a ∧ SqL g.K H a (ns.map V.bl) ∧ Al P X (k ns) b := by
  unfold lsB at h
  split at h
  · split at h
    · rename_i ns e
      obtain ⟨a, vs, rfl, hh, _, l, kk⟩ := den_lst dn
      have e2 := bls_den kk e
      subst e2
      exact ⟨a, ns, rfl, SqL.of hh, h⟩
    · exact h.elim
  · exact h.elim
theorem srl_all : SRL g E (rAll g.K) (ul1 allD) := fun U H b xs dxs Q dn w u q => by
  obtain ⟨x, rfl, q1⟩ := al_ul1 q
  obtain ⟨v, rfl, d1⟩ := denL_1 dn
  obtain ⟨a, ns, rfl, h1, q2⟩ := al_lsB d1 q1
  exact ⟨a, ns, rfl, h1, okP.here q2 w (.bl _)⟩
theorem srl_any : SRL g E (rAny g.K) (ul1 anyD) := fun U H b xs dxs Q dn w u q => by
  obtain ⟨x, rfl, q1⟩ := al_ul1 q
  obtain ⟨v, rfl, d1⟩ := denL_1 dn
  obtain ⟨a, ns, rfl, h1, q2⟩ := al_lsB d1 q1
  exact ⟨a, ns, rfl, h1, okP.here q2 w (.bl _)⟩
end
end Gp

set_option Elab.async false
set_option linter.all false
set_option maxRecDepth 100000
set_option maxHeartbeats 4000000
/-! Su: super().m(..) as a statement of a method; defs of classes that say super(). -/
namespace Gp
open PySem PySem.Spec PyProof.Rows L2 Gh
/-- what stands around a super() -/
structure SupX (X : Cx) (D f cda cc : Addr) (ar : Str) : Prop where
  fu : X.env.func = some f
  co : X.env.code = .ref cda
  lkf : ∃ oc od fd osl a, X.K.lookup f = some ⟨oc, od, .func fd, osl⟩ ∧ (fd.params.posonlyargs ++ fd.params.args).head? = some a ∧ a.arg = ar
  lkc : ∃ ccl cdd vs ccs file tf, X.K.lookup cda = some ⟨ccl, cdd, .fields vs, ccs⟩ ∧ vs[2]? = some (.str file tf) ∧ ((X.prog.main.file : Str) == file) = true
  top : (X.prog.main.scope.names.lookup ("super" : Str)).isSome = false
  ks : X.env.kindOf "super" = some .globalImplicit
  kc : X.env.kindOf "__class__" = some .free
  cell : X.env.cells.lookup ("__class__" : Str) = some cc
  lkl : ∃ cl cld csl, X.K.lookup cc = some ⟨cl, cld, .cell (some (.ref D)), csl⟩
  cD : ∃ cd, PySem.W.clsIn X.K D = some cd
  mg : X.mg "super" = none
  st : PySem.W.nsIn X.K cStatics "thirdparty.any" = some none
  n0 : X.N[0]? = some ar
  ka : X.env.kindOf ar = some .local
/-- what the class of the instance says of it -/
structure SupC (K : PySem.W.Frag) (C D : Addr) (m : Str) (f2 : Addr) : Prop where
  sub : PySem.W.mroIn K C (.ref D) = some true
  sup : PySem.W.ks_superIn K C D m = some (some (.ref f2))
  ty : PySem.W.typeIn K (.ref f2) = some (.type "function")
  fn : PySem.W.fnIn K f2 = true
theorem sup_run {X : Cx} {D f cda cc f2 : Addr} {ar m : Str} {body : List Stmt} {p0 p1 apos pos epos : Pos} {e : Expr} {es : List Expr} {ta : TA} {CX : CXT} {k : Nat} {dvs : List V} {sp : Sp} {E : XK} {pl : Sem Bool} {pins : List (Addr × Obj)} {s : Shared} {σ : L2.St} {H : Hp} {Dn : L2.St → Hp → Prop}
    (S : SupX X D f cda cc ar) (hm : (m == ("__class__" : Str)) = false) (ha : PA X (e :: es) ta) (G : PromOX X CX k f2 dvs sp) (hr : Room k X.A) (hx : Passes CX X E) (I : Inv X pins σ H s)
    (h : ∃ a C dx fs, σ[0]? = some (some (.ref a)) ∧ H a = some (.ins C dx fs) ∧ SupC X.K C D m f2 ∧ ta σ H fun vs H1 => sp (.ref a :: (vs ++ dvs)) H1 (fun _ H2 => Dn σ H2) E)
    (hst : starEach (e :: es) X.env = (false, eval e X.env) :: starEach es X.env := by rfl) (hpl : (backTo pos (starEach es X.env)).any (·.1) = false := by rfl)
    (he : eval (.Call (.Attribute (.Call (.Name "super" p0) [] [] p1) m apos) (e :: es) [] pos) X.env = (do
      let ov ← attributeBase (.Call (.Name "super" p0) [] [] p1) m X.env (eval (.Call (.Name "super" p0) [] [] p1) X.env)
      standAt apos.atName
      let (f, first) ← holding [ov] (getMethod ov m pl)
      callWith pos f first (backTo pos (starEach (e :: es) X.env)) []) := by rfl)
    (hsw : swapsWith (.Call (.Attribute (.Call (.Name "super" p0) [] [] p1) m apos) (e :: es) [] pos) none epos.line X.env = pure false := by rfl) :
    _root_.PySem.wpAt (model X.prog X.w) X.A (.func body X.env) (exec (.Expr (.Call (.Attribute (.Call (.Name "super" p0) [] [] p1) m apos) (e :: es) [] pos) epos) X.env) (fun fl s' => fl = .next ∧ ∃ H', Inv X pins σ H' s' ∧ Dn σ H') X.xe s := by
  obtain ⟨a, C, dx, fs, h0, hi, sc, q⟩ := h
  have KX := I.kIn
  obtain ⟨oc, od, fd, osl, ag, lkf, hp, rfl⟩ := S.lkf
  obtain ⟨ccl, cdd, vs, ccs, file, tf, lkc, hvs, hfile⟩ := S.lkc
  obtain ⟨cl, cld, csl, lkl⟩ := S.lkl
  obtain ⟨cdD, hD⟩ := S.cD
  obtain ⟨ox, od', J⟩ := ins_look I hi
  obtain ⟨oD, hD1, hD2⟩ : ∃ oD, s.heap.get? D = some oD ∧ oD.data = .cls cdD := by
    unfold PySem.W.clsIn at hD
    split at hD
    · rename_i ho
      cases hD
      exact ⟨_, KX _ _ ho, rfl⟩
    · cases hD
  have nc : ∀ c, ox.data ≠ .cls c := fun c e => by
    have := J.no
    unfold PySem.W.notCls at this
    rw [e] at this
    exact Bool.noConfusion this
  refine ks_wpAt_Expr_any (ks_wpAt_MethodCall (pl := pl) (ks_wpAt_super_base S.ks S.kc hm S.fu (KX _ _ lkf) rfl hp S.co (KX _ _ lkc) rfl hvs hfile S.top ?_) he) I.quiet hsw
  obtain ⟨mb, b1, b2⟩ := I.mod.blt
  refine PySem.W.ks_loadName_global I.ok.kind S.ks (Calls.loadGlobal_builtin (by rw [I.ok.glob]; exact I.mod.glob.keeps I.bk) S.mg (by rw [I.ok.blt]; exact b1.keeps I.bk) ((b2 "super" (by decide)).trans (show bootBuiltins "super" = some (.type "super") by decide +kernel)) ⟨rfl, ?_⟩)
  refine wpAny_loadName_free I.ok.kind S.kc S.cell ⟨_, KX _ _ lkl, rfl⟩ ?_
  obtain ⟨mm, hn, hl⟩ := I.loc
  obtain ⟨u, ru, hu⟩ := hl 0 ag.arg (.ref a) S.n0 h0 (.inl S.ka)
  have eu : u = Value.ref a := ru
  subst eu
  have hv : mm ag.arg = some (.ref a) := by
    rcases hu with z | ⟨z, _⟩
    · exact z.2
    · rcases z with z | z <;> rw [S.ka] at z <;> cases z
  refine wpAny_loadName_local I.ok.kind S.ka hn hv ?_
  obtain ⟨hh, g, d, t, os⟩ := s
  refine ks_wpAny_isType_cls hD1 hD2 ⟨rfl, ?_⟩
  refine ks_wpAny_call_super hD1 hD2 J.at_ J.cls nc (PySem.W.looks_mroIn KX sc.sub) (fun h1 e1 k1 => ?_)
  cases hcC : PySem.W.clsIn X.K C with
  | none =>
    have z := sc.sup
    unfold PySem.W.ks_superIn at z
    rw [hcC] at z
    cases z
  | some cdC =>
    have K1 : X.K.In h1 := KX.keeps k1
    obtain ⟨of, hof, hofc⟩ : ∃ of, h1.get? f2 = some of ∧ of.cls = .type "function" := by
      have ht' : (X.K.lookup f2).map (·.cls) = some (.type "function") := sc.ty
      cases z : X.K.lookup f2 with
      | none => rw [z] at ht'; cases ht'
      | some of => rw [z] at ht'; exact ⟨of, K1 _ _ z, Option.some.inj ht'⟩
    have hsup := sc.sup
    unfold PySem.W.ks_superIn at hsup
    rw [hcC] at hsup
    refine ks_wpAny_getMethod_super e1 (PySem.W.looks_opaque K1 S.st) (l₀ := cdC.mro) ?_ rfl K1 hsup hof hofc (PySem.W.ks_ne KX J hcC) hm ?_
    · exact fun A Q E s k q => wpAny_bind ((PySem.W.looks_clsIn K1 hcC) A _ E s k (wpAny_pure q))
    · have k2 : ∀ b o, hh.get? b = some o → (h1.push { cls := .type "method", data := .fields #[.ref f2, .ref a] }).get? b = some o := fun b o eb => Heap.get?_push_of_some _ (k1 b o eb)
      have I2 : Inv X pins σ H ⟨h1.push { cls := .type "method", data := .fields #[.ref f2, .ref a] }, g, d, t + 1, os⟩ := I.kept (t' := t + 1) k2
      have hsz : hh.objs.size ≤ h1.objs.size := by
        have := Heap.lt_size e1
        exact Nat.le_of_lt this
      have fp := I.fpOk (H' := H) (b := h1.objs.size) hsz (I.hok.fresh hsz)
      have hq1 : (h1.push { cls := .type "method", data := .fields #[.ref f2, .ref a] }).get? h1.objs.size = some (PySem.W.methodObj (.ref f2) (.ref a)) := Heap.get?_push_size _ rfl
      have I3 : Inv X ((h1.objs.size, PySem.W.methodObj (.ref f2) (.ref a)) :: pins) σ H ⟨h1.push { cls := .type "method", data := .fields #[.ref f2, .ref a] }, g, d, t + 1, os⟩ := I2.pins_of fun p hp => by
        rcases List.mem_cons.mp hp with rfl | hp
        · exact ⟨hq1, fp.1, fp.2.1, fp.2.2.1, fun v z => by cases z⟩
        · exact I2.pin p (List.mem_append_right _ hp)
      show wpAny _ _ (callWith pos (.ref h1.objs.size) [] (backTo pos (starEach (e :: es) X.env)) []) _ _ _
      rw [hst]
      refine PySem.W.callWith_of (P := PySem.W.MethP X.K h1.objs.size f2 (.ref a)) (by show ((false || (backTo pos (starEach es X.env)).any (·.1)) || false) = false; rw [hpl]; rfl) (PySem.W.keeps_M sc.fn) (PySem.Calls.evalArgs_plain ?_)
      show wpAny _ _ (spliced (backTo pos ((false, eval e X.env) :: starEach es X.env))) _ _ _
      rw [← hst]
      refine thn (ha.run pos _ _ σ H _ I3 q) fun us s3 ⟨ws, H1, I4, rv, q2⟩ => ?_
      have pq := (I4.pin (h1.objs.size, PySem.W.methodObj (.ref f2) (.ref a)) (List.mem_append_right _ List.mem_cons_self)).1
      refine ⟨⟨pq, I4.kIn⟩, ?_⟩
      have I5 : Inv X pins σ H1 s3 := I4.pins_of fun p hp => I4.pin p (List.mem_append_right _ (List.mem_cons_of_mem _ hp))
      obtain ⟨fd2, ps2, ds2, G2, b2', hd2⟩ := G
      have r2 : Vals (.ref a :: (ws ++ dvs)) (.ref a :: (us ++ ds2)) := .cons rfl (rv.append hd2)
      have hl2 : ((Value.ref a :: us) ++ ds2).length = ps2.length := by
        rw [← G2.len _ _ _ _ q2]
        exact r2.length.symm
      refine wpAny_call (ks_codeAny_call_bound pq (codeAny_mono (G2.run X.A X.stack s3 H1 ⟨.ref a :: us, []⟩ (.ref a :: (us ++ ds2)) (.ref a :: (ws ++ dvs)) _ E hr I5.env0 (b2' s3 (.ref a :: us) I5.kIn hl2) r2 q2) fun r s' hq => ?_))
      cases r with
      | error er => exact hx pins σ H1 s3 er s' I5 hq
      | ok fl =>
        cases fl with
        | ret u =>
          obtain ⟨v, H', I6, _, q3⟩ := I5.after hq
          exact ⟨rfl, H', I6, q3⟩
        | next => exact False.elim hq
        | brk => exact False.elim hq
        | cont => exact False.elim hq
end Gp

set_option Elab.async false
set_option linter.all false
set_option maxRecDepth 100000
set_option maxHeartbeats 4000000
/-! Sv: defs of classes that say super(): as they stand, their promise by their body, their binding. -/
namespace Gp
open PySem PySem.Spec PyProof.Rows L2 Gh
theorem execs_app (env : PySem.Env) (rest : List Stmt) : ∀ pre : List Stmt, execs (pre ++ rest) env = (execs pre env >>= fun f => match f with
  | .next => execs rest env
  | f => pure f)
  | [] => by
    show execs rest env = (pure Flow.next >>= _)
    rw [pure_bind]
  | st :: pre => by
    show execs (st :: (pre ++ rest)) env = _
    rw [execs_cons, execs_cons, bind_assoc]
    congr 1
    funext f
    cases f with
    | next => exact execs_app env rest pre
    | _ => rw [pure_bind]
theorem wpAt_app {M : Model} {A : Around} {c : Code} {env : PySem.Env} {pre rest : List Stmt} {Q : Flow → Shared → Prop} {E : Value → Shared → Prop} {s : Shared}
    (h : wpAny M A (execs pre env) (fun f s' => match f with
      | .next => _root_.PySem.wpAt M A c (execs rest env) Q E s'
      | f => Q f s') E s) : _root_.PySem.wpAt M A c (execs (pre ++ rest) env) Q E s := by
  rw [execs_app]
  refine _root_.PySem.wpAt_bind (_root_.PySem.wpAt_of_wpAny (wpAny_mono h (fun f s' hf => ?_) fun _ _ z => z))
  cases f with
  | next => exact hf
  | _ => exact _root_.PySem.wpAt_of_wpAny (wpAny_pure hf)
/-- a method that says super(), as it stands -/
structure SupF (K : PySem.W.Frag) (x qual : Str) (params : Arguments) (body : List Stmt) (scope : Scope) (dvs : List V) (f D : Addr) (file : Str) (fd : FuncData) : Prop where
  ex : ∃ (oc : Value) (od : Option Addr) (dV kV doc pm : Value) (an : Option Addr) (cda : Addr) (ct : Value) (osl : Array (Option Value)) (cc : Addr),
    fd = PySem.W.fnX x qual params body scope [("__class__", cc)] dV kV doc pm an (.ref cda) ct ∧ K.lookup f = some ⟨oc, od, .func fd, osl⟩ ∧ PySem.W.codeIn K (.ref cda) qual = true ∧ DflV K dV dvs ∧
    (∃ cl cld csl, K.lookup cc = some ⟨cl, cld, .cell (some (.ref D)), csl⟩) ∧ ∃ ccl cdd vs ccs tf, K.lookup cda = some ⟨ccl, cdd, .fields vs, ccs⟩ ∧ vs[2]? = some (.str file tf)
  kp : PySem.W.keepIn K (.ref f) = true
/-- what else is wanted around -/
structure SupT (K : PySem.W.Frag) (mg : Str → Option Value) (D : Addr) : Prop where
  cD : ∃ cd, PySem.W.clsIn K D = some cd
  mg : mg "super" = none
  st : PySem.W.nsIn K cStatics "thirdparty.any" = some none
section
variable {P : Program} {w : World} {K : PySem.W.Frag} {mg : Str → Option Value} {base : Heap} {CX : CXT} {k : Nat} {x qual file m ar : Str} {params : Arguments} {body : List Stmt} {scope : Scope} {dvs : List V} {f D : Addr} {fd : FuncData} {N ps : List Str} {sp : Sp}
/-- the context of its body -/
abbrev scx (CX : CXT) (P : Program) (w : World) (K : PySem.W.Frag) (mg : Str → Option Value) (base : Heap) (N : List Str) (x qual : Str) (params : Arguments) (body : List Stmt) (scope : Scope) (cc cda f : Addr) (A : Around) (outer : List PySem.Env) (s : Shared) (H : Hp) (E : XK) : Cx :=
  NdefX.ncx CX P w K mg base N ⟨x, qual, params, body, scope, [("__class__", cc)], cda⟩ f A outer s H E
theorem SupF.ok {pre post : List Stmt} {p0 p1 apos pos epos : Pos} {e : Expr} {es : List Expr} (eb : body = pre ++ .Expr (.Call (.Attribute (.Call (.Name "super" p0) [] [] p1) m apos) (e :: es) [] pos) epos :: post) (F : SupF K x qual params body scope dvs f D file fd) (T : SupT K mg D) (S : NdefX.NScope N ps ["__class__"] scope)
    (len : ∀ vs H Q E, sp vs H Q E → vs.length = ps.length) (hfile : ((P.main.file : Str) == file) = true) (htop : (P.main.scope.names.lookup ("super" : Str)).isSome = false) (hm : (m == ("__class__" : Str)) = false) (hks : scope.names.lookup ("super" : Str) = some .globalImplicit)
    (har : ((params.posonlyargs ++ params.args).head?).map (·.arg) = some ar) (hn0 : N[0]? = some ar) (hka : scope.names.lookup ar = some .local)
    (hbody : ∀ (cc cda : Addr) (A : Around) (outer : List PySem.Env) (s : Shared) (H : Hp) (vs : List V) (Q : VK) (E : XK), Room k (scx CX P w K mg base N x qual params body scope cc cda f A outer s H E).A → sp vs H Q E →
      ∃ t1 ta t2 CX2 k2 f2 dvs2 sp2 E2, PSs (scx CX P w K mg base N x qual params body scope cc cda f A outer s H E) pre t1 ∧
        PA (scx CX P w K mg base N x qual params body scope cc cda f A outer s H E) (e :: es) ta ∧
        PSs (scx CX P w K mg base N x qual params body scope cc cda f A outer s H E) post t2 ∧
        PromO P w K mg base CX2 k2 f2 dvs2 sp2 ∧ k2 ≤ k ∧ Passes CX2 (scx CX P w K mg base N x qual params body scope cc cda f A outer s H E) E2 ∧
        t1 { nx := fun σ1 H1 => ∃ a C dx fs, σ1[0]? = some (some (.ref a)) ∧ H1 a = some (.ins C dx fs) ∧ SupC K C D m f2 ∧ ta σ1 H1 fun us H2 => sp2 (.ref a :: (us ++ dvs2)) H2 (fun _ H3 => t2 { nx := fun _ H' => Q .non H', rt := Q } σ1 H3) E2, rt := Q } (L2.start N vs) H)
    (hst : ∀ env : PySem.Env, starEach (e :: es) env = (false, eval e env) :: starEach es env := by intro _; rfl) (hpl : ∀ env : PySem.Env, (backTo pos (starEach es env)).any (·.1) = false := by intro _; rfl)
    (pl : PySem.Env → Sem Bool)
    (he : ∀ env : PySem.Env, eval (.Call (.Attribute (.Call (.Name "super" p0) [] [] p1) m apos) (e :: es) [] pos) env = (do
      let ov ← attributeBase (.Call (.Name "super" p0) [] [] p1) m env (eval (.Call (.Name "super" p0) [] [] p1) env)
      standAt apos.atName
      let (f, first) ← holding [ov] (getMethod ov m (pl env))
      callWith pos f first (backTo pos (starEach (e :: es) env)) []))
    (hsw : ∀ env : PySem.Env, swapsWith (.Call (.Attribute (.Call (.Name "super" p0) [] [] p1) m apos) (e :: es) [] pos) none epos.line env = pure false := by intro _; rfl) :
    FnOk P w K mg base CX (k + 1) f fd ps sp := by
  obtain ⟨oc, od, dV, kV, doc, pm, an, cda, ct, osl, cc, rfl, lk, hcd, _, ⟨cl, cld, csl, lkl⟩, ccl, cdd, vsc, ccs, tf, lkc, hvs⟩ := F.ex
  refine ⟨len, fun A outer s H args us vs Q E hr e0 hb r hsp => ?_⟩
  have KX : K.In s.heap := e0.mod.kin.keeps fun b o e => (e0.bs b o e).1
  have lim : s.heap.NoLimit := e0.mod.nolimit.keeps fun b o e => (e0.bs b o e).1
  have hl := len _ _ _ _ hsp
  have hpl2 : ps.length + 1 ≤ N.length := by
    have q := congrArg List.length S.pre
    rw [List.length_take, List.length_append] at q
    have : (["__class__"] : List Str).length = 1 := rfl
    omega
  refine ks_codeAny_call_defAt hr.depth (KX _ _ lk) rfl lim (PySem.W.codeRec_of KX hcd) rfl hb S.nocell (fun ⟨n, _⟩ hy => S.par n (List.of_mem_zip hy).1) (fun h₁ hns kp => ?_) S.co S.gen S.kind
  obtain ⟨t1, ta, t2, CX2, k2, f2, dvs2, sp2, E2, h1, h2, h3, G, hk2, hx2, hq⟩ := hbody cc cda A outer s H vs Q E (hr.deeper _) hsp
  have C : NdefX.CellsAt [(("__class__" : Str), cc)] ["__class__"] [none] s.heap H := by
    have hc : s.heap.get? cc = some ⟨cl, cld, .cell (some (.ref D)), csl⟩ := KX _ _ lkl
    have hH : H cc = none := by
      have hb : base.get? cc = some ⟨cl, cld, .cell (some (.ref D)), csl⟩ := e0.mod.kin _ _ lkl
      exact (e0.bs _ _ hb).2
    have one : ∀ (y : Str) (c : Addr), ([(("__class__" : Str), cc)] : List (Str × Addr)).lookup y = some c → y = "__class__" ∧ c = cc := fun y c hy => by
      rcases look_cons hy with ⟨e1, e2⟩ | z
      · exact ⟨e1, e2⟩
      · cases z
    refine ⟨rfl, fun y c hy => ?_, fun x y c hx hy => (one x c hx).1.trans (one y c hy).1.symm, fun i y hy => ?_⟩
    · obtain ⟨_, rfl⟩ := one y c hy
      exact ⟨hH, _, _, hc, rfl⟩
    · have e2 : y = "__class__" := by
        cases i with
        | zero => cases hy; rfl
        | succ i => cases hy
      subst e2
      refine ⟨cc, rfl, fun v hv => ?_⟩
      cases i with
      | zero => cases hv
      | succ i => cases hv
  have I := NdefX.inv_startN (CX := CX) (P := P) (w := w) (K := K) (mg := mg) (base := base) (N := N) (F := ⟨x, qual, params, body, scope, [("__class__", cc)], cda⟩) (f := f) (E := E) (tk := s.toks + (ps.zip us).length) S hr.hd e0 hl r C hns kp
  have est : NdefX.startF N vs [none] = L2.start N vs := by
    unfold NdefX.startF L2.start
    congr 1
    rw [List.length_singleton, ← List.singleton_append]
    have : N.length - vs.length = (N.length - vs.length - 1) + 1 := by omega
    rw [this, List.replicate_succ]
    rfl
  rw [est] at I
  have SX : SupX (scx CX P w K mg base N x qual params body scope cc cda f A outer s H E) D f cda cc ar := by
    refine ⟨rfl, rfl, ?_, ⟨ccl, cdd, vsc, ccs, file, tf, lkc, hvs, hfile⟩, htop, hks, S.frk _ (List.mem_singleton.mpr rfl), rfl, ⟨cl, cld, csl, lkl⟩, T.cD, T.mg, T.st, hn0, hka⟩
    cases z : (params.posonlyargs ++ params.args).head? with
    | none => rw [z] at har; cases har
    | some a =>
      rw [z] at har
      exact ⟨_, _, _, _, a, lk, z, Option.some.inj har⟩
  have fin : ∀ {s' : Shared} {σ' : L2.St} {H' : Hp} {v : V} {u : Value}, Inv (scx CX P w K mg base N x qual params body scope cc cda f A outer s H E) [] σ' H' s' → L2.RelV v u → Q v H' → CE outer P w H s Q u s' :=
    fun {s' σ' H' v u} J rv q => ⟨v, H', J.os, J.bare, J.base, J.hok, rv, q⟩
  have eb2 : execs body (scx CX P w K mg base N x qual params body scope cc cda f A outer s H E).env = execs (pre ++ .Expr (.Call (.Attribute (.Call (.Name "super" p0) [] [] p1) m apos) (e :: es) [] pos) epos :: post) (scx CX P w K mg base N x qual params body scope cc cda f A outer s H E).env := by rw [← eb]
  show _root_.PySem.wpAt _ _ _ (execs body _) _ _ _
  refine eb2 ▸ wpAt_app (wpAny_mono (h1.run [] _ (L2.start N vs) H _ I hq) (fun fl s' hs => ?_) fun _ _ z => z)
  cases fl with
  | ret u =>
    obtain ⟨v, σ', H', J, rv, q⟩ := hs
    exact fin J rv q
  | brk =>
    obtain ⟨_, _, _, q⟩ := hs
    exact False.elim q
  | cont =>
    obtain ⟨_, _, _, q⟩ := hs
    exact False.elim q
  | next =>
    obtain ⟨σ', H', J, q⟩ := hs
    refine ks_wpAt_execs_cons (_root_.PySem.wpAt_mono (sup_run (pl := pl _) SX hm h2 G ((hr.deeper _).mono hk2) hx2 J q (hst _) (hpl _) (he _) (hsw _)) (fun fl2 s2 hq2 => ?_) fun _ _ z => z)
    obtain ⟨rfl, H2, J2, q2⟩ := hq2
    refine _root_.PySem.wpAt_of_wpAny (wpAny_mono (h3.run [] s2 σ' H2 _ J2 q2) (fun fl s' hs => ?_) fun _ _ z => z)
    cases fl with
    | ret u =>
      obtain ⟨v, σ', H', J, rv, q⟩ := hs
      exact fin J rv q
    | next =>
      obtain ⟨σ', H', J, q⟩ := hs
      exact fin (v := V.non) (u := Value.none) J rfl q
    | brk =>
      obtain ⟨_, _, _, q⟩ := hs
      exact False.elim q
    | cont =>
      obtain ⟨_, _, _, q⟩ := hs
      exact False.elim q
end
end Gp

set_option Elab.async false
set_option linter.all false
set_option maxRecDepth 100000
set_option maxHeartbeats 4000000
/-! Pl: trees tried; lambdas handed to a def that calls them in a try; errors held as data. -/
namespace Gp
open PySem PySem.Spec PyProof.Rows L2 Gh
def tryT {α β : Type} : Tr α → (α → Tr β) → (Str → Fs → Tr β) → Tr β
  | .ok a, k, _ => k a
  | .ex c fs, _, x => x c fs
  | .bad, _, _ => .bad
  | .draw m f, k, x => .draw m fun d => tryT (f d) k x
theorem tryT_ok {α β : Type} (a : α) (k : α → Tr β) (x : Str → Fs → Tr β) : tryT (.ok a) k x = k a := rfl
theorem tryT_ex {α β : Type} (c : Str) (fs : Fs) (k : α → Tr β) (x : Str → Fs → Tr β) : tryT (.ex c fs) k x = x c fs := rfl
theorem tryT_bad {α β : Type} (k : α → Tr β) (x : Str → Fs → Tr β) : tryT (.bad : Tr α) k x = .bad := rfl
theorem al_try {α β : Type} {P : β → Nat → Prop} {E : Str → Fs → Nat → Prop} {m : Tr α} {k : α → Tr β} {x : Str → Fs → Tr β} {b : Nat} : Al P E (tryT m k x) b ↔ Al (fun a b1 => Al P E (k a) b1) (fun c fs b1 => Al P E (x c fs) b1) m b := by
  induction m generalizing b with
  | draw m f ih =>
    constructor
    · rintro ⟨b', e, h1, h2, h3⟩
      exact ⟨b', e, h1, h2, fun d d0 d1 => (ih d).mp (h3 d d0 d1)⟩
    · rintro ⟨b', e, h1, h2, h3⟩
      exact ⟨b', e, h1, h2, fun d d0 d1 => (ih d).mpr (h3 d d0 d1)⟩
  | _ => exact Iff.rfl
/-- what a def makes of a lambda that is read as a tree -/
def THd (K : PySem.W.Frag) (T : List (Addr × Str)) (FH : Tr D → Tr D) : (XK → Hp → VK → Prop) → Hp → VK → Prop := fun tl H Q => ∃ p c U b m, Wd ⟨K, T, p, c⟩ H b ∧ UOk ⟨K, T, p, c⟩ U H ∧
  (∀ (E : XK) H' b' Q', Fr H H' p → Wd ⟨K, T, p, c⟩ H' b' → Al (okP ⟨K, T, p, c⟩ U H' Q') (exP ⟨K, T, p, c⟩ U E H') m b' → tl E H' Q') ∧ Al (okP ⟨K, T, p, c⟩ U H Q) (fun _ _ _ => False) (FH m) b
section
variable {g : Gw} {Mt U0 U U' : Addr → Prop} {H0 H H' H1 H2 : Hp} {b b1 : Nat} {σ : L2.St} {ε ε' : Env} {E : XK} {W L W' : Type}
variable {env : W → Env} {envL : L → Env} {env' : W' → Env} {u ta tb : TS} {te : TE} {me : Tr D}
theorem UOk.extN (u : UOk g U H) (n : LamX.ExtN H H') : UOk g U H' := ⟨u.p, u.c, fun a ha => by
  obtain ⟨o, h, z⟩ := u.al a ha
  exact ⟨o, n a o h z, z⟩⟩
/-- x(lambda: e) -/
theorem se_lam {FH : Tr D → Tr D} {t : XK → TE} {m : Tr D} (h : ∀ E, SE g E ε (t E) m) : SE g E ε (LamX.tLam g.T (THd g.K g.T FH) t) (nox (FH m)) := fun U σ H b Q R W u q => by
  refine ⟨W.tabs, fun H1 n t1 => ⟨g.p, g.c, U, b, m, ⟨W.pen.extN n, t1⟩, u.extN n, fun E H' b' Q' f w' a' => ?_, ?_⟩⟩
  · have f1 : Fr H H' g.p := (ext_fr n).trans f
    exact h E U σ H' b' Q' (R.fr u f1) w' (u.fr f1 w') a'
  · exact Al.mono (fun _ _ z => okP.fr (ext_fr n) z) (fun _ _ _ z => z) (al_nox (E' := fun _ _ _ => False) q)
/-- behind the clause: the error stands as data -/
theorem rel_err {n i j : Nat} {a dd : Addr} {cl : Str} {fvs : List (Str × V)} {fs : Fs} (hl : σ.length = n) (hi : i < n) (hj : j < n) (hij : i ≠ j) (ha : H a = some (exk a (gd cl g.K) dd)) (na : ¬ U a) (hd : H dd = some (.xd fvs)) (nd : ¬ U dd) (df : DenF g U H fvs fs) :
    Rel g U H (((σ.set i (some (.ref a))).set j (some (.ref a))).set i none) ((List.replicate n Sl.no).set j (.fz (.err cl fs))) := by
  have no : ∀ k x, ¬ OwnAt (((σ.set i (some (.ref a))).set j (some (.ref a))).set i none) ((List.replicate n Sl.no).set j (.fz (.err cl fs))) k x := fun k x ⟨_, z⟩ => by
    have : ∀ s : Sl, ((List.replicate n Sl.no).set j (.fz (.err cl fs)))[k]? = some s → (∃ d, s = .fz d) ∨ s = .no := fun s e => by
      have m := List.mem_of_getElem? e
      rcases List.mem_or_eq_of_mem_set m with m | m
      · exact .inr (List.mem_replicate.mp m).2
      · exact .inl ⟨_, m⟩
    rcases z with ⟨x, z⟩ | ⟨x, y, z⟩
    · rcases this _ z with ⟨d, e⟩ | e <;> cases e
    · rcases this _ z with ⟨d, e⟩ | e <;> cases e
  refine ⟨by simp only [List.length_set, List.length_replicate]; exact hl, fun k s e => ?_, fun _ _ x _ h1 _ => (no _ x h1).elim⟩
  by_cases q : j = k
  · subst q
    rw [List.getElem?_set_self (by rw [List.length_replicate]; exact hj)] at e
    cases e
    refine ⟨some (.ref a), ?_, _, rfl, .err ha na hd nd df⟩
    rw [List.getElem?_set_ne hij, List.getElem?_set_self (by rw [List.length_set, hl]; exact hj)]
  · rw [List.getElem?_set_ne q, List.getElem?_replicate] at e
    split at e
    · rename_i hk
      cases e
      refine ⟨_, List.getElem?_eq_getElem (by simp only [List.length_set]; rw [hl]; exact hk), trivial⟩
    · cases e
theorem fin_al {P : D → Nat → Prop} {X : Str → Fs → Nat → Prop} {m : Tr (Fl Unit Empty)} (h : Al P X (fin m) b) : Al (fun f b => match f with | .nx _ => P .non b | .rt d => P d b | .bk e => nomatch e | .ct e => nomatch e) X m b := by
  refine (al_bd.mp h).mono (fun f b h => ?_) (fun _ _ _ h => h)
  cases f with
  | nx w => exact h
  | rt d => exact h
  | bk e => exact nomatch e
  | ct e => exact nomatch e
/-- the suite behind, from a state that stands -/
theorem run_rest {t : TS} {envU : Unit → Env} {m : Tr (Fl Unit Empty)} {Q : VK} (ss : SS g EF ε t envU envE m) (R : Rel g U H1 σ ε) (no : ∀ i a, ¬ OwnAt σ ε i a) (w : Wd g H1 b) (u : UOk g U H1) (f : Fr H H1 g.p) (al : Al (okP g U H Q) (fun _ _ _ => False) (fin m) b) :
    t { nx := fun _ H' => Q .non H', rt := Q } σ H1 := by
  refine ss (fun _ => False) U H U _ _ H1 b ⟨R, w, u, fun _ z => z, fun i a z => (no i a z).elim, fun a o z1 z2 _ z3 => f a o z1 z2 z3, fun i ds' a z1 z2 => (no i a ⟨z2, .inl ⟨ds', z1⟩⟩).elim, fun i c fs a z1 z2 => (no i a ⟨z2, .inr ⟨c, fs, z1⟩⟩).elim⟩ ((fin_al al).mono (fun f b1 h1 => ?_) (fun c fs b1 h1 => h1.elim))
  cases f with
  | nx w => exact fun U' σ' H' e s => h1 .non H' .non s.wd fun a o z1 z2 z3 => s.ext a o z1 z2 (fun z => z) z3
  | rt d => exact fun v H' dn w f => h1 v H' dn w fun a o z1 z2 z3 => f a o z1 z2 (fun z => z) z3
  | bk e => exact nomatch e
  | ct e => exact nomatch e
theorem no_err {n j : Nat} {d : D} : ∀ i a, ¬ OwnAt σ ((List.replicate n Sl.no).set j (.fz d)) i a := fun k x ⟨_, z⟩ => by
  have : ∀ s : Sl, ((List.replicate n Sl.no).set j (.fz d))[k]? = some s → (∃ d, s = .fz d) ∨ s = .no := fun s e => by
    have m := List.mem_of_getElem? e
    rcases List.mem_or_eq_of_mem_set m with m | m
    · exact .inr (List.mem_replicate.mp m).2
    · exact .inl ⟨_, m⟩
  rcases z with ⟨x, z⟩ | ⟨x, y, z⟩
  · rcases this _ z with ⟨d, e⟩ | e <;> cases e
  · rcases this _ z with ⟨d, e⟩ | e <;> cases e
/-- what the clause wants of an error -/
def ExH (g : Gw) (U : Addr → Prop) (H : Hp) (Q : VK) (x : Str → Fs → Tr D) : XK := fun cls d H' => ∃ cl fs b1 dd fvs, cls = .ref (gd cl g.K) ∧ d = some dd ∧ H' dd = some (.xd fvs) ∧ ¬ U dd ∧ DenF g U H' fvs fs ∧ Wd g H' b1 ∧ Fr H H' g.p ∧ Al (okP g U H Q) (fun _ _ _ => False) (x cl fs) b1
theorem clause {n i j : Nat} {trest : TS} {mrest : D → Tr (Fl Unit Empty)} {envU : Unit → Env} {xh : Str → Bool} {HE : Addr} {Wout : WX} {Q : VK} (hi : i < n) (hj : j < n) (hij : i ≠ j)
    (hx : ∀ cl, xh cl = true → PySem.W.exmOne g.K (.ref (gd cl g.K)) (.ref HE) = some true)
    (hs : ∀ cl fs, SS g EF ((List.replicate n Sl.no).set j (.fz (.err cl fs))) trest envU envE (mrest (.err cl fs))) (u : UOk g U H) :
    ∀ cls d σ' H', ExH g U H Q (fun cl fs => if xh cl = true then nox (fin (mrest (.err cl fs))) else .bad) cls d H' → σ'.length = n → wAsK g.K (.ref HE) i (fun a cls d => tAsg (tVar i) (gName j)) Wout { nx := trest { nx := fun _ H' => Q .non H', rt := Q }, rt := Q } cls d σ' H' := by
  rintro cls d σ' H' ⟨cl, fs, b1, dd, fvs, rfl, rfl, hd, nd, df, wd, f, al⟩ hl
  dsimp only at al
  by_cases hxc : xh cl = true
  · rw [if_pos hxc] at al
    refine ⟨true, hx cl hxc, fun _ => ⟨_, dd, rfl, rfl, fun a na => ?_⟩, fun z => by cases z⟩
    refine ⟨.ref a, List.getElem?_set_self (by rw [hl]; exact hi), fun na' => ?_⟩
    have s1 : L2.Same H' (upd H' a (exk a (gd cl g.K) dd)) := same_new na
    have u' := u.fr f wd
    have nU : ¬ U a := u'.new na
    exact run_rest (hs cl fs) (rel_err hl hi hj hij upd_same nU (s1 _ _ hd) nd (df.ext (u'.extU (fr_same s1)))) no_err (wd.same s1) (u'.fr (fr_same s1) (wd.same s1)) (f.trans (fr_same s1)) (al_nox al)
  · rw [if_neg hxc] at al
    exact al.elim
/-- caught = None; try: return R; except HuntError as error: caught = error; rest -/
theorem heardA {N : List Str} {f : Addr} {m : Tr D} {n i j : Nat} {trest : TS} {mrest : D → Tr (Fl Unit Empty)} {envU : Unit → Env} {xh : Str → Bool} {HE : Addr} {Wout : WX} {Q : VK} {tR : XK → TE} {kR : D → Tr D} (hn : (L2.start N [V.ref f]).length = n) (hi : i < n) (hj : j < n) (hij : i ≠ j) (hj0 : j ≠ 0)
    (hx : ∀ cl, xh cl = true → PySem.W.exmOne g.K (.ref (gd cl g.K)) (.ref HE) = some true)
    (hs : ∀ cl fs, SS g EF ((List.replicate n Sl.no).set j (.fz (.err cl fs))) trest envU envE (mrest (.err cl fs)))
    (hR : ∀ (E : XK) (σ : L2.St) H' b' Q', σ[0]? = some (some (.ref f)) → Fr H H' g.p → Wd g H' b' → UOk g U H' → Al (okP g U H' Q') (exP g U E H') (bd m kR) b' → tR E σ H' Q')
    (wd : Wd g H b) (u : UOk g U H) (al : Al (okP g U H Q) (fun _ _ _ => False) (tryT (bd m kR) .ok (fun cl fs => if xh cl = true then nox (fin (mrest (.err cl fs))) else .bad)) b) :
    tSeq (tAsg (tC .non) (gName j)) (tSeq (fun D σ H => tTry n (fun E => tRet (tR E)) (wAsK g.K (.ref HE) i (fun a cls d => tAsg (tVar i) (gName j)) Wout D) D σ H) trest) { nx := fun _ H' => Q .non H', rt := Q } (L2.start N [.ref f]) H := by
  refine ⟨ExH g U H Q (fun cl fs => if xh cl = true then nox (fin (mrest (.err cl fs))) else .bad), clause hi hj hij hx hs u, ?_⟩
  refine hR _ _ H b Q ?_ Fr.refl wd u ((al_try.mp al).mono (fun d b1 h => h) (fun cl fs b1 h dd fvs H' e1 e2 e3 e4 e5 => ⟨cl, fs, b1, dd, fvs, rfl, rfl, e1, e2, e3, e4, e5, h⟩))
  rw [List.getElem?_set_ne hj0]
  rfl
/-- the lambda's call in what is returned -/
theorem act_tup {f c' : Addr} {q : Str} {tl : XK → Hp → VK → Prop} {m : Tr D} {x : Str} (hx : x.length ≤ sizeLine) (hc : H c' = some (LamX.CodeO c' q)) (cp : c' ≠ g.p)
    (ha : ∀ (E : XK) H' b' Q', Fr H H' g.p → Wd g H' b' → Al (okP g U H' Q') (exP g U E H') m b' → tl E H' Q') :
    ∀ (E : XK) (σ : L2.St) H' b' Q', σ[0]? = some (some (.ref f)) → Fr H H' g.p → Wd g H' b' → UOk g U H' → Al (okP g U H' Q') (exP g U E H') (bd m fun d => .ok (.tup [.str x, d])) b' → tTup (tCons (tC (.str x)) (tCons (tAct f c' q (tl E)) tNil)) σ H' Q' :=
  fun E σ H' b' Q' e fr wd u al => ⟨e, fr _ _ hc cp (fun _ z => LamX.codeO_ne _ z), ha E H' b' _ fr wd ((al_bd.mp al).mono (fun d b1 h v H1 dn w1 f1 => ⟨by show 2 ≤ sizeLine; decide, fun p np => (by
    have s := same_new (o := .tup [.str x, v]) np
    have u1 := u.fr f1 w1
    exact h _ _ (.tup upd_same (u1.new np) (by show 2 ≤ sizeLine; decide) (.cons (.str x hx) (.cons (dn.ext (u1.extU (fr_same s))) .nil))) (w1.same s) (f1.trans (fr_same s)))⟩) (fun _ _ _ h => h))⟩
theorem act_lst {f c' : Addr} {q : Str} {tl : XK → Hp → VK → Prop} {m : Tr D} (hc : H c' = some (LamX.CodeO c' q)) (cp : c' ≠ g.p)
    (ha : ∀ (E : XK) H' b' Q', Fr H H' g.p → Wd g H' b' → Al (okP g U H' Q') (exP g U E H') m b' → tl E H' Q') :
    ∀ (E : XK) (σ : L2.St) H' b' Q', σ[0]? = some (some (.ref f)) → Fr H H' g.p → Wd g H' b' → UOk g U H' → Al (okP g U H' Q') (exP g U E H') (bd m fun d => .ok (.lst [d])) b' → tLst (tCons (tAct f c' q (tl E)) tNil) σ H' Q' :=
  fun E σ H' b' Q' e fr wd u al => ⟨e, fr _ _ hc cp (fun _ z => LamX.codeO_ne _ z), ha E H' b' _ fr wd ((al_bd.mp al).mono (fun d b1 h v H1 dn w1 f1 => ⟨by show 1 ≤ sizeLine; decide, fun p np => (by
    have s := same_new (o := .lst [v]) np
    have u1 := u.fr f1 w1
    exact h _ _ (.lst upd_same (u1.new np) (by show 1 ≤ sizeLine; decide) (.cons (dn.ext (u1.extU (fr_same s))) .nil)) (w1.same s) (f1.trans (fr_same s)))⟩) (fun _ _ _ h => h))⟩
theorem code_np {p c c' : Addr} {K : PySem.W.Frag} {T : List (Addr × Str)} {q : Str} (w : Wd ⟨K, T, p, c⟩ H b) (hc : H c' = some (LamX.CodeO c' q)) : c' ≠ p := fun z => by
  obtain ⟨ns, i, y, h1, _⟩ := w.pen
  subst z
  rw [hc] at h1
  unfold LamX.CodeO at h1
  cases h1
/-! ### an error's field -/
def xaD (tab : List Str) (f : Str) (o : D) : Tr D := match o with
  | .err c fs => if c ∈ tab then (match fs.lookup f with | some d => .ok d | none => .bad) else .bad
  | _ => .bad
theorem se_xa {tab : List Str} {f : Str} (hT : ∀ c ∈ tab, ErrT g.K (gd c g.K) ∧ PySem.W.findIn g.K (.ref (gd c g.K)) f = some none) (he : SE g E ε te me) : SE g E ε (tXa g.K f te) (bd me (xaD tab f)) := fun U σ H b Q R W u q =>
  he.step R W u q fun v d H1 b1 d1 w1 f1 R1 u1 q1 => by
    cases d1 with
    | err ha na hd nd df =>
      rename_i a dd c fvs fs
      change Al _ _ (if c ∈ tab then (match fs.lookup f with | some d => .ok d | none => .bad) else .bad) b1 at q1
      split at q1
      · rename_i hm
        cases e : fs.lookup f with
        | none => rw [e] at q1; exact q1.elim
        | some d =>
          rw [e] at q1
          obtain ⟨v, hv, d2⟩ := df.look e
          exact ⟨a, _, dd, fvs, v, rfl, ha, (hT c hm).1, (hT c hm).2, hd, hv, q1 _ _ d2 w1 f1⟩
      · exact q1.elim
    | _ => exact q1.elim
/-- a name of which nothing is known -/
theorem se_bad {t : TE} : SE g E ε t .bad := fun _ _ _ _ _ _ _ _ q => q.elim
end
end Gp

set_option Elab.async false
set_option linter.all false
set_option maxRecDepth 100000
set_option maxHeartbeats 4000000
/-! Pm: super().m(..) in a def that is read as a tree; the instance in the making borrowed; bindings of such defs. -/
namespace Gp
open PySem PySem.Spec PyProof.Rows L2 Gh
section
variable {g : Gw} {Mt U0 U U' : Addr → Prop} {H0 H H' H1 H2 : Hp} {b b1 b2 : Nat} {σ : L2.St} {ε ε' : Env} {E : XK} {W L W' : Type}
variable {env : W → Env} {envL : L → Env} {env' : W' → Env} {u ta tb : TS} {te : TE} {me : Tr D}
/-- the instance in the making is changed, all else stays -/
theorem oi_step {c : Str} {fs fs' : Fs} {a dx' : Addr} {fvs' : List (Str × V)} (s1 : Stt g Mt U0 H0 U σ H1 b1 ε) (hi : ε[0]? = some (.oi c fs)) (eo : σ[0]? = some (some (.ref a))) (h2 : H2 a = some (.ins (gd c g.K) dx' fvs')) (d2 : DenF g U H2 fvs' fs') (w2 : Wd g H2 b2) (f2 : FrM g (· = a) H1 H2) :
    Stt g Mt U0 H0 U σ H2 b2 (ε.set 0 (.oi c fs')) ∧ Ev U H1 U H2 := by
  obtain ⟨o, eo', a0, dx, fvs, e0, ha, df, ua, n1, n2⟩ := s1.rel.at_ 0 _ hi
  have ea : a0 = a := by
    rw [eo'] at eo
    subst e0
    cases eo
    rfl
  subst ea
  have xt : ExtU U H1 H2 := fun x o e ne t => f2 x o e (fun z => ne (z ▸ s1.uok.p)) (fun z => ne (z ▸ ua)) t
  have il : 0 < ε.length := (List.getElem?_eq_some_iff.mp hi).1
  have ow : ∀ j x, OwnAt σ (ε.set 0 (.oi c fs')) j x → OwnAt σ ε j x := fun j x z => by
    obtain ⟨z1, z2⟩ := z
    by_cases q : 0 = j
    · subst q
      exact ⟨z1, .inr ⟨c, fs, hi⟩⟩
    · rw [List.getElem?_set_ne q] at z2
      exact ⟨z1, z2⟩
  have apart : ∀ j x, 0 ≠ j → OwnAt σ ε j x → x ≠ a0 := fun j x ne z e => by
    subst e
    exact s1.rel.apart 0 j x ne ⟨eo, .inr ⟨c, fs, hi⟩⟩ z
  have hmt := s1.oim 0 c fs a0 hi eo
  refine ⟨⟨⟨by rw [List.length_set]; exact s1.rel.len, fun j x e => ?_, fun j k x ne z1 z2 => s1.rel.apart j k x ne (ow _ _ z1) (ow _ _ z2)⟩, w2, ⟨s1.uok.p, s1.uok.c, fun x hx => ?_⟩, s1.sub, fun j x z => s1.own j x (ow _ _ z), fun x o e m1 m2 m3 => ?_, fun j xs x e1 e2 => ?_, fun j c' fs' x e1 e2 => ?_⟩, ⟨xt, fun _ _ _ n _ => n⟩⟩
  · by_cases q : 0 = j
    · subst q
      rw [List.getElem?_set_self il] at e
      cases e
      exact ⟨_, eo, a0, dx', _, rfl, h2, d2, ua, n1, n2⟩
    · rw [List.getElem?_set_ne q] at e
      obtain ⟨o, e1, e2⟩ := s1.rel.at_ j x e
      refine ⟨o, e1, ?_⟩
      cases x with
      | no => trivial
      | fz d =>
        obtain ⟨v, e3, e4⟩ := e2
        exact ⟨v, e3, e4.ext xt⟩
      | ow ds2 =>
        obtain ⟨a2, v2, rfl, h2, l2, d2, u2, m1, m2⟩ := e2
        have ne := apart j a2 q ⟨e1, .inl ⟨ds2, e⟩⟩
        exact ⟨a2, v2, rfl, f2 _ _ h2 m1 ne (fun _ z => by cases z), l2, d2.ext xt, u2, m1, m2⟩
      | oi c fs =>
        obtain ⟨a2, dx, v2, rfl, h2, d2, u2, m1, m2⟩ := e2
        have ne := apart j a2 q ⟨e1, .inr ⟨c, fs, e⟩⟩
        exact ⟨a2, dx, v2, rfl, f2 _ _ h2 m1 ne (fun _ z => by cases z), d2.ext xt, u2, m1, m2⟩
  · by_cases q : x = a0
    · subst q
      exact ⟨_, h2, fun _ z => by cases z⟩
    · by_cases qp : x = g.p
      · subst qp
        obtain ⟨ns, i, z, h, _⟩ := w2.pen
        exact ⟨_, h, fun _ z => by cases z⟩
      · obtain ⟨o, e, t⟩ := s1.uok.al x hx
        exact ⟨o, f2 x o e qp q t, t⟩
  · exact f2 x o (s1.ext x o e m1 m2 m3) m1 (fun z => m2 (z ▸ hmt)) m3
  · by_cases q : 0 = j
    · subst q
      rw [List.getElem?_set_self il] at e1
      cases e1
    · rw [List.getElem?_set_ne q] at e1
      exact s1.nu0 j xs x e1 e2
  · by_cases q : 0 = j
    · subst q
      exact s1.oim 0 c fs x hi e2
    · rw [List.getElem?_set_ne q] at e1
      exact s1.oim j c' fs' x e1 e2
/-- super().m(..) -/
def tSup (K : PySem.W.Frag) (B : Addr) (m : Str) (f2 : Addr) (ta : TA) (sp : Sp) (dvs : List V) (E : XK) : TS := fun D σ H => ∃ a C dx fs, σ[0]? = some (some (.ref a)) ∧ H a = some (.ins C dx fs) ∧ SupC K C B m f2 ∧ ta σ H fun us H2 => sp (.ref a :: (us ++ dvs)) H2 (fun _ H3 => D.nx σ H3) E
theorem ss_sup {c m : Str} {B f2 : Addr} {fs : Fs} {t : TA} {mt : Tr (List D)} {F : Fs → List D → Tr Fs} {k : Fs → Tr (Fl W L)} (hS : SupC g.K (gd c g.K) B m f2) (ht : SA g E ε t mt) (hk : ∀ fs', SS g E (ε.set 0 (.oi c fs')) u env envL (k fs')) (hi : ε[0]? = some (.oi c fs) := by rfl) :
    SS g E ε (tSeq (tSup g.K B m f2 t (spI g.K g.T c F) [] E) u) env envL (bd mt fun ds => bd (F fs ds) k) := fun Mt U0 H0 U Ds σ H b s q => by
  obtain ⟨o, eo, a, dx, fvs, rfl, ha, df, ua, n1, n2⟩ := s.rel.at_ 0 _ hi
  refine ⟨a, _, dx, fvs, eo, ha, hS, ht.sstep s q fun vs ds H1 b1 dv s1 q1 => ?_⟩
  obtain ⟨o, eo', a', dx', fvs', rfl, ha', df', ua', n1', n2'⟩ := s1.rel.at_ 0 _ hi
  have ea : a' = a := by rw [eo'] at eo; cases eo; rfl
  subst ea
  rw [List.append_nil]
  refine ⟨g.p, g.c, U, ds, b1, a', dx', fvs', fs, vs, rfl, ha', df', ua', n1', n2', dv, s1.wd, s1.uok, (al_bd.mp q1).mono (fun fs2 b2 h dx2 fvs2 H2 e2 d2 w2 f2 => ?_) (fun cn fs2 b2 h dd fv H2 e1 nd d1 w1 f1 => ?_)⟩
  · obtain ⟨s2, ev⟩ := oi_step s1 hi eo e2 d2 w2 f2
    exact hk fs2 Mt U0 H0 U Ds σ H2 b2 s2 (h.mono (fun _ _ z => z.ev ev) (fun _ _ _ z => z))
  · have hmt := s1.oim 0 c fs a' hi eo
    exact h dd fv H2 e1 (fun z => nd (s1.sub _ z)) (d1.sub fun x _ z => s1.sub x z) w1 fun x o e m1 m2 m3 => f1 x o (s1.ext x o e m1 m2 m3) m1 (fun z => m2 (z ▸ hmt)) m3
/-- a plain value -/
def plD : D → Tr D
  | .non => .ok .non
  | .bl b => .ok (.bl b)
  | .int i => .ok (.int i)
  | .str x => .ok (.str x)
  | _ => .bad
theorem al_pl {P : D → Nat → Prop} {X : Str → Fs → Nat → Prop} {d : D} (h : Al P X (plD d) b) : P d b ∧ ∀ U' H v, Den g U' H v d → ∀ U, Den g U H v d := by
  cases d with
  | non => exact ⟨h, fun _ _ _ d _ => by cases d; exact .non⟩
  | bl b => exact ⟨h, fun _ _ _ d _ => by cases d; exact .bl _⟩
  | int i => exact ⟨h, fun _ _ _ d _ => by cases d; exact .int _⟩
  | str x => exact ⟨h, fun _ _ _ d _ => by cases d with | str _ l => exact .str _ l⟩
  | _ => exact h.elim
/-- self.f in an __init__, a property, its value plain -/
theorem se_prS {c : Str} {fs : Fs} {F : List D → Tr D} (hi : ε[0]? = some (.oi c fs) := by rfl) : SE g E ε (tPr (gd c g.K) (spF g.K g.T F) [] EF (tVar 0)) (bd (nox (F [.obj c fs])) plD) := fun U σ H b Q R W u q => by
  obtain ⟨o, eo, a, dx, fvs, rfl, ha, df, ua, n1, n2⟩ := R.at_ 0 _ hi
  refine ⟨.ref a, eo, a, dx, fvs, rfl, ha, g.p, g.c, fun x => U x ∧ x ≠ a, [.obj c fs], b, .cons (.obj ha (fun z => z.2 rfl) (df.sub fun x _ z => z.1)) .nil, W, ⟨⟨u.p, n1.symm⟩, ⟨u.c, n2.symm⟩, fun x z => u.al x z.1⟩, (al_nox (al_bd.mp q)).mono (fun d b1 h => ?_) (fun _ _ _ h => h)⟩
  obtain ⟨h1, h2⟩ := al_pl (g := g) h
  exact fun v H' dn w f => h1 v H' (h2 _ _ _ dn U) w f
end
section
variable {K : PySem.W.Frag} {x qual file : Str} {params : Arguments} {body : List Stmt} {scope : Scope} {dvs : List V} {f B : Addr} {fd : FuncData} {ps : List Str}
theorem SupF.bindsN (F : SupF K x qual params body scope [] f B file fd)
    (h : ∀ (cl : List (Str × Addr)) (kV doc pm : Value) (an : Option Addr) (cdv ct : Value) (us : List Value), us.length = ps.length → bindArgs (PySem.W.fnX x qual params body scope cl .none kV doc pm an cdv ct) ⟨us, []⟩ = pure (ps.zip us)) : Binds K fd ps [] := by
  obtain ⟨oc, od, dV, kV, doc, pm, an, cda, ct, osl, cc, rfl, lk, hcd, hD, _⟩ := F.ex
  rcases hD with ⟨_, rfl⟩ | ⟨e, _⟩
  · exact .all (h _ kV doc pm an _ ct)
  · exact absurd rfl e
theorem SupF.binds1 (F : SupF K x qual params body scope dvs f B file fd) (n j : Nat) (hd : dvs ≠ []) (hn : n + (dvs.length - j) = ps.length)
    (h : ∀ (cl : List (Str × Addr)) (T : Addr) (kV doc pm : Value) (an : Option Addr) (cdv ct : Value) (us its : List Value), us.length = n → its.length = dvs.length →
      ∃ k, bindArgs (PySem.W.fnX x qual params body scope cl (.ref T) kV doc pm an cdv ct) ⟨us, []⟩ = seqItems? (.ref T) >>= k ∧ k (some its.toArray) = pure (ps.zip (us ++ its.drop j))) : ∃ ds, Vals (dvs.drop j) ds ∧ Binds K fd ps ds := by
  obtain ⟨oc, od, dV, kV, doc, pm, an, cda, ct, osl, cc, rfl, lk, hcd, hD, _⟩ := F.ex
  rcases hD with ⟨e, _⟩ | ⟨_, T, o, its, m, rfl, lT, oT, rT⟩
  · exact absurd e hd
  · refine ⟨its.drop j, rT.drop j, fun s us X hlen => ?_⟩
    have l1 : its.length = dvs.length := rT.length.symm
    have l2 : us.length = n := by
      rw [List.length_append, List.length_drop, l1] at hlen
      omega
    obtain ⟨k, e1, e2⟩ := h _ T kV doc pm an _ ct us its l2 l1
    refine BindsTo.of_looks fun M => ?_
    rw [e1]
    exact looks_items X lT oT (.of_pure e2)
end
end Gp

set_option Elab.async false
set_option linter.all false
set_option maxRecDepth 100000
set_option maxHeartbeats 4000000
/-! Hs: heads with defs that say super(). -/
namespace Gp
open PySem PySem.Spec PyProof.Rows L2 Gh
/-- a def that says super(): the def, and the class that it stands in -/
structure Ds where
  d : Df
  own : PySem.W.Frag → Addr
def fnAtS (K : PySem.W.Frag) (a : Addr) : He.FnW := match K.lookup a with
  | some ⟨_, _, .func fd, _⟩ => some (fd.name, fd.qualname, fd.params, fd.body, fd.scope, fd.globals, fd.closure.map (fun q => (q.1, 0)), fd.builtins)
  | _ => none
def Ds.val (d : Ds) : He.FnW := some (d.d.name, d.d.qual, defArgs d.d.st, .stmts (defBody d.d.st), defScope d.d.st, mainGlobals, [("__class__", 0)], builtinsNs)
def fileB (K : PySem.W.Frag) (file : Str) : Value → Bool
  | .ref c => (match K.lookup c with
    | some ⟨_, _, Data.fields vs, _⟩ => (match (vs[2]? : Option Value) with
      | some (Value.str f _) => decide (f = file)
      | _ => false)
    | _ => false)
  | _ => false
def cellB (K : PySem.W.Frag) (B : Addr) : List (Str × Addr) → Bool
  | [(_, c)] => (match K.lookup c with
    | some ⟨_, _, .cell (some (.ref b)), _⟩ => decide (b = B)
    | _ => false)
  | _ => false
theorem fileB_ok {K : PySem.W.Frag} {file : Str} {v : Value} (h : fileB K file v = true) : ∃ c, v = .ref c ∧ ∃ ccl cdd vs ccs tf, K.lookup c = some ⟨ccl, cdd, .fields vs, ccs⟩ ∧ vs[2]? = some (.str file tf) := by
  unfold fileB at h
  split at h
  · rename_i c
    split at h
    · rename_i e
      split at h
      · rename_i e2
        have := of_decide_eq_true h
        subst this
        exact ⟨c, rfl, _, _, _, _, _, e, e2⟩
      · cases h
    · cases h
  · cases h
theorem cellB_ok {K : PySem.W.Frag} {B : Addr} {l : List (Str × Addr)} (h : cellB K B l = true) : ∃ x c, l = [(x, c)] ∧ ∃ cl cld csl, K.lookup c = some ⟨cl, cld, .cell (some (.ref B)), csl⟩ := by
  unfold cellB at h
  split at h
  · rename_i x c
    split at h
    · rename_i e
      have := of_decide_eq_true h
      subst this
      exact ⟨x, c, rfl, _, _, _, e⟩
    · cases h
  · cases h
def Ds.ok (file : Str) (K : PySem.W.Frag) (d : Ds) : Bool := PySem.W.keepIn K (.ref (d.d.adr K)) && (match K.lookup (d.d.adr K) with
  | some ⟨_, _, .func fd, _⟩ => PySem.W.codeIn K fd.code d.d.qual && (He.dflB K fd.defaults (d.d.dvs K) && (fileB K file fd.code && cellB K (d.own K) fd.closure))
  | _ => false)
abbrev FnS (K : PySem.W.Frag) (d : Ds) (file : Str) (fd : FuncData) : Prop := SupF K d.d.name d.d.qual (defArgs d.d.st) (defBody d.d.st) (defScope d.d.st) (d.d.dvs K) (d.d.adr K) (d.own K) file fd
theorem Ds.supF {file : Str} {K : PySem.W.Frag} {d : Ds} (e : fnAtS K (d.d.adr K) = d.val) (c : d.ok file K = true) : ∃ fd, FnS K d file fd := by
  obtain ⟨kp, c2⟩ := He.ba c
  unfold fnAtS at e
  cases q : K.lookup (d.d.adr K) with
  | none =>
    rw [q] at c2
    cases c2
  | some o =>
    obtain ⟨oc, od, dt, osl⟩ := o
    rw [q] at c2 e
    cases dt with
    | func fd =>
      obtain ⟨n1, n2, n3, n4, n5, n6, n7, n8, n9, n10, n11, n12, n13, n14, n15⟩ := fd
      have e2 : (some (n1, n2, n3, n4, n5, n6, n7.map (fun q => (q.1, 0)), n15) : He.FnW) = (some (d.d.name, d.d.qual, defArgs d.d.st, FuncBody.stmts (defBody d.d.st), defScope d.d.st, mainGlobals, [(("__class__" : Str), (0 : Addr))], builtinsNs) : He.FnW) := e
      simp only [Option.some.injEq, Prod.mk.injEq] at e2
      obtain ⟨h1, h2, h3, h4, h5, h6, h7, h8⟩ := e2
      subst h1 h2 h3 h4 h5 h6 h8
      have c3 : (PySem.W.codeIn K n13 d.d.qual && (He.dflB K n8 (d.d.dvs K) && (fileB K file n13 && cellB K (d.own K) n7))) = true := c2
      obtain ⟨k1, k2⟩ := He.ba c3
      obtain ⟨k3, k4⟩ := He.ba k2
      obtain ⟨k5, k6⟩ := He.ba k4
      obtain ⟨cda, rfl, hf⟩ := fileB_ok k5
      obtain ⟨x, cc, rfl, hc⟩ := cellB_ok k6
      have hx : x = "__class__" := by
        simp only [List.map_cons, List.map_nil, List.cons.injEq, Prod.mk.injEq, and_true] at h7
        exact h7
      subst hx
      exact ⟨_, ⟨oc, od, n8, n9, n10, n11, n12, cda, n14, osl, cc, rfl, q, k1, He.dflB_ok k3, hc, hf⟩, kp⟩
    | _ => cases c2
structure SaysS (ex : List (PySem.W.Frag → Bool)) (fn : List Df) (tf : List He.Defn) (fs : List Ds) (file : Str) (h : Heap) (K : PySem.W.Frag) : Prop where
  s : SaysT ex fn tf h K
  o : (fs.all fun d => d.ok file K) = true
  v : (fs.map fun d => fnAtS K (d.d.adr K)) = fs.map Ds.val
theorem SaysS.sup_ {ex : List (PySem.W.Frag → Bool)} {fn : List Df} {tf : List He.Defn} {fs : List Ds} {file : Str} {h : Heap} {K : PySem.W.Frag} (c : SaysS ex fn tf fs file h K) (i : Nat) {d : Ds} (hd : fs[i]? = some d := by rfl) : ∃ fd, FnS K d file fd := by
  have e2 : (fs.map fun d => fnAtS K (d.d.adr K))[i]? = (fs.map Ds.val)[i]? := by rw [c.v]
  rw [List.getElem?_map, List.getElem?_map, hd] at e2
  exact Ds.supF (Option.some.inj e2) (List.all_eq_true.mp c.o d (List.mem_of_getElem? hd))
abbrev AlS : Type := AlT × Bool × List He.FnW
def obsS (n : Nat) (ex : List (PySem.W.Frag → Bool)) (fn : List Df) (tf : List He.Defn) (fs : List Ds) (file : Str) (g : Addr → Option Obj) : AlS := (obsT n ex fn tf g, (fs.all fun d => d.ok file (He.frT g (Gh.asS g n))), fs.map fun d => fnAtS (He.frT g (Gh.asS g n)) (d.d.adr (He.frT g (Gh.asS g n))))
def hookS (n : Nat) (ex : List (PySem.W.Frag → Bool)) (fn : List Df) (tf : List He.Defn) (fs : List Ds) (file : Str) : PySem.W.Hook where
  α := AlS
  obs := fun s => obsS n ex fn tf fs file s.heap.get?
  val := fun _ => ((Gh.val fn, true), true, fs.map Ds.val)
  says := fun _ h => ∃ K : PySem.W.Frag, K.In h ∧ SaysS ex fn tf fs file h K
  of := fun _ _ e => ⟨_, He.frT_in, ⟨saysT_of (congrArg (fun z : AlS => z.1) e), congrArg (fun z : AlS => z.2.1) e, congrArg (fun z : AlS => z.2.2) e⟩⟩
  keeps := fun _ _ _ ⟨K, hK, c⟩ k => ⟨K, PySem.W.Frag.In.keeps hK k, ⟨⟨c.s.t, c.s.hd, c.s.out, fun p hp => k _ _ (c.s.empty p hp)⟩, c.o, c.v⟩⟩
theorem obsS_eq {n : Nat} {ex : List (PySem.W.Frag → Bool)} {fn : List Df} {tf : List He.Defn} {fs : List Ds} {file : Str} {g : Addr → Option Obj} {s : Shared} (h : ∀ a, g a = s.heap.get? a) : obsS n ex fn tf fs file g = (hookS n ex fn tf fs file).obs s := by
  have e : g = s.heap.get? := funext h
  rw [e] <;> rfl
def supCB (c b : Str) (m : Str) (f2 : PySem.W.Frag → Addr) (K : PySem.W.Frag) : Bool := decide (PySem.W.mroIn K (gd c K) (.ref (gd b K)) = some true) && (He.eqO (PySem.W.ks_superIn K (gd c K) (gd b K) m) (some (some (.ref (f2 K)))) && (decide (PySem.W.typeIn K (.ref (f2 K)) = some (.type "function")) && PySem.W.fnIn K (f2 K)))
theorem supCB_ok {c b m : Str} {f2 : PySem.W.Frag → Addr} {K : PySem.W.Frag} (h : supCB c b m f2 K = true) : SupC K (gd c K) (gd b K) m (f2 K) := by
  obtain ⟨h1, h2⟩ := He.ba h
  obtain ⟨h3, h4⟩ := He.ba h2
  obtain ⟨h5, h6⟩ := He.ba h4
  exact ⟨of_decide_eq_true h1, He.eqO_ok h3, of_decide_eq_true h5, h6⟩
end Gp

set_option Elab.async false
set_option linter.all false
set_option maxRecDepth 100000
set_option maxHeartbeats 4000000
/-! Sb: defs that say super() and take what is left over as a tuple. -/
namespace Gp
open PySem PySem.Spec PyProof.Rows L2 Gh
section
variable {P : Program} {w : World} {K : PySem.W.Frag} {mg : Str → Option Value} {base : Heap} {CX : CXT} {k : Nat} {x qual file m ar : Str} {params : Arguments} {body : List Stmt} {scope : Scope} {dvs : List V} {f D : Addr} {fd : FuncData} {N ps : List Str} {sp : Sp}
theorem SupF.run {A : Around} {outer : List PySem.Env} {s : Shared} {H : Hp} {args : Args} {Q : VK} {E : XK} {G : List V → Hp → Prop} {pre post : List Stmt} {p0 p1 apos pos epos : Pos} {e : Expr} {es : List Expr} (eb : body = pre ++ .Expr (.Call (.Attribute (.Call (.Name "super" p0) [] [] p1) m apos) (e :: es) [] pos) epos :: post) (F : SupF K x qual params body scope dvs f D file fd) (T : SupT K mg D) (S : NdefX.NScope N ps ["__class__"] scope)
    (hr : Room (k + 1) A) (e0 : Env0 P w K mg base A outer s H) (hb : StX.Bnd CX P w K mg base fd args ps A outer s H E G) (hfile : ((P.main.file : Str) == file) = true) (htop : (P.main.scope.names.lookup ("super" : Str)).isSome = false) (hm : (m == ("__class__" : Str)) = false) (hks : scope.names.lookup ("super" : Str) = some .globalImplicit)
    (har : ((params.posonlyargs ++ params.args).head?).map (·.arg) = some ar) (hn0 : N[0]? = some ar) (hka : scope.names.lookup ar = some .local)
    (hbody : ∀ (cc cda : Addr) (s : Shared) (H : Hp) (vs : List V), Room k (scx CX P w K mg base N x qual params body scope cc cda f A outer s H E).A → G vs H →
      ∃ t1 ta t2 CX2 k2 f2 dvs2 sp2 E2, PSs (scx CX P w K mg base N x qual params body scope cc cda f A outer s H E) pre t1 ∧
        PA (scx CX P w K mg base N x qual params body scope cc cda f A outer s H E) (e :: es) ta ∧
        PSs (scx CX P w K mg base N x qual params body scope cc cda f A outer s H E) post t2 ∧
        PromO P w K mg base CX2 k2 f2 dvs2 sp2 ∧ k2 ≤ k ∧ Passes CX2 (scx CX P w K mg base N x qual params body scope cc cda f A outer s H E) E2 ∧
        t1 { nx := fun σ1 H1 => ∃ a C dx fs, σ1[0]? = some (some (.ref a)) ∧ H1 a = some (.ins C dx fs) ∧ SupC K C D m f2 ∧ ta σ1 H1 fun us H2 => sp2 (.ref a :: (us ++ dvs2)) H2 (fun _ H3 => t2 { nx := fun _ H' => Q .non H', rt := Q } σ1 H3) E2, rt := Q } (L2.start N vs) H)
    (hst : ∀ env : PySem.Env, starEach (e :: es) env = (false, eval e env) :: starEach es env := by intro _; rfl) (hpl : ∀ env : PySem.Env, (backTo pos (starEach es env)).any (·.1) = false := by intro _; rfl)
    (pl : PySem.Env → Sem Bool)
    (he : ∀ env : PySem.Env, eval (.Call (.Attribute (.Call (.Name "super" p0) [] [] p1) m apos) (e :: es) [] pos) env = (do
      let ov ← attributeBase (.Call (.Name "super" p0) [] [] p1) m env (eval (.Call (.Name "super" p0) [] [] p1) env)
      standAt apos.atName
      let (f, first) ← holding [ov] (getMethod ov m (pl env))
      callWith pos f first (backTo pos (starEach (e :: es) env)) []))
    (hsw : ∀ env : PySem.Env, swapsWith (.Call (.Attribute (.Call (.Name "super" p0) [] [] p1) m apos) (e :: es) [] pos) none epos.line env = pure false := by intro _; rfl) :
    codeAny (model P w) A (.call (.ref f) args) (CR CX outer P w H s Q E) s := by
  obtain ⟨oc, od, dV, kV, doc, pm, an, cda, ct, osl, cc, rfl, lk, hcd, _, ⟨cl, cld, csl, lkl⟩, ccl, cdd, vsc, ccs, tf, lkc, hvs⟩ := F.ex
  have KX0 : K.In s.heap := e0.mod.kin.keeps fun b o e => (e0.bs b o e).1
  refine codeAny_call_function hr.depth (KX0 _ _ lk) rfl S.co S.gen rfl (PySem.W.codeRec_of KX0 hcd) ?_
  refine hb _ _ _ fun s2 H2 vs us e2 un ho hxx r hl gg => ?_
  have KX : K.In s2.heap := e0.mod.kin.keeps fun b o e => (e2.bs b o e).1
  have lim : s2.heap.NoLimit := e0.mod.nolimit.keeps fun b o e => (e2.bs b o e).1
  have hpl2 : ps.length + 1 ≤ N.length := by
    have q := congrArg List.length S.pre
    rw [List.length_take, List.length_append] at q
    have : (["__class__"] : List Str).length = 1 := rfl
    omega
  refine wpAny_newFunctionEnv S.nocell (fun ⟨n, _⟩ hy => S.par n (List.of_mem_zip hy).1) (fun h₁ hns hsb => ⟨lim.fresh _ hsb, ks_codeAny_funcAt ?_⟩) S.kind
  have kp : ∀ b o, s2.heap.get? b = some o → h₁.get? b = some o := fun b o e => hsb.extBut b o (Nat.ne_of_lt (Heap.lt_size e)) (Heap.get?_push_of_some _ e)
  refine _root_.PySem.wpAt_mono (Q := fun fl s' => CR CX outer P w H s Q E (.ok (.ret (match fl with | .ret v => v | _ => .none))) s') (E := (scx CX P w K mg base N x qual params body scope cc cda f A outer s2 H2 E).xe) ?_ (fun _ _ z => z) (fun e s' hs => wpAny_mono hs (fun _ s'' z => hxx e s'' z) fun e' s'' z => hxx e' s'' z)
  obtain ⟨t1, ta, t2, CX2, k2, f2, dvs2, sp2, E2, h1, h2, h3, G, hk2, hx2, hq⟩ := hbody cc cda s2 H2 vs (hr.deeper _) gg
  have C : NdefX.CellsAt [(("__class__" : Str), cc)] ["__class__"] [none] s2.heap H2 := by
    have hc : s2.heap.get? cc = some ⟨cl, cld, .cell (some (.ref D)), csl⟩ := KX _ _ lkl
    have hH : H2 cc = none := by
      have hb : base.get? cc = some ⟨cl, cld, .cell (some (.ref D)), csl⟩ := e0.mod.kin _ _ lkl
      exact (e2.bs _ _ hb).2
    have one : ∀ (y : Str) (c : Addr), ([(("__class__" : Str), cc)] : List (Str × Addr)).lookup y = some c → y = "__class__" ∧ c = cc := fun y c hy => by
      rcases look_cons hy with ⟨e1, e2⟩ | z
      · exact ⟨e1, e2⟩
      · cases z
    refine ⟨rfl, fun y c hy => ?_, fun x y c hx hy => (one x c hx).1.trans (one y c hy).1.symm, fun i y hy => ?_⟩
    · obtain ⟨_, rfl⟩ := one y c hy
      exact ⟨hH, _, _, hc, rfl⟩
    · have e2 : y = "__class__" := by
        cases i with
        | zero => cases hy; rfl
        | succ i => cases hy
      subst e2
      refine ⟨cc, rfl, fun v hv => ?_⟩
      cases i with
      | zero => cases hv
      | succ i => cases hv
  have I := NdefX.inv_startN (CX := CX) (P := P) (w := w) (K := K) (mg := mg) (base := base) (N := N) (F := ⟨x, qual, params, body, scope, [("__class__", cc)], cda⟩) (f := f) (E := E) (tk := s2.toks + (ps.zip us).length) S hr.hd e2 hl r C hns kp
  have est : NdefX.startF N vs [none] = L2.start N vs := by
    unfold NdefX.startF L2.start
    congr 1
    rw [List.length_singleton, ← List.singleton_append]
    have : N.length - vs.length = (N.length - vs.length - 1) + 1 := by omega
    rw [this, List.replicate_succ]
    rfl
  rw [est] at I
  have SX : SupX (scx CX P w K mg base N x qual params body scope cc cda f A outer s2 H2 E) D f cda cc ar := by
    refine ⟨rfl, rfl, ?_, ⟨ccl, cdd, vsc, ccs, file, tf, lkc, hvs, hfile⟩, htop, hks, S.frk _ (List.mem_singleton.mpr rfl), rfl, ⟨cl, cld, csl, lkl⟩, T.cD, T.mg, T.st, hn0, hka⟩
    cases z : (params.posonlyargs ++ params.args).head? with
    | none => rw [z] at har; cases har
    | some a =>
      rw [z] at har
      exact ⟨_, _, _, _, a, lk, z, Option.some.inj har⟩
  have fin : ∀ {s' : Shared} {σ' : L2.St} {H' : Hp} {v : V} {u : Value}, Inv (scx CX P w K mg base N x qual params body scope cc cda f A outer s2 H2 E) [] σ' H' s' → L2.RelV v u → Q v H' → CE outer P w H s Q u s' :=
    fun {s' σ' H' v u} J rv q => ⟨v, H', J.os.trans ho, J.bare, un.trans J.base, J.hok, rv, q⟩
  have eb2 : execs body (scx CX P w K mg base N x qual params body scope cc cda f A outer s2 H2 E).env = execs (pre ++ .Expr (.Call (.Attribute (.Call (.Name "super" p0) [] [] p1) m apos) (e :: es) [] pos) epos :: post) (scx CX P w K mg base N x qual params body scope cc cda f A outer s2 H2 E).env := by rw [← eb]
  show _root_.PySem.wpAt _ _ _ (execs body _) _ _ _
  refine eb2 ▸ wpAt_app (wpAny_mono (h1.run [] _ (L2.start N vs) H2 _ I hq) (fun fl s' hs => ?_) fun _ _ z => z)
  cases fl with
  | ret u =>
    obtain ⟨v, σ', H', J, rv, q⟩ := hs
    exact fin J rv q
  | brk =>
    obtain ⟨_, _, _, q⟩ := hs
    exact False.elim q
  | cont =>
    obtain ⟨_, _, _, q⟩ := hs
    exact False.elim q
  | next =>
    obtain ⟨σ', H', J, q⟩ := hs
    refine ks_wpAt_execs_cons (_root_.PySem.wpAt_mono (sup_run (pl := pl _) SX hm h2 G ((hr.deeper _).mono hk2) hx2 J q (hst _) (hpl _) (he _) (hsw _)) (fun fl2 s3 hq2 => ?_) fun _ _ z => z)
    obtain ⟨rfl, H3, J2, q2⟩ := hq2
    refine _root_.PySem.wpAt_of_wpAny (wpAny_mono (h3.run [] s3 σ' H3 _ J2 q2) (fun fl s' hs => ?_) fun _ _ z => z)
    cases fl with
    | ret u =>
      obtain ⟨v, σ', H', J, rv, q⟩ := hs
      exact fin J rv q
    | next =>
      obtain ⟨σ', H', J, q⟩ := hs
      exact fin (v := V.non) (u := Value.none) J rfl q
    | brk =>
      obtain ⟨_, _, _, q⟩ := hs
      exact False.elim q
    | cont =>
      obtain ⟨_, _, _, q⟩ := hs
      exact False.elim q
/-- def f(a, .., *v) with super() in it -/
def starSp (n : Nat) (sp : Sp) : Sp := fun vs H Q E => ∃ ws rest, vs = ws ++ rest ∧ ws.length = n ∧ rest.length ≤ sizeLine ∧ ∀ p, H p = Option.none → sp (ws ++ [V.ref p]) (upd H p (.tup rest)) Q E
theorem bnd_star {pv : Str} {A : Around} {outer : List PySem.Env} {s : Shared} {H : Hp} {E : XK} {u1 u2 : List Value} {ws rest : List V} (hCX : StX.CXUp CX) (e0 : Env0 P w K mg base A outer s H) (r1 : Vals ws u1) (r2 : Vals rest u2) (hl : ws.length = ps.length) (hz : rest.length ≤ sizeLine)
    (hb : bindArgs fd ⟨u1 ++ u2, []⟩ = (newTuple u2 >>= fun t => pure (ps.zip u1 ++ [(pv, t)]))) :
    StX.Bnd CX P w K mg base fd ⟨u1 ++ u2, []⟩ (ps ++ [pv]) A outer s H E (fun xs H2 => ∃ p, H p = Option.none ∧ xs = ws ++ [V.ref p] ∧ H2 = upd H p (.tup rest)) := fun A' Ex Q' h => by
  have hn : H s.heap.objs.size = Option.none := e0.hok.fresh (Nat.le_refl _)
  have hl1 : u1.length = ps.length := by rw [← r1.length]; exact hl
  have hl2 : u2.length ≤ sizeLine := by rw [← r2.length]; exact hz
  rw [hb]
  refine wpAny_bind (wpAny_newTuple (wpAny_pure ?_) hl2)
  have new : ObjOk P w (upd H s.heap.objs.size (.tup rest)) (s.heap.push ({ cls := .type "tuple", data := .seq u2.toArray } : Obj)) s.heap.objs.size (.tup rest) := ⟨hz, u2, r2, ⟨_, Heap.get?_push_size _ rfl, rfl, _, rfl⟩⟩
  have un := StX.un_laid (fs := frs outer) (s := s) (o := ({ cls := .type "tuple", data := .seq u2.toArray } : Obj)) (u := .tup rest) hn
  have z := h _ _ (ws ++ [V.ref s.heap.objs.size]) (u1 ++ [Value.ref s.heap.objs.size]) (StX.env0_laid e0 new) un rfl (fun e s' => hCX outer s H _ _ E e s' un (fun b o q => Heap.get?_push_of_some _ q) rfl) (r1.append (.cons rfl .nil))
    (by rw [List.length_append, List.length_append, hl] <;> rfl) ⟨_, hn, rfl, rfl⟩
  rw [List.zip_append hl1.symm] at z
  exact z
theorem SupF.star {pv : Str} {pre post : List Stmt} {p0 p1 apos pos epos : Pos} {e : Expr} {es : List Expr} (eb : body = pre ++ .Expr (.Call (.Attribute (.Call (.Name "super" p0) [] [] p1) m apos) (e :: es) [] pos) epos :: post) (F : SupF K x qual params body scope [] f D file fd) (T : SupT K mg D) (S : NdefX.NScope N (ps ++ [pv]) ["__class__"] scope) (hCX : StX.CXUp CX)
    (hb : ∀ (cl : List (Str × Addr)) (kV doc pm : Value) (an : Option Addr) (cdv ct : Value) (us rest : List Value), us.length = ps.length → bindArgs (PySem.W.fnX x qual params body scope cl .none kV doc pm an cdv ct) ⟨us ++ rest, []⟩ = (newTuple rest >>= fun t => pure (ps.zip us ++ [(pv, t)])))
    (hfile : ((P.main.file : Str) == file) = true) (htop : (P.main.scope.names.lookup ("super" : Str)).isSome = false) (hm : (m == ("__class__" : Str)) = false) (hks : scope.names.lookup ("super" : Str) = some .globalImplicit)
    (har : ((params.posonlyargs ++ params.args).head?).map (·.arg) = some ar) (hn0 : N[0]? = some ar) (hka : scope.names.lookup ar = some .local)
    (hbody : ∀ (cc cda : Addr) (A : Around) (outer : List PySem.Env) (s : Shared) (H : Hp) (vs : List V) (Q : VK) (E : XK), Room k (scx CX P w K mg base N x qual params body scope cc cda f A outer s H E).A → sp vs H Q E →
      ∃ t1 ta t2 CX2 k2 f2 dvs2 sp2 E2, PSs (scx CX P w K mg base N x qual params body scope cc cda f A outer s H E) pre t1 ∧
        PA (scx CX P w K mg base N x qual params body scope cc cda f A outer s H E) (e :: es) ta ∧
        PSs (scx CX P w K mg base N x qual params body scope cc cda f A outer s H E) post t2 ∧
        PromO P w K mg base CX2 k2 f2 dvs2 sp2 ∧ k2 ≤ k ∧ Passes CX2 (scx CX P w K mg base N x qual params body scope cc cda f A outer s H E) E2 ∧
        t1 { nx := fun σ1 H1 => ∃ a C dx fs, σ1[0]? = some (some (.ref a)) ∧ H1 a = some (.ins C dx fs) ∧ SupC K C D m f2 ∧ ta σ1 H1 fun us H2 => sp2 (.ref a :: (us ++ dvs2)) H2 (fun _ H3 => t2 { nx := fun _ H' => Q .non H', rt := Q } σ1 H3) E2, rt := Q } (L2.start N vs) H)
    (hst : ∀ env : PySem.Env, starEach (e :: es) env = (false, eval e env) :: starEach es env := by intro _; rfl) (hpl : ∀ env : PySem.Env, (backTo pos (starEach es env)).any (·.1) = false := by intro _; rfl)
    (pl : PySem.Env → Sem Bool)
    (he : ∀ env : PySem.Env, eval (.Call (.Attribute (.Call (.Name "super" p0) [] [] p1) m apos) (e :: es) [] pos) env = (do
      let ov ← attributeBase (.Call (.Name "super" p0) [] [] p1) m env (eval (.Call (.Name "super" p0) [] [] p1) env)
      standAt apos.atName
      let (f, first) ← holding [ov] (getMethod ov m (pl env))
      callWith pos f first (backTo pos (starEach (e :: es) env)) []))
    (hsw : ∀ env : PySem.Env, swapsWith (.Call (.Attribute (.Call (.Name "super" p0) [] [] p1) m apos) (e :: es) [] pos) none epos.line env = pure false := by intro _; rfl) :
    FnR P w K mg base CX (k + 1) f (starSp ps.length sp) := by
  intro A outer s H us vs Q E hr e0 r hsp
  obtain ⟨ws, rest, ev, hl, hz, hq⟩ := hsp
  subst ev
  obtain ⟨u1, u2, eu, r1, r2⟩ := StX.vals_split r
  subst eu
  have hl1 : u1.length = ps.length := by rw [← r1.length]; exact hl
  have hbb : bindArgs fd ⟨u1 ++ u2, []⟩ = (newTuple u2 >>= fun t => pure (ps.zip u1 ++ [(pv, t)])) := by
    obtain ⟨oc, od, dV, kV, doc, pm, an, cda, ct, osl, cc, rfl, lk, hcd, hD, _⟩ := F.ex
    rcases hD with ⟨_, rfl⟩ | ⟨e, _⟩
    · exact hb _ _ _ _ _ _ _ _ _ hl1
    · exact absurd rfl e
  exact SupF.run eb F T S hr e0 (bnd_star hCX e0 r1 r2 hl hz hbb) hfile htop hm hks har hn0 hka (fun cc cda s2 H2 xs hr' ⟨p, hp, ex, eH⟩ => by
    subst ex eH
    exact hbody cc cda A outer s2 _ _ Q E hr' (hq p hp)) hst hpl pl he hsw
end
section
variable {g : Gw} {Mt U0 U U' : Addr → Prop} {H0 H H' H1 H2 : Hp} {b b1 b2 : Nat} {σ : L2.St} {ε ε' : Env} {E : XK}
/-- an instance made, its __init__ with a star -/
def rMkR (C : Addr) (sp : Sp) (E : XK) : List V → Hp → VK → Prop := fun vs H1 Q => ∀ x dx, H1 x = Option.none → H1 dx = Option.none → dx ≠ x → sp (V.ref x :: vs) (upd (upd H1 dx (.own x)) x (.ins C dx [])) (fun v H2 => v = .non ∧ Q (.ref x) H2) E
theorem pe_mkR {X : Cx} {CX : CXT} {k : Nat} {f C : Addr} {sp : Sp} {x : Str} {e : Expr} {es : List Expr} {t : TA} {p pos : Pos} (M : Mk X.K C f) (F : FnR X.prog X.w X.K X.mg X.base CX k f sp) (hr : Room (k + 1) X.A) (hg : Gl X x) (hm : X.mg x = some (.ref C)) (hx : Passes CX X E) (ha : PA X (e :: es) t) (hdb : (x == ("__debug__" : Str)) = false := by decide)
    (he : starEach (e :: es) X.env = (false, eval e X.env) :: starEach es X.env := by rfl) (hpl : (backTo pos (starEach es X.env)).any (·.1) = false := by rfl) : PE X (.Call (.Name x p) (e :: es) [] pos) (tCl (rMkR C sp E) t) := StX.pe_makeR M F hr hg hm hx ha hdb he hpl
def stD {α : Type} (n : Nat) (ds : List D) (k : List D → Tr α) : Tr α := if n ≤ ds.length ∧ ds.length ≤ sizeLine then k (ds.take n ++ [.tup (ds.drop n)]) else .bad
theorem srl_mkR {cn : Str} {n : Nat} {F : Fs → List D → Tr Fs} : SRL g E (rMkR (gd cn g.K) (starSp (n + 1) (spI g.K g.T cn F)) E) (fun ds => stD n ds fun es => bd (F [] es) fun fs => .ok (.obj cn fs)) := fun U H b xs dxs Q dn wd u q => by
  dsimp only [stD] at q
  split at q
  · rename_i hn
    have hlx := dn.length
    intro x dx nx ndx ne
    refine ⟨.ref x :: xs.take n, xs.drop n, by rw [List.cons_append, List.take_append_drop], by rw [List.length_cons, List.length_take, hlx]; omega, by rw [List.length_drop, hlx]; omega, fun p np => ?_⟩
    have s1 : L2.Same H (upd (upd H dx (.own x)) x (.ins (gd cn g.K) dx [])) := fun a o e => by
      rw [upd_ne (ne_of_none e nx), upd_ne (ne_of_none e ndx)]
      exact e
    have s2 := s1.trans (same_new (o := .tup (xs.drop n)) np)
    have nxp : x ≠ p := fun z => by
      subst z
      rw [upd_same] at np
      cases np
    have nU : ¬ U x := u.new nx
    have hp : x ≠ g.p := fun z => nU (z ▸ u.p)
    have hc : x ≠ g.c := fun z => nU (z ▸ u.c)
    have pU : ¬ U p := fun z => by
      obtain ⟨o, e, _⟩ := u.al p z
      rw [s1 _ _ e] at np
      cases np
    have k0 : DenL g (fun a => U a ∨ a = x) (upd (upd (upd H dx (.own x)) x (.ins (gd cn g.K) dx [])) p (.tup (xs.drop n))) xs dxs := (dn.grow nx).ext (fun a o e _ _ => s2 a o e)
    have k1 : DenL g (fun a => U a ∨ a = x) (upd (upd (upd H dx (.own x)) x (.ins (gd cn g.K) dx [])) p (.tup (xs.drop n))) (xs.take n ++ [.ref p]) (dxs.take n ++ [.tup (dxs.drop n)]) :=
      (k0.take n).append (.cons (.tup upd_same (fun z => z.elim pU (fun z => nxp z.symm)) (by rw [List.length_drop, hlx]; omega) (k0.drop n)) .nil)
    have k2 : UOk g (fun a => U a ∨ a = x) (upd (upd (upd H dx (.own x)) x (.ins (gd cn g.K) dx [])) p (.tup (xs.drop n))) := ⟨.inl u.p, .inl u.c, fun a ha => by
      rcases ha with ha | rfl
      · obtain ⟨o, e, t⟩ := u.al a ha
        exact ⟨o, s2 a o e, t⟩
      · exact ⟨_, by rw [upd_ne nxp, upd_same], fun _ z => by cases z⟩⟩
    have fr : ∀ {H' : Hp}, FrM g (· = x) (upd (upd (upd H dx (.own x)) x (.ins (gd cn g.K) dx [])) p (.tup (xs.drop n))) H' → Fr H H' g.p := fun f1 a o e n t => f1 a o (s2 a o e) n (fun z => ne_of_none e nx z) t
    exact ⟨g.p, g.c, fun a => U a ∨ a = x, _, b, x, dx, [], [], xs.take n ++ [.ref p], rfl, by rw [upd_ne nxp, upd_same], .nil, .inr rfl, hp, hc, k1, wd.same s2, k2,
      (al_bd.mp q).mono (fun fs b1 h1 dx' fvs' H' e1 d1 w1 f1 => ⟨rfl, h1 _ H' (.obj e1 nU (d1.sub fun a _ z => .inl z)) w1 (fr f1)⟩) (fun c fs b1 h1 dd fvs H' e1 n1 d1 w1 f1 => h1 dd fvs H' e1 (fun z => n1 (.inl z)) (d1.sub fun a _ z => .inl z) w1 (fr f1))⟩
  · exact q.elim
end
end Gp

set_option Elab.async false
set_option linter.all false
set_option maxRecDepth 100000
set_option maxHeartbeats 4000000
/-! Pt: fields called, class constants, enumerate. -/
namespace Gp
open PySem PySem.Spec PyProof.Rows L2 Gh
/-! ### o.f(..), f a field that holds an instance which may be called -/
def tFCall (C : Addr) (m : Str) (C2 : Addr) (sp : Sp) (E : XK) (ta : TE) (t : TA) : TE := fun σ H Q => ta σ H fun x H1 => ∃ a dx fs b, x = .ref a ∧ H1 a = some (.ins C dx fs) ∧ fs.lookup m = some (.ref b) ∧ t σ H1 fun vs H2 => (∃ dx fs, H2 b = some (.ins C2 dx fs)) ∧ sp (.ref b :: vs) H2 Q E
theorem pe_fcall {X : Cx} {CX : CXT} {k : Nat} {C C2 g : Addr} {sp : Sp} {E : XK} {o e : Expr} {es : List Expr} {m : Str} {ta : TE} {t : TA} {apos pos : Pos} {pl : Sem Bool} (he : PE X o ta) (c : Cls X.K C) (n : NoAttr X.K C m) (co : StX.CallO X.K C2 g) (F : PromOX X CX k g [] sp) (hr : Room k X.A) (hx : Passes CX X E) (ha : PA X (e :: es) t)
    (hst : starEach (e :: es) X.env = (false, eval e X.env) :: starEach es X.env := by rfl) (hpl : (backTo pos (starEach es X.env)).any (·.1) = false := by rfl)
    (ht : eval (.Call (.Attribute o m apos) (e :: es) [] pos) X.env = (do
      let ov ← eval o X.env
      standAt apos.atName
      let (f, first) ← holding [ov] (getMethod ov m pl)
      callWith pos f first (backTo pos (starEach (e :: es) X.env)) (backToKw pos (keywordEach [] X.env))) := by rfl) :
    PE X (.Call (.Attribute o m apos) (e :: es) [] pos) (tFCall C m C2 sp E ta t) := by
  refine ⟨fun pins s σ H Q I h => ?_⟩
  refine PySem.W.methodCall_KW (pl := pl) (thn (he.run pins s σ H _ I h) fun u s1 ⟨x, H1, I1, rx, a, dx, fs, b, ex, ea, l, q⟩ => ?_) ht
  subst ex
  obtain rfl : u = Value.ref a := rx
  obtain ⟨mA, O, rr, _, _, _⟩ := ins_get I1.hok ea
  obtain ⟨od, J, hl⟩ := O.look
  refine PySem.W.method_usual (r := none) I1.kIn J (PySem.W.plainGet_of (c.get m)).1 (PySem.W.plainGet_of (c.get m)).2 n rfl ?_
  refine getattr_ok I1 ea c n l fun u s2 I2 ru => ?_
  obtain rfl : u = Value.ref b := ru
  refine StX.callO_with (thn (ha.run pos pins s2 σ H1 _ I2 q) fun us s3 ⟨vs, H2, I3, rv, hi, q2⟩ => ?_) hst hpl
  obtain ⟨ox, od, J, hd⟩ := StX.insC_at I3 (.inr hi)
  exact ⟨⟨C2, ox, od, J, hd⟩, StX.run_callO co (PromO.raw F) hr hx I3 (.inr hi) rv q2⟩
/-! ### class constants -/
structure CvT (K : PySem.W.Frag) (C : Addr) (f : Str) (v : V) : Prop where
  r : ClX.CRead K C (.type "type")
  v : ∃ u, ClX.CVal K C (.type "type") f v u
def cvB (c f : Str) (i : Int) (K : PySem.W.Frag) : Bool := PySem.W.readsIn K (gd c K) (.type "type") && (match PySem.W.findCls K (.ref (gd c K)) (.type "type") f with
  | some (.val (.int j _)) => decide (j = i)
  | _ => false)
theorem cvB_ok {c f : Str} {i : Int} {K : PySem.W.Frag} (h : cvB c f i K = true) : CvT K (gd c K) f (.int i) := by
  obtain ⟨h1, h2⟩ := He.ba h
  refine ⟨⟨h1, ?_⟩, ?_⟩
  · have h := h1
    unfold PySem.W.readsIn at h
    obtain ⟨h, _⟩ := He.ba h
    obtain ⟨h, _⟩ := He.ba h
    obtain ⟨h, h3⟩ := He.ba h
    obtain ⟨_, h2⟩ := He.ba h
    unfold PySem.W.specialIn
    rw [beq_iff_eq.mp h2, Option.bind_some]
    exact beq_iff_eq.mp h3
  · split at h2
    · rename_i e
      have := of_decide_eq_true h2
      subst this
      exact ⟨_, e, ⟨_, rfl⟩⟩
    · cases h2
/-! ### enumerate -/
def iEnA (K : PySem.W.Frag) (ta : TA) : TI := fun σ H R => ta σ H fun vs H1 => (∃ a xs, vs = [.ref a] ∧ SqL K H1 a xs ∧ R (Ite K a) H1) ∨ ∃ a xs, vs = [.ref a] ∧ SqT K H1 a xs ∧ R (Itu K a) H1
def enD : D → Tr (List D)
  | .lst ds => .ok (ds.mapIdx fun i d => .tup [.int i, d])
  | .tup ds => .ok (ds.mapIdx fun i d => .tup [.int i, d])
  | _ => .bad
section
variable {g : Gw} {Mt U0 U U' : Addr → Prop} {H0 H H' H1 H2 : Hp} {b b1 b2 : Nat} {σ : L2.St} {ε ε' : Env} {E : XK}
theorem se_cval {c f : Str} {v : V} {d : D} (hd : ∀ U H, Den g U H v d) (h : CvT g.K (gd c g.K) f v) : SE g E ε (ClX.tCVal g.K (tC (.ref (gd c g.K))) f) (.ok d) := fun U σ H b Q R W u q => by
  obtain ⟨w, k⟩ := h.v
  exact ⟨_, _, v, w, rfl, h.r, k, okP.here q W (hd U H)⟩
theorem se_fcall {c m c2 : Str} {F : List D → Tr D} {ta : TE} {ma : Tr D} {t : TA} {mt : Tr (List D)} (ha : SE g E ε ta ma) (ht : SA g E ε t mt) :
    SE g E ε (tFCall (gd c g.K) m (gd c2 g.K) (spF g.K g.T F) E ta t) (bd ma fun o => isO c o fun fs => match fs.lookup m with | some y => isO c2 y fun _ => bd mt fun ds => F (y :: ds) | none => .bad) := fun U σ H b Q R W u q =>
  ha.step R W u q fun v d H1 b1 d1 w1 f1 R1 u1 q1 => by
    obtain ⟨fs, rfl, q2⟩ := al_isO q1
    obtain ⟨a, dx, fvs, rfl, ea, na, df⟩ := den_obj d1
    cases e : fs.lookup m with
    | none => rw [e] at q2; exact q2.elim
    | some y =>
      rw [e] at q2
      obtain ⟨v, hv, dy⟩ := df.look e
      obtain ⟨fs2, rfl, q3⟩ := al_isO q2
      obtain ⟨a2, dx2, fvs2, rfl, ea2, na2, df2⟩ := den_obj dy
      refine ⟨a, dx, fvs, a2, rfl, ea, hv, ht.step R1 w1 u1 q3 fun vs ds H2 b2 dv w2 f2 R2 u2 q4 => ?_⟩
      have np : a2 ≠ g.p := fun z => na2 (z ▸ u1.p)
      exact ⟨⟨dx2, fvs2, f2 _ _ ea2 np (fun _ z => by cases z)⟩, g.p, g.c, U, _, b2, .cons (dy.fr u1 f2) dv, w2, u2, q4.mono (fun _ _ h => h.fr (f1.trans f2)) (fun _ _ _ h => h)⟩
theorem pi_enumA {X : Cx} {K : PySem.W.Frag} {e : Expr} {ta : TA} {p pos tpos : Pos} {elts : List Expr} {kk : Nat} (hK : X.K = K) (hg : Gl X "enumerate") (hm : X.mg "enumerate" = none) (ha : PA X [e] ta) (hs : starEach [e] X.env = [(false, eval e X.env)] := by rfl) :
    PI X (.Tuple elts kk tpos) (.Call (.Name "enumerate" p) [e] [] pos) (iEnA K ta) := by
  subst hK
  refine ⟨fun pins s σ H R I h => ?_⟩
  refine Call_ (ld_blt I hg hm boot_enumerate (PyProof.Rows.callWith_type1 (thn (ha.run pos pins s σ H _ I h) fun us s1 ⟨vs, H1, I1, r1, q1⟩ => ?_) hs rfl))
  have fp : ∀ b ∈ [s1.heap.objs.size + 1, s1.heap.objs.size], FpOk X pins H1 b := fun b hb => by
    have e' : b = s1.heap.objs.size + 1 ∨ b = s1.heap.objs.size := by simpa using hb
    have hle : s1.heap.objs.size ≤ b := by
      rcases e' with z | z
      · rw [z]; exact Nat.le_add_right _ _
      · rw [z]; exact Nat.le_refl _
    exact I1.fpOk hle (I1.hok.fresh hle)
  rcases q1 with ⟨a, xs, ex, hq, q⟩ | ⟨a, xs, ex, hq, q⟩
  · subst ex
    cases r1 with
    | cons r rr =>
      cases rr
      cases r
      obtain ⟨its, rv, p', hz⟩ := I1.list hq
      refine call_enumerate_list p'.isList fun h' he hit hsz hk => wpAny_pyIter_enum he ?_
      have I2 : Inv X pins σ H1 { s1 with heap := h' } := I1.kept (t' := s1.toks) hk
      exact ⟨s1.heap.objs.size + 1, [s1.heap.objs.size + 1, s1.heap.objs.size], _, _, H1, rfl, I2, turn_enum a (s1.heap.objs.size + 1) s1.heap.objs.size, ⟨⟨.none, he⟩, hit, Nat.succ_ne_self _⟩, fp, q⟩
  · subst ex
    cases r1 with
    | cons r rr =>
      cases rr
      cases r
      obtain ⟨its, rv, p', hz⟩ := I1.tuple hq
      have hal : a < s1.heap.objs.size := by obtain ⟨_, z, _⟩ := p'; exact Heap.lt_size z
      refine call_enumerate_tup p' fun h' he hit hsz hk => wpAny_pyIter_enum he ?_
      have I2 : Inv X pins σ H1 { s1 with heap := h' } := I1.kept (t' := s1.toks) hk
      exact ⟨s1.heap.objs.size + 1, [s1.heap.objs.size + 1, s1.heap.objs.size], _, _, H1, rfl, I2, turn_enumT a (s1.heap.objs.size + 1) s1.heap.objs.size, ⟨⟨.none, he⟩, hit, Nat.succ_ne_self _, Nat.ne_of_lt hal, Nat.ne_of_gt (Nat.lt_succ_of_lt hal)⟩, fp, q⟩
theorem den_pair {x : V} {d : D} {T : Addr} (i : Nat) (u : UOk g U H1) (n : H1 T = none) (h : Den g U H1 x d) : Den g U (upd H1 T (.tup [.int i, x])) (.ref T) (.tup [.int i, d]) := by
  have s := same_new (o := .tup [.int i, x]) n
  exact .tup upd_same (u.new n) (by show 2 ≤ sizeLine; decide) (.cons (.int _) (.cons (h.ext (u.extU (fr_same s))) .nil))
theorem itd_enL {a : Addr} {vs : List V} {ds : List D} (h : H a = some (.lst vs)) (n : ¬ U a) (k : DenL g U H vs ds) : ItD g U H (Ite g.K a) (ds.mapIdx fun i d => .tup [.int i, d]) := fun i U1 H1 b e w u => by
  have h1 : H1 a = some (.lst vs) := e.keep _ _ h n (fun _ z => by cases z)
  refine ⟨fun d hd => ?_, fun hl => ⟨vs, SqL.of h1, by rw [k.length]; rw [List.length_mapIdx] at hl; exact Nat.le_of_eq hl⟩⟩
  rw [List.getElem?_mapIdx] at hd
  cases q : ds[i]? with
  | none => rw [q] at hd; cases hd
  | some d0 =>
    rw [q] at hd
    cases hd
    obtain ⟨v, hv, dn⟩ := k.getD q
    refine ⟨⟨vs, v, SqL.of h1, hv⟩, ?_⟩
    rintro x H2 ⟨T, y, rfl, nT, rfl, hy⟩
    have e2 := hy vs (SqL.of h1)
    rw [hv] at e2
    cases e2
    exact ⟨den_pair i u nT (dn.ev e), same_new nT⟩
theorem itd_enT {a : Addr} {vs : List V} {ds : List D} (h : ∀ U1 H1, Ev U H U1 H1 → SqT g.K H1 a vs) (k : DenL g U H vs ds) : ItD g U H (Itu g.K a) (ds.mapIdx fun i d => .tup [.int i, d]) := fun i U1 H1 b e w u => by
  have h1 := h U1 H1 e
  refine ⟨fun d hd => ?_, fun hl => ⟨vs, h1, by rw [k.length]; rw [List.length_mapIdx] at hl; exact hl⟩⟩
  rw [List.getElem?_mapIdx] at hd
  cases q : ds[i]? with
  | none => rw [q] at hd; cases hd
  | some d0 =>
    rw [q] at hd
    cases hd
    obtain ⟨v, hv, dn⟩ := k.getD q
    refine ⟨⟨vs, v, h1, hv⟩, ?_⟩
    rintro x H2 ⟨T, y, rfl, nT, rfl, hy⟩
    have e2 := hy vs h1
    rw [hv] at e2
    cases e2
    exact ⟨den_pair i u nT (dn.ev e), same_new nT⟩
theorem si_enum {t : TA} {m : Tr (List D)} (ha : SA g E ε t m) : SI g E ε (iEnA g.K t) (bd m (ul1 enD)) := fun U σ H b R rl wd u q =>
  ha.step rl wd u q fun v d H1 b1 d1 w1 f1 R1 u1 q1 => by
    obtain ⟨x, rfl, q2⟩ := al_ul1 q1
    obtain ⟨v, rfl, e1⟩ := denL_1 d1
    cases x with
    | lst ds =>
      obtain ⟨a, vs, rfl, h, n, l, k⟩ := den_lst e1
      exact .inl ⟨a, vs, rfl, SqL.of h, q2 _ H1 (by rw [List.length_mapIdx, ← k.length]; exact l) (itd_enL h n k) w1 f1⟩
    | tup ds =>
      obtain ⟨a, vs, rfl, h, l, k⟩ := den_tupE e1
      exact .inr ⟨a, vs, rfl, h U H1 Ev.refl, q2 _ H1 (by rw [List.length_mapIdx, ← k.length]; exact l) (itd_enT h k) w1 f1⟩
    | _ => exact q2.elim
variable {W L : Type} {env : W → Env} {envL : L → Env} {a r : TS} {t : TS} {m : Tr (Fl W L)}
theorem ss_assoc {c : TS} (h : SS g E ε (tSeq a (tSeq c r)) env envL m) : SS g E ε (tSeq (tSeq a c) r) env envL m := h
theorem ss_next (h : SS g E ε r env envL m) : SS g E ε (tSeq tNext r) env envL m := h
end
theorem sup_goal {K : PySem.W.Frag} {B f2 : Addr} {m : Str} {t1 t2 : TS} {ta : TA} {sp2 : Sp} {dvs2 : List V} {E2 : XK} {Q : VK} {σ : L2.St} {H : Hp} (h : tSeq t1 (tSeq (tSup K B m f2 ta sp2 dvs2 E2) t2) { nx := fun _ H' => Q .non H', rt := Q } σ H) :
    t1 { nx := fun σ1 H1 => ∃ a C dx fs, σ1[0]? = some (some (.ref a)) ∧ H1 a = some (.ins C dx fs) ∧ SupC K C B m f2 ∧ ta σ1 H1 fun us H2 => sp2 (.ref a :: (us ++ dvs2)) H2 (fun _ H3 => t2 { nx := fun _ H' => Q .non H', rt := Q } σ1 H3) E2, rt := Q } σ H := h
/-- a, b, c = x, y, z -/
theorem ss_par3 {g : Gw} {ε : Env} {E : XK} {W L : Type} {env : W → Env} {envL : L → Env} {u : TS} {i j l : Nat} {t : TA} {m : Tr (List D)} {k : D → D → D → Tr (Fl W L)} (he : SA g E ε t m) (hk : ∀ x y z, SS g E (((ε.set i (.fz x)).set j (.fz y)).set l (.fz z)) u env envL (k x y z)) :
    SS g E ε (tSeq (tPar3 i j l t) u) env envL (bd m (ul3 k)) := fun Mt U0 H0 U D σ H b s q =>
  he.sstep s q fun v d H1 b1 d1 s1 q1 => by
    obtain ⟨x, y, z, rfl, q2⟩ := al_ul3 q1
    obtain ⟨v1, v2, v3, rfl, e1, e2, e3⟩ := denL_3 d1
    exact ⟨v1, v2, v3, rfl, hk x y z Mt U0 H0 U D _ H1 b1 (((s1.set i e1).set j e2).set l e3) q2⟩
end Gp

set_option Elab.async false
set_option linter.all false
set_option maxRecDepth 100000
set_option maxHeartbeats 4000000
/-! Hl: heads whose fragment's addresses are told as a list (growing them costs the square of their number). -/
namespace Gp
open PySem PySem.Spec PyProof.Rows L2 Gh
def frL {α : Type} : List (Addr × Obj) → (List (Addr × Obj) → α) → α
  | [], k => k []
  | (a, o) :: r, k => frL r fun r' => k ((a, o) :: r')
theorem frL_eq {α : Type} : ∀ (l : List (Addr × Obj)) (k : List (Addr × Obj) → α), frL l k = k l
  | [], _ => rfl
  | (a, o) :: r, k => by
    show frL r (fun r' => k ((a, o) :: r')) = _
    rw [frL_eq r]
def obsK (ex : List (PySem.W.Frag → Bool)) (fn : List Df) (tf : List He.Defn) (fs : List Ds) (file : Str) (g : Addr → Option Obj) (K : PySem.W.Frag) : AlS :=
  ((obs ex fn K, He.tabsB g tf K), (fs.all fun d => d.ok file K), fs.map fun d => fnAtS K (d.d.adr K))
def obsL (as : List Addr) (ex : List (PySem.W.Frag → Bool)) (fn : List Df) (tf : List He.Defn) (fs : List Ds) (file : Str) (g : Addr → Option Obj) : AlS := frL (He.frT g as) fun K => obsK ex fn tf fs file g K
theorem saysL_of {as : List Addr} {ex : List (PySem.W.Frag → Bool)} {fn : List Df} {tf : List He.Defn} {h : Heap} (e1 : obs ex fn (He.frT h.get? as) = val fn) (e2 : He.tabsB h.get? tf (He.frT h.get? as) = true) : SaysT ex fn tf h (He.frT h.get? as) := by
  have key : ∀ p ∈ tf, PySem.W.codeHdIn (He.frT h.get? as) (He.cT (He.frT h.get? as) p).1 (He.cT (He.frT h.get? as) p).2 = true ∧ ∃ o, h.get? (He.cT (He.frT h.get? as) p).2 = some o ∧ He.emptyTab o = true := fun p hp => by
    obtain ⟨h3, h4⟩ := He.ba (List.all_eq_true.mp e2 p hp)
    refine ⟨h3, ?_⟩
    cases q : h.get? (He.cT (He.frT h.get? as) p).2 with
    | none =>
      rw [q] at h4
      cases h4
    | some o =>
      rw [q] at h4
      exact ⟨o, rfl, h4⟩
  exact ⟨e1, fun p hp => (key p hp).1, fun p hp => by
    obtain ⟨_, o, q, z⟩ := key p hp
    exact He.frT_none q z, fun p hp => by
    obtain ⟨_, o, q, z⟩ := key p hp
    rw [q, He.emptyTab_eq z]⟩
def hookL (as : List Addr) (ex : List (PySem.W.Frag → Bool)) (fn : List Df) (tf : List He.Defn) (fs : List Ds) (file : Str) : PySem.W.Hook where
  α := AlS
  obs := fun s => obsL as ex fn tf fs file s.heap.get?
  val := fun _ => ((Gh.val fn, true), true, fs.map Ds.val)
  says := fun _ h => ∃ K : PySem.W.Frag, K.In h ∧ SaysS ex fn tf fs file h K
  of := fun _ s e => by
    have e' : obsK ex fn tf fs file _ (He.frT _ as) = ((Gh.val fn, true), true, fs.map Ds.val) := (frL_eq _ _).symm.trans e
    exact ⟨_, He.frT_in, ⟨saysL_of (congrArg (fun z : AlS => z.1.1) e') (congrArg (fun z : AlS => z.1.2) e'), congrArg (fun z : AlS => z.2.1) e', congrArg (fun z : AlS => z.2.2) e'⟩⟩
  keeps := fun _ _ _ ⟨K, hK, c⟩ k => ⟨K, PySem.W.Frag.In.keeps hK k, ⟨⟨c.s.t, c.s.hd, c.s.out, fun p hp => k _ _ (c.s.empty p hp)⟩, c.o, c.v⟩⟩
theorem obsL_eq {as : List Addr} {ex : List (PySem.W.Frag → Bool)} {fn : List Df} {tf : List He.Defn} {fs : List Ds} {file : Str} {g : Addr → Option Obj} {s : Shared} (h : ∀ a, g a = s.heap.get? a) : obsL as ex fn tf fs file g = (hookL as ex fn tf fs file).obs s := by
  have e : g = s.heap.get? := funext h
  rw [e] <;> rfl
end Gp

set_option linter.all false
set_option maxRecDepth 100000
/-! Pa: what comes of a tree, in plain words: Bo P m n: no error, at most n draws, P of what comes. -/
namespace Gp
open PySem
section
variable {α β γ : Type}
def Bo (P : α → Prop) : Tr α → Nat → Prop
  | .ok a, _ => P a
  | .ex _ _, _ => False
  | .bad, _ => False
  | .draw m k, n => ∃ n', n = n' + 1 ∧ 0 < m ∧ m < 10 ^ 100 ∧ ∀ d, 0 ≤ d → d < m → Bo P (k d) n'
theorem Bo.mono {P Q : α → Prop} (h : ∀ a, P a → Q a) : ∀ {m : Tr α} {n k : Nat}, n ≤ k → Bo P m n → Bo Q m k
  | .ok a, _, _, _, z => h a z
  | .ex _ _, _, _, _, z => z
  | .bad, _, _, _, z => z
  | .draw m f, n, k, l, ⟨n', e, h1, h2, h3⟩ => ⟨k - 1, by omega, h1, h2, fun d d0 d1 => Bo.mono h (m := f d) (n := n') (by omega) (h3 d d0 d1)⟩
theorem Bo.bd {P : α → Prop} {Q : β → Prop} {k : α → Tr β} {b : Nat} : ∀ {m : Tr α} {a : Nat}, Bo P m a → (∀ x, P x → Bo Q (k x) b) → Bo Q (bd m k) (a + b)
  | .ok x, a, h, hk => (hk x h).mono (fun _ z => z) (Nat.le_add_left _ _)
  | .ex _ _, _, h, _ => h
  | .bad, _, h, _ => h
  | .draw m f, a, ⟨n', e, h1, h2, h3⟩, hk => ⟨n' + b, by omega, h1, h2, fun d d0 d1 => Bo.bd (m := f d) (h3 d d0 d1) hk⟩
theorem Bo.al {P : α → Prop} {Q : α → Nat → Prop} {E : Str → Fs → Nat → Prop} (h : ∀ a b, P a → Q a b) : ∀ {m : Tr α} {n : Nat}, Bo P m n → Al Q E m n
  | .ok a, _, z => h a _ z
  | .ex _ _, _, z => z.elim
  | .bad, _, z => z
  | .draw m f, n, ⟨n', e, h1, h2, h3⟩ => ⟨n', e, h1, h2, fun d d0 d1 => Bo.al (m := f d) h (h3 d d0 d1)⟩
theorem Bo.yes {F : Tr D} {n : Nat} (hn : n ≤ 1000000) (h : Bo (fun d => d = .bl true) F n) : Yes F :=
  Bo.al (fun _ _ z => z) (h.mono (fun _ z => z) hn)
theorem bo_ok {P : α → Prop} {a : α} {n : Nat} (h : P a) : Bo P (.ok a) n := h
theorem bo_draw {P : α → Prop} {m : Int} {k : Int → Tr α} {n : Nat} (h1 : 0 < m) (h2 : m < 10 ^ 100) (h : ∀ d, 0 ≤ d → d < m → Bo P (k d) n) : Bo P (.draw m k) (n + 1) := ⟨n, rfl, h1, h2, h⟩
theorem bo_nox {P : α → Prop} : ∀ {m : Tr α} {n : Nat}, Bo P m n → Bo P (nox m) n
  | .ok a, _, z => z
  | .ex _ _, _, z => z
  | .bad, _, z => z
  | .draw m f, n, ⟨n', e, h1, h2, h3⟩ => ⟨n', e, h1, h2, fun d d0 d1 => bo_nox (m := f d) (h3 d d0 d1)⟩
variable {W L : Type}
/-- a loop by its invariant over what is left -/
theorem bo_for {f : D → W → Tr (Fl W W)} {P : Fl W L → Prop} {c : Nat} (I : List D → W → Prop) : ∀ (ds : List D) (w : W), I ds w →
    (∀ w, I [] w → P (.nx w)) →
    (∀ d ds w, I (d :: ds) w → Bo (fun r => match r with | .nx w' => I ds w' | .ct w' => I ds w' | .bk w' => P (.nx w') | .rt d => P (.rt d)) (f d w) c) →
    Bo P (forF f ds w) (c * ds.length)
  | [], w, h, h0, _ => h0 w h
  | d :: ds, w, h, h0, h1 => by
    rw [forF_cons, List.length_cons, Nat.mul_succ, Nat.add_comm]
    refine (h1 d ds w h).bd fun r hr => ?_
    cases r with
    | nx w' => exact bo_for I ds w' hr h0 h1
    | ct w' => exact bo_for I ds w' hr h0 h1
    | bk w' => exact Bo.mono (m := .ok _) (fun _ z => z) (Nat.zero_le _) (show Bo P (.ok (Fl.nx w')) 0 from hr)
    | rt d => exact Bo.mono (m := .ok _) (fun _ z => z) (Nat.zero_le _) (show Bo P (.ok (Fl.rt d)) 0 from hr)
theorem forF_unit {f : D → Unit → Tr (Fl Unit Unit)} : ∀ {ds : List D}, (∀ d ∈ ds, f d () = .ok (.nx ())) → forF (L := L) f ds () = .ok (.nx ())
  | [], _ => rfl
  | d :: ds, h => by
    rw [forF_cons, h d List.mem_cons_self]
    exact forF_unit fun x hx => h x (List.mem_cons_of_mem _ hx)
/-- a comprehension whose turns draw nothing -/
theorem lcF_map {f : D → Tr (Option D)} {g : D → D} : ∀ {ds : List D}, (∀ d ∈ ds, f d = .ok (some (g d))) → lcF f ds = .ok (ds.map g)
  | [], _ => rfl
  | d :: ds, h => by
    rw [lcF_cons, h d List.mem_cons_self, bd_ok, lcF_map fun x hx => h x (List.mem_cons_of_mem _ hx)]
    rfl
theorem lcF_filter {f : D → Tr (Option D)} {g : D → Option D} : ∀ {ds : List D}, (∀ d ∈ ds, f d = .ok (g d)) → lcF f ds = .ok (ds.filterMap g)
  | [], _ => rfl
  | d :: ds, h => by
    rw [lcF_cons, h d List.mem_cons_self, bd_ok, lcF_filter fun x hx => h x (List.mem_cons_of_mem _ hx), bd_ok, List.filterMap_cons]
    cases g d <;> rfl
end
end Gp

set_option linter.all false
set_option maxRecDepth 100000
set_option maxHeartbeats 4000000
/-! Sm: simple steps. -/
namespace Gp
open PySem
/-! simple steps -/
@[simp] theorem s_bd {α β : Type} (a : α) (k : α → Tr β) : bd (.ok a) k = k a := rfl
@[simp] theorem s_bdx {α β : Type} (c : Str) (fs : Fs) (k : α → Tr β) : bd (.ex c fs) k = .ex c fs := rfl
@[simp] theorem s_bdd {α β : Type} (m : Int) (f : Int → Tr α) (k : α → Tr β) : bd (.draw m f) k = .draw m fun d => bd (f d) k := rfl
@[simp] theorem s_nox {α : Type} (a : α) : nox (.ok a) = .ok a := rfl
@[simp] theorem s_bdF {W W' L : Type} (w : W') (k : W' → Tr (Fl W L)) : bdF (.ok (.nx w)) k = k w := rfl
@[simp] theorem s_bdFr {W W' L : Type} (d : D) (k : W' → Tr (Fl W L)) : bdF (.ok (.rt d)) k = .ok (.rt d) := rfl
@[simp] theorem s_finr (d : D) : fin (.ok (.rt d)) = .ok d := rfl
@[simp] theorem s_finn (w : Unit) : fin (.ok (.nx w)) = .ok .non := rfl
@[simp] theorem s_finI (fs : Fs) : finI (.ok (.nx fs)) = .ok fs := rfl
@[simp] theorem s_asB (b : Bool) : asB (.bl b) = .ok b := rfl
@[simp] theorem s_ul0 {α : Type} (k : Tr α) : ul0 k [] = k := rfl
@[simp] theorem s_ul1 {α : Type} (k : D → Tr α) (x : D) : ul1 k [x] = k x := rfl
@[simp] theorem s_ul2 {α : Type} (k : D → D → Tr α) (x y : D) : ul2 k [x, y] = k x y := rfl
@[simp] theorem s_ul3 {α : Type} (k : D → D → D → Tr α) (x y z : D) : ul3 k [x, y, z] = k x y z := rfl
@[simp] theorem s_ul4 {α : Type} (k : D → D → D → D → Tr α) (x y z w : D) : ul4 k [x, y, z, w] = k x y z w := rfl
@[simp] theorem s_isO {α : Type} (c : Str) (fs : Fs) (k : Fs → Tr α) : isO c (.obj c fs) k = k fs := by unfold isO; simp
@[simp] theorem s_lt (i j : Int) : ltD (.int i) (.int j) = .ok (.bl (decide (i < j))) := rfl
@[simp] theorem s_le (i j : Int) : leD (.int i) (.int j) = .ok (.bl (decide (i ≤ j))) := rfl
@[simp] theorem s_gt (i j : Int) : gtD (.int i) (.int j) = .ok (.bl (decide (j < i))) := rfl
@[simp] theorem s_ge (i j : Int) : geD (.int i) (.int j) = .ok (.bl (decide (j ≤ i))) := rfl
@[simp] theorem s_sub (i j : Int) : subD (.int i) (.int j) = .ok (.int (i - j)) := rfl
@[simp] theorem s_add (i j : Int) : addD (.int i) (.int j) = .ok (.int (i + j)) := rfl
@[simp] theorem s_neg (i : Int) : negD (.int i) = .ok (.int (-i)) := rfl
@[simp] theorem s_eq (i j : Int) : eqD (.int i) (.int j) = .ok (.bl (decide (i = j))) := rfl
@[simp] theorem s_eqs (i j : Str) : eqD (.str i) (.str j) = .ok (.bl (decide (i = j))) := rfl
@[simp] theorem s_eqb (i j : Bool) : eqD (.bl i) (.bl j) = .ok (.bl (decide (i = j))) := rfl
@[simp] theorem s_len (ds : List D) : lenD (.lst ds) = .ok (.int ds.length) := rfl
@[simp] theorem s_itl (ds : List D) : itD (.lst ds) = .ok ds := rfl
@[simp] theorem s_itt (ds : List D) : itD (.tup ds) = .ok ds := rfl
@[simp] theorem s_int (i : Int) : intD (.int i) = .ok (.int i) := rfl
@[simp] theorem s_intb (k : Bool) : intD (.bl k) = .ok (.int (if k = true then 1 else 0)) := rfl
@[simp] theorem s_abs (i : Int) : absD (.int i) = .ok (.int (if i < 0 then -i else i)) := rfl
@[simp] theorem s_opt {α : Type} (a : α) : opt (some a) = .ok a := rfl
theorem s_mod {i j : Int} (h : 0 < j) : modD (.int i) (.int j) = .ok (.int (i % j)) := if_pos h
theorem s_div {i j : Int} (h : 0 < j ∧ j < 10 ^ 100) : divD (.int i) (.int j) = .ok (.int (i / j)) := if_pos h
@[simp] theorem s_mod2 (i : Int) : modD (.int i) (.int 2) = .ok (.int (i % 2)) := rfl
@[simp] theorem s_div2 (i : Int) : divD (.int i) (.int 2) = .ok (.int (i / 2)) := rfl
theorem s_mul {i j : Int} (h : (-(2 ^ 64) < i ∧ i < 2 ^ 64) ∨ (-(2 ^ 64) < j ∧ j < 2 ^ 64)) : mulD (.int i) (.int j) = .ok (.int (i * j)) := if_pos h
end Gp
namespace Gp
open PySem PyProof.Rows L2
theorem toPyL_ints : ∀ l : List Int, toPyL (l.map D.int) = some (l.map PyData.int)
  | [] => rfl
  | a :: r => by
    rw [List.map_cons]
    unfold toPyL
    rw [toPyL_ints r]
    rfl
theorem eqv_ints : ∀ l m : List Int, PyData.eqvAll (l.map PyData.int) (m.map PyData.int) = decide (l = m)
  | [], [] => by simp [PyData.eqvAll]
  | [], _ :: _ => by simp [PyData.eqvAll]
  | _ :: _, [] => by simp [PyData.eqvAll]
  | a :: r, b :: s => by
    simp only [List.map_cons, PyData.eqvAll, PyData.eqv, eqv_ints r s]
    by_cases h : a = b <;> by_cases h' : r = s <;> simp [h, h']
theorem canLayAll_ints : ∀ ns : List Int, PyData.canLayAll0 (ns.map PyData.int) = true
  | [] => rfl
  | _ :: r => by simp [PyData.canLayAll0, PyData.canLay0, canLayAll_ints r]
theorem depthAll_ints : ∀ ns : List Int, PyData.depthAll (ns.map PyData.int) = 0
  | [] => rfl
  | _ :: r => by simp [PyData.depthAll, PyData.depth, depthAll_ints r]
theorem shaped_ints (ns : List Int) : SeqAt.shaped (.list (ns.map PyData.int)) = true := by
  simp [SeqAt.shaped, PyData.canLay0, PyData.depth, canLayAll_ints, depthAll_ints]
theorem s_eq_ints (l m : List Int) : eqD (.lst (l.map D.int)) (.lst (m.map D.int)) = .ok (.bl (decide (l = m))) := by
  have e : ∀ l : List Int, toPy (.lst (l.map D.int)) = some (.list (l.map PyData.int)) := fun l => by
    unfold toPy
    rw [toPyL_ints]
    rfl
  have e2 : eqB (.lst (l.map D.int)) (.lst (m.map D.int)) = .ok (decide (l = m)) := by
    unfold eqB
    rw [show eqS (.lst (l.map D.int)) (.lst (m.map D.int)) = none from rfl]
    dsimp only
    rw [e l, e m]
    dsimp only
    rw [if_pos ⟨shaped_ints l, shaped_ints m⟩]
    unfold PyData.eqv
    rw [eqv_ints]
  unfold eqD
  rw [e2]
  rfl
@[simp] theorem s_find (m : Int) (f : Int → Tr (Fl Unit Empty)) : fin (.draw m f) = .draw m fun d => fin (f d) := rfl
@[simp] theorem s_bdFd {W W' L : Type} (m : Int) (f : Int → Tr (Fl W' L)) (k : W' → Tr (Fl W L)) : bdF (.draw m f) k = .draw m fun d => bdF (f d) k := rfl
theorem bd_ok_id {α : Type} (m : Tr α) : bd m .ok = m := by
  induction m with
  | draw m f ih => show Tr.draw m _ = _; congr 1; funext d; exact ih d
  | _ => rfl
theorem s_fin_id (m : Tr D) : fin (bd m fun d => .ok (.rt d)) = m := by
  unfold fin
  rw [bd_bd]
  exact bd_ok_id m
@[simp] theorem s_bdbd {α β γ : Type} (m : Tr α) (k : α → Tr β) (l : β → Tr γ) : bd (bd m k) l = bd m fun a => bd (k a) l := bd_bd ..
@[simp] theorem s_finbd {α : Type} (m : Tr α) (k : α → Tr (Fl Unit Empty)) : fin (bd m k) = bd m fun a => fin (k a) := bd_bd ..
@[simp] theorem s_bdFbd {α W W' L : Type} (m : Tr α) (f : α → Tr (Fl W' L)) (k : W' → Tr (Fl W L)) : bdF (bd m f) k = bd m fun a => bdF (f a) k := bd_bd ..
@[simp] theorem s_finIbd {α : Type} (m : Tr α) (k : α → Tr (Fl Fs Empty)) : finI (bd m k) = bd m fun a => finI (k a) := bd_bd ..
@[simp] theorem s_bdok {α : Type} (m : Tr α) : bd m (fun a => .ok a) = m := bd_ok_id m
@[simp] theorem s_ne (i j : Int) : neD (.int i) (.int j) = .ok (.bl (!decide (i = j))) := rfl
@[simp] theorem s_nes (i j : Str) : neD (.str i) (.str j) = .ok (.bl (!decide (i = j))) := rfl
/-- an index in bounds -/
theorem s_ixL {ds : List D} {i : Int} {d : D} (h0 : 0 ≤ i) (h : ds[i.toNat]? = some d) : ixD (.lst ds) (.int i) = .ok d := by
  have hl := (List.getElem?_eq_some_iff.mp h).1
  have e : atI ds i = some d := by
    unfold atI ixN
    rw [if_pos h0, if_pos (by omega)]
    exact h
  unfold ixD
  dsimp only
  rw [e]
theorem s_ixT {ds : List D} {i : Int} {d : D} (h0 : 0 ≤ i) (h : ds[i.toNat]? = some d) : ixD (.tup ds) (.int i) = .ok d := by
  have hl := (List.getElem?_eq_some_iff.mp h).1
  have e : atI ds i = some d := by
    unfold atI ixN
    rw [if_pos h0, if_pos (by omega)]
    exact h
  unfold ixD
  dsimp only
  rw [e]
theorem bo_pick {P : D → Prop} {ds : List D} (h0 : 0 < ds.length) (h1 : ds.length ≤ 100000) (h : ∀ d ∈ ds, P d) : Bo P (.draw ds.length fun i => ixD (.lst ds) (.int i)) 1 := by
  refine bo_draw (n := 0) (by omega) (by omega) fun d d0 d1 => ?_
  have hl : d.toNat < ds.length := by omega
  rw [s_ixL d0 (List.getElem?_eq_getElem hl)]
  exact h _ (List.getElem_mem hl)
theorem rgD_map (n : Nat) : rgD 0 n = ((List.range n).map fun i : Nat => (i : Int)).map D.int := by
  unfold rgD
  rw [List.map_map]
  apply List.map_congr_left
  intro i _
  show D.int (0 + i) = D.int i
  rw [Int.zero_add]
end Gp

namespace Gp
/-! Seats: plain arithmetic of rings. -/
def seatZ (n p : Int) : Int := if p % 2 = 0 then p / 2 else (n - (p + 1) / 2) % n
def placeZ (n s : Int) : Int := if 2 * s < n then 2 * s else 2 * (n - s) - 1
def behZ (n kind c s : Int) : Int :=
  if c % 2 = 0 then (if kind = 0 then (s + c / 2) % n else (s - c / 2) % n)
  else (if kind = 0 then (-(c + 1) / 2 - s) % n else ((c - 1) / 2 - s) % n)
theorem modn {x y n : Int} (k : Int) (h0 : 0 ≤ y) (h1 : y < n) (e : x = y + n * k) : x % n = y := by
  rw [e, Int.add_mul_emod_self_left]
  exact Int.emod_eq_of_lt h0 h1
theorem seatZ_rng {n p : Int} (h0 : 0 ≤ p) (h1 : p < n) : 0 ≤ seatZ n p ∧ seatZ n p < n := by
  unfold seatZ
  split
  · omega
  · exact ⟨Int.emod_nonneg _ (by omega), Int.emod_lt_of_pos _ (by omega)⟩
theorem seatZ_odd {n p : Int} (h0 : 0 ≤ p) (h1 : p < n) (h : p % 2 = 1) : seatZ n p = n - (p + 1) / 2 := by
  unfold seatZ
  rw [if_neg (by omega)]
  exact modn 0 (by omega) (by omega) (by omega)
theorem placeZ_rng {n s : Int} (h0 : 0 ≤ s) (h1 : s < n) : 0 ≤ placeZ n s ∧ placeZ n s < n := by
  unfold placeZ
  split <;> omega
theorem place_seat {n p : Int} (h0 : 0 ≤ p) (h1 : p < n) : placeZ n (seatZ n p) = p := by
  by_cases h : p % 2 = 0
  · unfold seatZ placeZ
    rw [if_pos h]
    split <;> omega
  · rw [seatZ_odd h0 h1 (by omega)]
    unfold placeZ
    split <;> omega
theorem seat_place {n s : Int} (h0 : 0 ≤ s) (h1 : s < n) : seatZ n (placeZ n s) = s := by
  unfold placeZ
  split
  · unfold seatZ
    rw [if_pos (by omega)]
    omega
  · rw [seatZ_odd (by omega) (by omega) (by omega)]
    omega
theorem behZ_rng {n kind c s : Int} (hn : 0 < n) : 0 ≤ behZ n kind c s ∧ behZ n kind c s < n := by
  unfold behZ
  split <;> split <;> exact ⟨Int.emod_nonneg _ (by omega), Int.emod_lt_of_pos _ hn⟩
/-- equal modulo n -/
theorem mod_eq {n x y k : Int} (e : x = y + n * k) : x % n = y % n := by
  rw [e, Int.add_mul_emod_self_left]
theorem mod_add_l {n x y : Int} : (x % n + y) % n = (x + y) % n := by
  rw [Int.emod_add_emod]
theorem mod_sub_l {n x y : Int} : (x % n - y) % n = (x - y) % n := by
  rw [Int.sub_eq_add_neg, Int.emod_add_emod, ← Int.sub_eq_add_neg]
theorem mod_sub_r {n x y : Int} : (y - x % n) % n = (y - x) % n := by
  rw [Int.sub_emod, Int.emod_emod_of_dvd _ (Int.dvd_refl n), ← Int.sub_emod]
theorem seatZ_ev {n p : Int} (h : p % 2 = 0) : seatZ n p = p / 2 := by
  unfold seatZ
  rw [if_pos h]
theorem behZ_ev {n kind c s : Int} (h : c % 2 = 0) : behZ n kind c s = if kind = 0 then (s + c / 2) % n else (s - c / 2) % n := by
  unfold behZ
  rw [if_pos h]
theorem behZ_od {n kind c s : Int} (h : c % 2 = 1) : behZ n kind c s = if kind = 0 then (-(c + 1) / 2 - s) % n else ((c - 1) / 2 - s) % n := by
  unfold behZ
  rw [if_neg (by omega)]
/-- so many as places: end for end -/
theorem beh_half {n kind p : Int} (h0 : 0 ≤ p) (h1 : p < n) (hk : kind = 0 ∨ kind = 1) : behZ n kind n (seatZ n p) = seatZ n (n - 1 - p) := by
  have hnn : (1 : Int) ≠ 0 := by decide
  by_cases hp : p % 2 = 0 <;> by_cases hn : n % 2 = 0
  · rw [seatZ_odd (p := n - 1 - p) (by omega) (by omega) (by omega), seatZ_ev hp, behZ_ev hn]
    rcases hk with rfl | rfl
    · rw [if_pos rfl]
      exact modn 0 (by omega) (by omega) (by omega)
    · rw [if_neg hnn]
      exact modn (-1) (by omega) (by omega) (by omega)
  · rw [seatZ_ev (p := n - 1 - p) (by omega), seatZ_ev hp, behZ_od (by omega)]
    rcases hk with rfl | rfl
    · rw [if_pos rfl]
      exact modn (-1) (by omega) (by omega) (by omega)
    · rw [if_neg hnn]
      exact modn 0 (by omega) (by omega) (by omega)
  · rw [seatZ_odd (p := p) (by omega) (by omega) (by omega), seatZ_ev (p := n - 1 - p) (by omega), behZ_ev hn]
    rcases hk with rfl | rfl
    · rw [if_pos rfl]
      exact modn 1 (by omega) (by omega) (by omega)
    · rw [if_neg hnn]
      exact modn 0 (by omega) (by omega) (by omega)
  · rw [seatZ_odd (p := p) (by omega) (by omega) (by omega), seatZ_odd (p := n - 1 - p) (by omega) (by omega) (by omega), behZ_od (by omega)]
    rcases hk with rfl | rfl
    · rw [if_pos rfl]
      exact modn (-2) (by omega) (by omega) (by omega)
    · rw [if_neg hnn]
      exact modn (-1) (by omega) (by omega) (by omega)
theorem beh_more {n kind c s : Int} : behZ n kind (2 * n + c) s = behZ n kind c s := by
  unfold behZ
  have e : (2 * n + c) % 2 = c % 2 := by omega
  rw [e]
  split
  · split
    · exact mod_eq (k := 1) (by omega)
    · exact mod_eq (k := -1) (by omega)
  · split
    · exact mod_eq (k := -1) (by omega)
    · exact mod_eq (k := 1) (by omega)
theorem beh_none {n kind s : Int} (h0 : 0 ≤ s) (h1 : s < n) : behZ n kind 0 s = s := by
  unfold behZ
  rw [if_pos (by decide)]
  split <;> exact modn 0 h0 h1 (by omega)
theorem beh_whole {n kind s : Int} (h0 : 0 ≤ s) (h1 : s < n) : behZ n kind (2 * n) s = s := by
  have := beh_more (n := n) (kind := kind) (c := 0) (s := s)
  rw [Int.add_zero] at this
  rw [this, beh_none h0 h1]
theorem beh_join {n kind a b s : Int} (hk : kind = 0 ∨ kind = 1) : behZ n ((kind + a) % 2) b (behZ n kind a s) = behZ n kind (a + b) s := by
  by_cases ha : a % 2 = 0 <;> by_cases hb : b % 2 = 0 <;> rcases hk with rfl | rfl
  all_goals unfold behZ
  · rw [if_pos ha, if_pos hb, if_pos (show (a + b) % 2 = 0 by omega), if_pos (show (0 + a) % 2 = 0 by omega), if_pos rfl, if_pos rfl, mod_add_l]
    congr 1; omega
  · rw [if_pos ha, if_pos hb, if_pos (show (a + b) % 2 = 0 by omega), if_neg (show ¬ (1 + a) % 2 = 0 by omega), if_neg (by decide), if_neg (by decide), mod_sub_l]
    congr 1; omega
  · rw [if_pos ha, if_neg hb, if_neg (show ¬ (a + b) % 2 = 0 by omega), if_pos (show (0 + a) % 2 = 0 by omega), if_pos rfl, if_pos rfl, mod_sub_r]
    congr 1; omega
  · rw [if_pos ha, if_neg hb, if_neg (show ¬ (a + b) % 2 = 0 by omega), if_neg (show ¬ (1 + a) % 2 = 0 by omega), if_neg (by decide), if_neg (by decide), mod_sub_r]
    congr 1; omega
  · rw [if_neg ha, if_pos hb, if_neg (show ¬ (a + b) % 2 = 0 by omega), if_neg (show ¬ (0 + a) % 2 = 0 by omega), if_pos rfl, if_pos rfl, mod_sub_l]
    congr 1; omega
  · rw [if_neg ha, if_pos hb, if_neg (show ¬ (a + b) % 2 = 0 by omega), if_pos (show (1 + a) % 2 = 0 by omega), if_neg (by decide), if_neg (by decide), mod_add_l]
    congr 1; omega
  · rw [if_neg ha, if_neg hb, if_pos (show (a + b) % 2 = 0 by omega), if_neg (show ¬ (0 + a) % 2 = 0 by omega), if_pos rfl, if_pos rfl, mod_sub_r]
    congr 1; omega
  · rw [if_neg ha, if_neg hb, if_pos (show (a + b) % 2 = 0 by omega), if_pos (show (1 + a) % 2 = 0 by omega), if_neg (by decide), if_neg (by decide), mod_sub_r]
    congr 1; omega
theorem beh_back {n kind c s : Int} (hk : kind = 0 ∨ kind = 1) (h0 : 0 ≤ s) (h1 : s < n) : behZ n ((kind + c + 1) % 2) c (behZ n kind c s) = s := by
  have d1 : (1 : Int) ≠ 0 := by decide
  by_cases hc : c % 2 = 0
  · rw [behZ_ev hc, behZ_ev hc]
    rcases hk with rfl | rfl
    · rw [if_neg (show ¬ (0 + c + 1) % 2 = 0 by omega), if_pos rfl, mod_sub_l]
      exact modn 0 h0 h1 (by omega)
    · rw [if_pos (show (1 + c + 1) % 2 = 0 by omega), if_neg d1, mod_add_l]
      exact modn 0 h0 h1 (by omega)
  · rw [behZ_od (c := c) (by omega), behZ_od (c := c) (by omega)]
    rcases hk with rfl | rfl
    · rw [if_pos (show (0 + c + 1) % 2 = 0 by omega), if_pos rfl, mod_sub_r]
      exact modn 0 h0 h1 (by omega)
    · rw [if_neg (show ¬ (1 + c + 1) % 2 = 0 by omega), if_neg d1, mod_sub_r]
      exact modn 0 h0 h1 (by omega)
end Gp

set_option Elab.async false
set_option linter.all false
set_option maxRecDepth 100000
set_option maxHeartbeats 0
namespace Lw
open PySem PySem.Spec PyProof.Rows L2 Gh Gp
def top (i : Nat) : Stmt := PySem.Challenge.pw_everyhunt_k40_whole_rounds_of_plain_chan.main.body.getD i (.Pass ⟨0, 0, 0, 0⟩)
abbrev s__law_pen : Stmt := top 53
def d__law_pen : Df := ⟨gd "_law_pen", "_law_pen", "_law_pen", s__law_pen, []⟩
abbrev s__law_draw : Stmt := top 54
def d__law_draw : Df := ⟨gd "_law_draw", "_law_draw", "_law_draw", s__law_draw, []⟩
abbrev s_is_integer : Stmt := top 14
def d_is_integer : Df := ⟨gd "is_integer", "is_integer", "is_integer", s_is_integer, []⟩
abbrev s_is_within : Stmt := top 15
def d_is_within : Df := ⟨gd "is_within", "is_within", "is_within", s_is_within, []⟩
abbrev s_is_length : Stmt := top 16
def d_is_length : Df := ⟨gd "is_length", "is_length", "is_length", s_is_length, []⟩
abbrev s_need_length : Stmt := top 17
def d_need_length : Df := ⟨gd "need_length", "need_length", "need_length", s_need_length, []⟩
abbrev s_need_place : Stmt := top 18
def d_need_place : Df := ⟨gd "need_place", "need_place", "need_place", s_need_place, []⟩
abbrev s_seat_at : Stmt := top 33
def d_seat_at : Df := ⟨gd "seat_at", "seat_at", "seat_at", s_seat_at, []⟩
abbrev s_place_at : Stmt := top 34
def d_place_at : Df := ⟨gd "place_at", "place_at", "place_at", s_place_at, []⟩
abbrev s_seat_behind : Stmt := top 39
def d_seat_behind : Df := ⟨gd "seat_behind", "seat_behind", "seat_behind", s_seat_behind, []⟩
abbrev s_Span___init__ : Stmt := inClass (top 29) 1
def d_Span___init__ : Df := ⟨md "Span" "__init__", "__init__", "Span.__init__", s_Span___init__, [.int 0, .int 0]⟩
abbrev s_Span_halves : Stmt := inClass (top 29) 4
def d_Span_halves : Df := ⟨propG "Span" "halves", "halves", "Span.halves", s_Span_halves, []⟩
abbrev s_Span_more : Stmt := inClass (top 29) 5
def d_Span_more : Df := ⟨propG "Span" "more", "more", "Span.more", s_Span_more, []⟩
abbrev s_Span_odd : Stmt := inClass (top 29) 6
def d_Span_odd : Df := ⟨propG "Span" "odd", "odd", "Span.odd", s_Span_odd, []⟩
abbrev s_Span_number_at : Stmt := inClass (top 29) 8
def d_Span_number_at : Df := ⟨md "Span" "number_at", "number_at", "Span.number_at", s_Span_number_at, []⟩
abbrev s_Span___call__ : Stmt := inClass (top 29) 7
def d_Span___call__ : Df := ⟨md "Span" "__call__", "__call__", "Span.__call__", s_Span___call__, []⟩
abbrev s_Span_plus : Stmt := inClass (top 29) 10
def d_Span_plus : Df := ⟨md "Span" "plus", "plus", "Span.plus", s_Span_plus, []⟩
abbrev s_Span___add__ : Stmt := inClass (top 29) 11
def d_Span___add__ : Df := ⟨md "Span" "__add__", "__add__", "Span.__add__", s_Span___add__, []⟩
abbrev s_Sided___init___at_Stretch : Stmt := inClass (top 21) 0
def d_Sided___init___at_Stretch : Df := ⟨md "Sided" "__init__", "__init__", "Sided.__init__", s_Sided___init___at_Stretch, []⟩
abbrev s_Stretch___init__ : Stmt := inClass (top 40) 0
def ds_Stretch___init__ : Gp.Ds := ⟨⟨md "Stretch" "__init__", "__init__", "Stretch.__init__", s_Stretch___init__, [.str "front", .bl false]⟩, gd "Stretch"⟩
abbrev s_Stretch_changes : Stmt := inClass (top 40) 2
def d_Stretch_changes : Df := ⟨md "Stretch" "changes", "changes", "Stretch.changes", s_Stretch_changes, []⟩
abbrev s_Stretch_begin : Stmt := inClass (top 40) 3
def d_Stretch_begin : Df := ⟨md "Stretch" "begin", "begin", "Stretch.begin", s_Stretch_begin, []⟩
abbrev s_Stretch_to : Stmt := inClass (top 40) 5
def d_Stretch_to : Df := ⟨md "Stretch" "to", "to", "Stretch.to", s_Stretch_to, []⟩
abbrev s_Step_said_at_Stretch : Stmt := inClass (top 20) 0
def d_Step_said_at_Stretch : Df := ⟨propG "Stretch" "said", "said", "Step.said", s_Step_said_at_Stretch, []⟩
abbrev s_Step_done_at_Stretch : Stmt := inClass (top 20) 1
def d_Step_done_at_Stretch : Df := ⟨propG "Stretch" "done", "done", "Step.done", s_Step_done_at_Stretch, []⟩
abbrev s_Step_deep_at_Stretch : Stmt := inClass (top 20) 2
def d_Step_deep_at_Stretch : Df := ⟨propG "Stretch" "deep", "deep", "Step.deep", s_Step_deep_at_Stretch, []⟩
abbrev s_Stretch_weight : Stmt := inClass (top 40) 1
def d_Stretch_weight : Df := ⟨propG "Stretch" "weight", "weight", "Stretch.weight", s_Stretch_weight, []⟩
abbrev s_deepest : Stmt := top 23
def d_deepest : Df := ⟨gd "deepest", "deepest", "deepest", s_deepest, []⟩
abbrev s_Program_said : Stmt := inClass (top 51) 3
def d_Program_said : Df := ⟨propG "Program" "said", "said", "Program.said", s_Program_said, []⟩
abbrev s_Program_done : Stmt := inClass (top 51) 4
def d_Program_done : Df := ⟨propG "Program" "done", "done", "Program.done", s_Program_done, []⟩
abbrev s_Program_weight : Stmt := inClass (top 51) 5
def d_Program_weight : Df := ⟨propG "Program" "weight", "weight", "Program.weight", s_Program_weight, []⟩
abbrev s_Program_deep : Stmt := inClass (top 51) 6
def d_Program_deep : Df := ⟨propG "Program" "deep", "deep", "Program.deep", s_Program_deep, []⟩
abbrev s_need_steps : Stmt := top 38
def d_need_steps : Df := ⟨gd "need_steps", "need_steps", "need_steps", s_need_steps, []⟩
abbrev s_need_size : Stmt := top 24
def d_need_size : Df := ⟨gd "need_size", "need_size", "need_size", s_need_size, []⟩
abbrev s_Holder___init___at_Program : Stmt := inClass (top 22) 4
def d_Holder___init___at_Program : Df := ⟨md "Holder" "__init__", "__init__", "Holder.__init__", s_Holder___init___at_Program, []⟩
abbrev s_Program___init__ : Stmt := inClass (top 51) 0
def ds_Program___init__ : Gp.Ds := ⟨⟨md "Program" "__init__", "__init__", "Program.__init__", s_Program___init__, []⟩, gd "Program"⟩
abbrev s_Program_to : Stmt := inClass (top 51) 8
def d_Program_to : Df := ⟨md "Program" "to", "to", "Program.to", s_Program_to, []⟩
abbrev s__law_pick : Stmt := top 55
def d__law_pick : Df := ⟨gd "_law_pick", "_law_pick", "_law_pick", s__law_pick, []⟩
abbrev s__law_length : Stmt := top 56
def d__law_length : Df := ⟨gd "_law_length", "_law_length", "_law_length", s__law_length, []⟩
abbrev s__law_places : Stmt := top 57
def d__law_places : Df := ⟨gd "_law_places", "_law_places", "_law_places", s__law_places, []⟩
abbrev s__law_moves_alike : Stmt := top 58
def d__law_moves_alike : Df := ⟨gd "_law_moves_alike", "_law_moves_alike", "_law_moves_alike", s__law_moves_alike, []⟩
abbrev s__law_rounds_right : Stmt := top 59
def d__law_rounds_right : Df := ⟨gd "_law_rounds_right", "_law_rounds_right", "_law_rounds_right", s__law_rounds_right, []⟩
abbrev s__law_late_right : Stmt := top 60
def d__law_late_right : Df := ⟨gd "_law_late_right", "_law_late_right", "_law_late_right", s__law_late_right, []⟩
abbrev s__law_joined_right : Stmt := top 61
def d__law_joined_right : Df := ⟨gd "_law_joined_right", "_law_joined_right", "_law_joined_right", s__law_joined_right, []⟩
abbrev s_law : Stmt := top 62
def d_law : Df := ⟨gd "law", "law", "law", s_law, []⟩
def fns : List Df := [d__law_pen, d__law_draw, d_is_integer, d_is_within, d_is_length, d_need_length, d_need_place, d_seat_at, d_place_at, d_seat_behind, d_Span___init__, d_Span_halves, d_Span_more, d_Span_odd, d_Span_number_at, d_Span___call__, d_Span_plus, d_Span___add__, d_Sided___init___at_Stretch, d_Stretch_changes, d_Stretch_begin, d_Stretch_to, d_Step_said_at_Stretch, d_Step_done_at_Stretch, d_Step_deep_at_Stretch, d_Stretch_weight, d_deepest, d_Program_said, d_Program_done, d_Program_weight, d_Program_deep, d_need_steps, d_need_size, d_Holder___init___at_Program, d_Program_to, d__law_pick, d__law_length, d__law_places, d__law_moves_alike, d__law_rounds_right, d__law_late_right, d__law_joined_right, d_law]
def sds : List Gp.Ds := [ds_Stretch___init__, ds_Program___init__]
def pfile : Str := PySem.Challenge.pw_everyhunt_k40_whole_rounds_of_plain_chan.main.file
def exs : List (PySem.W.Frag → Bool) := [fa (.free "abs"), fa (.free "bool"), fa (.free "enumerate"), fa (.free "int"), fa (.free "isinstance"), fa (.free "len"), fa (.free "list"), fa (.free "range"), fa (.free "str"), fa (.free "sum"), fa (.free "super"), fa (.glo "_law_pen"), fa (.keep "_law_pen"), fa (.glo "_law_draw"), fa (.keep "_law_draw"), fa (.glo "is_integer"), fa (.keep "is_integer"), fa (.glo "is_within"), fa (.keep "is_within"), fa (.glo "is_length"), fa (.keep "is_length"), fa (.glo "need_length"), fa (.keep "need_length"), fa (.glo "need_place"), fa (.keep "need_place"), fa (.glo "seat_at"), fa (.keep "seat_at"), fa (.glo "place_at"), fa (.keep "place_at"), fa (.glo "seat_behind"),
  fa (.keep "seat_behind"), fa (.glo "deepest"), fa (.keep "deepest"), fa (.glo "need_steps"), fa (.keep "need_steps"), fa (.glo "need_size"), fa (.keep "need_size"), fa (.glo "_law_pick"), fa (.keep "_law_pick"), fa (.glo "_law_length"), fa (.keep "_law_length"), fa (.glo "_law_places"), fa (.keep "_law_places"), fa (.glo "_law_moves_alike"), fa (.keep "_law_moves_alike"), fa (.glo "_law_rounds_right"), fa (.keep "_law_rounds_right"), fa (.glo "_law_late_right"), fa (.keep "_law_late_right"), fa (.glo "_law_joined_right"), fa (.keep "_law_joined_right"), fa (.glo "Span"), fa (.keep "Span"), fa (.glo "Sided"), fa (.keep "Sided"), fa (.glo "Stretch"), fa (.keep "Stretch"), fa (.glo "Step"), fa (.keep "Step"), fa (.glo "Program"),
  fa (.keep "Program"), fa (.glo "Holder"), fa (.keep "Holder"), fa (.int "GREATEST_LENGTH" 10000000000000000000000000000000000000000), fa (.int "MOST_HALVES" 8), fa (.int "MOST_MORE" 60), fa (.int "MOST_ODD" 9), fa (.cls "Span"), insB "Span", fa (.noat "Span" "own_parts"), fa (.mkr "Span"), propB "Span" "halves", propB "Span" "more", propB "Span" "odd", fa (.meth "Span" "number_at"), fa (.meth "Span" "__call__"), coB "Span", fa (.meth "Span" "plus"), fa (.meth "Span" "__add__"), opB "Span" .Add, ownB "Span", fa (.cls "Sided"), insB "Sided", fa (.cls "Stretch"), insB "Stretch", fa (.noat "Stretch" "side"), fa (.noat "Stretch" "first"), fa (.noat "Stretch" "span"), fa (.noat "Stretch" "late"), fa (.mkr "Stretch"),
  fa (.meth "Stretch" "changes"), fa (.meth "Stretch" "begin"), fa (.meth "Stretch" "to"), propB "Stretch" "said", propB "Stretch" "done", propB "Stretch" "deep", propB "Stretch" "weight", fa (.cls "Step"), insB "Step", fa (.cls "Program"), insB "Program", fa (.noat "Program" "steps"), propB "Program" "said", propB "Program" "done", propB "Program" "weight", propB "Program" "deep", fa (.mkr "Program"), fa (.meth "Program" "to"), fa (.cls "Holder"), insB "Holder", fa (.glo "SIDES"), (fun K => He.tupB K "SIDES" [.str "front", .str "back"]), cvB "Holder" "MOST_DEEP" 3, cvB "Holder" "MOST_DONE" 120, cvB "Holder" "MOST_SAID" 40, cvB "Holder" "MOST_WEIGHT" 80, (fun K => He.eqO (PySem.W.nsIn K cStatics "thirdparty.any") (some none)), (fun K => (PySem.W.clsIn K (gd "Program" K)).isSome), (fun K => (PySem.W.clsIn K (gd "Stretch" K)).isSome), supCB "Program" "Program" "__init__" (md "Holder" "__init__"),
  supCB "Stretch" "Stretch" "__init__" (md "Sided" "__init__"), (fun K => decide (PySem.W.kitOne K (.ref (gd "Stretch" K)) (.ref (gd "Span" K)) = some false)), (fun K => decide (PySem.W.kitOne K (.ref (gd "Program" K)) (.ref (gd "Span" K)) = some false)), (fun K => decide (PySem.W.kitOne K (.ref (gd "Span" K)) (.ref (gd "Step" K)) = some false)), (fun K => decide (PySem.W.kitOne K (.ref (gd "Stretch" K)) (.ref (gd "Step" K)) = some true)), (fun K => decide (PySem.W.kitOne K (.ref (gd "Program" K)) (.ref (gd "Step" K)) = some false)), fa (.glo "law")]
def loose0 : List Str := ["_wall", "__name__", "HuntError", "BadLength", "BadPlace", "BadRow", "BadSpan", "BadStep", "BadNumber", "NoStep", "TooMany", "BadText"]
def loose1 : List Str := ["GREATEST_LENGTH", "is_integer", "is_within", "is_length", "need_length", "need_place", "Step", "Sided", "Holder", "deepest", "need_size", "MOST_HALVES"]
def loose2 : List Str := ["MOST_MORE", "MOST_ODD", "Span", "number_in", "are_parts", "seat_at", "place_at", "SIDES", "MOST_TIMES", "need_steps", "seat_behind", "Stretch"]
def loose3 : List Str := ["Block", "MOST_ITEMS", "BEYOND_ITEMS", "is_item", "need_items", "Row", "need_row_length", "block_of", "Program", "_law_pen", "_law_draw", "_law_pick"]
def loose4 : List Str := ["_law_length", "_law_places", "_law_moves_alike", "_law_rounds_right", "_law_late_right", "_law_joined_right"]
def loose : List Str := loose0 ++ loose1 ++ loose2 ++ loose3 ++ loose4
abbrev R : PySem.W.OpenRow := PySem.W.OpenLaw.row PySem.Challenge.rw_everyhunt_k40_whole_rounds_of_plain_chan
def tfs : List He.Defn := []
def adrs : List Addr := [3, 212, 219, 226, 233, 240, 274, 295, 347, 358, 365, 538, 561, 568, 569, 576, 583, 660, 1167, 1176, 1183, 1190, 1197, 1204, 1209, 1216, 1223, 1228, 1235, 211, 218, 225, 232, 239, 273, 294, 346, 357, 364, 537, 560, 567, 575, 582, 659, 1166, 1175, 1182, 1189, 1196, 1203, 1208, 1215, 1222, 1227, 1234, 255, 263, 271, 292, 311, 380, 407, 415, 423, 430, 437, 451, 458, 600, 608, 615, 622, 636, 977, 1003, 1009, 1015, 1023, 1035, 254, 262, 270, 291, 310, 379, 373, 406, 414, 422, 429, 436, 450, 457, 599, 592, 587, 607, 614, 621, 635, 976, 965, 1002, 1008, 1014, 1022, 1034, 253, 261, 269, 405, 413, 421, 606, 1001, 1007, 1013, 1021, 2]
abbrev hk : PySem.W.Hook := Gp.hookL adrs exs fns tfs sds pfile
def ob (s : PySem.W.SharedT) : Gp.AlS := Gp.obsL adrs exs fns tfs sds pfile (HandSHeadRun.getT s)
theorem ob_eq (s : PySem.W.SharedT) : ob s = hk.obs s.abs := Gp.obsL_eq (HandSHeadRun.getT_eq s)
theorem run (w : World) : HandSHeadRun.RunEq R (PySem.W.view R.prog [62]) hk ob 20000 loose w := by
  intro os
  kernel_rfl
/-- what the top has left -/
structure Tx (K : PySem.W.Frag) (mg : Str → Option Value) : Prop where
  f_abs : mg "abs" = none
  f_bool : mg "bool" = none
  f_enumerate : mg "enumerate" = none
  f_int : mg "int" = none
  f_isinstance : mg "isinstance" = none
  f_len : mg "len" = none
  f_list : mg "list" = none
  f_range : mg "range" = none
  f_str : mg "str" = none
  f_sum : mg "sum" = none
  f_super : mg "super" = none
  g__law_pen : mg "_law_pen" = some (.ref (gd "_law_pen" K))
  k__law_pen : PySem.W.keepIn K (.ref (gd "_law_pen" K)) = true
  g__law_draw : mg "_law_draw" = some (.ref (gd "_law_draw" K))
  k__law_draw : PySem.W.keepIn K (.ref (gd "_law_draw" K)) = true
  g_is_integer : mg "is_integer" = some (.ref (gd "is_integer" K))
  k_is_integer : PySem.W.keepIn K (.ref (gd "is_integer" K)) = true
  g_is_within : mg "is_within" = some (.ref (gd "is_within" K))
  k_is_within : PySem.W.keepIn K (.ref (gd "is_within" K)) = true
  g_is_length : mg "is_length" = some (.ref (gd "is_length" K))
  k_is_length : PySem.W.keepIn K (.ref (gd "is_length" K)) = true
  g_need_length : mg "need_length" = some (.ref (gd "need_length" K))
  k_need_length : PySem.W.keepIn K (.ref (gd "need_length" K)) = true
  g_need_place : mg "need_place" = some (.ref (gd "need_place" K))
  k_need_place : PySem.W.keepIn K (.ref (gd "need_place" K)) = true
  g_seat_at : mg "seat_at" = some (.ref (gd "seat_at" K))
  k_seat_at : PySem.W.keepIn K (.ref (gd "seat_at" K)) = true
  g_place_at : mg "place_at" = some (.ref (gd "place_at" K))
  k_place_at : PySem.W.keepIn K (.ref (gd "place_at" K)) = true
  g_seat_behind : mg "seat_behind" = some (.ref (gd "seat_behind" K))
  k_seat_behind : PySem.W.keepIn K (.ref (gd "seat_behind" K)) = true
  g_deepest : mg "deepest" = some (.ref (gd "deepest" K))
  k_deepest : PySem.W.keepIn K (.ref (gd "deepest" K)) = true
  g_need_steps : mg "need_steps" = some (.ref (gd "need_steps" K))
  k_need_steps : PySem.W.keepIn K (.ref (gd "need_steps" K)) = true
  g_need_size : mg "need_size" = some (.ref (gd "need_size" K))
  k_need_size : PySem.W.keepIn K (.ref (gd "need_size" K)) = true
  g__law_pick : mg "_law_pick" = some (.ref (gd "_law_pick" K))
  k__law_pick : PySem.W.keepIn K (.ref (gd "_law_pick" K)) = true
  g__law_length : mg "_law_length" = some (.ref (gd "_law_length" K))
  k__law_length : PySem.W.keepIn K (.ref (gd "_law_length" K)) = true
  g__law_places : mg "_law_places" = some (.ref (gd "_law_places" K))
  k__law_places : PySem.W.keepIn K (.ref (gd "_law_places" K)) = true
  g__law_moves_alike : mg "_law_moves_alike" = some (.ref (gd "_law_moves_alike" K))
  k__law_moves_alike : PySem.W.keepIn K (.ref (gd "_law_moves_alike" K)) = true
  g__law_rounds_right : mg "_law_rounds_right" = some (.ref (gd "_law_rounds_right" K))
  k__law_rounds_right : PySem.W.keepIn K (.ref (gd "_law_rounds_right" K)) = true
  g__law_late_right : mg "_law_late_right" = some (.ref (gd "_law_late_right" K))
  k__law_late_right : PySem.W.keepIn K (.ref (gd "_law_late_right" K)) = true
  g__law_joined_right : mg "_law_joined_right" = some (.ref (gd "_law_joined_right" K))
  k__law_joined_right : PySem.W.keepIn K (.ref (gd "_law_joined_right" K)) = true
  g_Span : mg "Span" = some (.ref (gd "Span" K))
  k_Span : PySem.W.keepIn K (.ref (gd "Span" K)) = true
  g_Sided : mg "Sided" = some (.ref (gd "Sided" K))
  k_Sided : PySem.W.keepIn K (.ref (gd "Sided" K)) = true
  g_Stretch : mg "Stretch" = some (.ref (gd "Stretch" K))
  k_Stretch : PySem.W.keepIn K (.ref (gd "Stretch" K)) = true
  g_Step : mg "Step" = some (.ref (gd "Step" K))
  k_Step : PySem.W.keepIn K (.ref (gd "Step" K)) = true
  g_Program : mg "Program" = some (.ref (gd "Program" K))
  k_Program : PySem.W.keepIn K (.ref (gd "Program" K)) = true
  g_Holder : mg "Holder" = some (.ref (gd "Holder" K))
  k_Holder : PySem.W.keepIn K (.ref (gd "Holder" K)) = true
  m_GREATEST_LENGTH : ∃ t, mg "GREATEST_LENGTH" = some (.int 10000000000000000000000000000000000000000 t)
  m_MOST_HALVES : ∃ t, mg "MOST_HALVES" = some (.int 8 t)
  m_MOST_MORE : ∃ t, mg "MOST_MORE" = some (.int 60 t)
  m_MOST_ODD : ∃ t, mg "MOST_ODD" = some (.int 9 t)
  cl_Span : Cls K (gd "Span" K)
  ty_Span : InsT K (gd "Span" K)
  n_Span_own_parts : NoAttr K (gd "Span" K) "own_parts"
  mk_Span : Mk K (gd "Span" K) (md "Span" "__init__" K)
  pr_Span_halves : PropOf K (gd "Span" K) "halves" (He.ma K (He.ga K "Span") "halves") (propG "Span" "halves" K)
  pr_Span_more : PropOf K (gd "Span" K) "more" (He.ma K (He.ga K "Span") "more") (propG "Span" "more" K)
  pr_Span_odd : PropOf K (gd "Span" K) "odd" (He.ma K (He.ga K "Span") "odd") (propG "Span" "odd" K)
  mt_Span_number_at : Meth K (gd "Span" K) "number_at" (md "Span" "number_at" K)
  mt_Span___call__ : Meth K (gd "Span" K) "__call__" (md "Span" "__call__" K)
  co_Span : StX.CallO K (gd "Span" K) (md "Span" "__call__" K)
  mt_Span_plus : Meth K (gd "Span" K) "plus" (md "Span" "plus" K)
  mt_Span___add__ : Meth K (gd "Span" K) "__add__" (md "Span" "__add__" K)
  op_Span_Add : OpT K (gd "Span" K) .Add
  ow_Span : OwnT K (gd "Span" K)
  cl_Sided : Cls K (gd "Sided" K)
  ty_Sided : InsT K (gd "Sided" K)
  cl_Stretch : Cls K (gd "Stretch" K)
  ty_Stretch : InsT K (gd "Stretch" K)
  n_Stretch_side : NoAttr K (gd "Stretch" K) "side"
  n_Stretch_first : NoAttr K (gd "Stretch" K) "first"
  n_Stretch_span : NoAttr K (gd "Stretch" K) "span"
  n_Stretch_late : NoAttr K (gd "Stretch" K) "late"
  mk_Stretch : Mk K (gd "Stretch" K) (md "Stretch" "__init__" K)
  mt_Stretch_changes : Meth K (gd "Stretch" K) "changes" (md "Stretch" "changes" K)
  mt_Stretch_begin : Meth K (gd "Stretch" K) "begin" (md "Stretch" "begin" K)
  mt_Stretch_to : Meth K (gd "Stretch" K) "to" (md "Stretch" "to" K)
  pr_Stretch_said : PropOf K (gd "Stretch" K) "said" (He.ma K (He.ga K "Stretch") "said") (propG "Stretch" "said" K)
  pr_Stretch_done : PropOf K (gd "Stretch" K) "done" (He.ma K (He.ga K "Stretch") "done") (propG "Stretch" "done" K)
  pr_Stretch_deep : PropOf K (gd "Stretch" K) "deep" (He.ma K (He.ga K "Stretch") "deep") (propG "Stretch" "deep" K)
  pr_Stretch_weight : PropOf K (gd "Stretch" K) "weight" (He.ma K (He.ga K "Stretch") "weight") (propG "Stretch" "weight" K)
  cl_Step : Cls K (gd "Step" K)
  ty_Step : InsT K (gd "Step" K)
  cl_Program : Cls K (gd "Program" K)
  ty_Program : InsT K (gd "Program" K)
  n_Program_steps : NoAttr K (gd "Program" K) "steps"
  pr_Program_said : PropOf K (gd "Program" K) "said" (He.ma K (He.ga K "Program") "said") (propG "Program" "said" K)
  pr_Program_done : PropOf K (gd "Program" K) "done" (He.ma K (He.ga K "Program") "done") (propG "Program" "done" K)
  pr_Program_weight : PropOf K (gd "Program" K) "weight" (He.ma K (He.ga K "Program") "weight") (propG "Program" "weight" K)
  pr_Program_deep : PropOf K (gd "Program" K) "deep" (He.ma K (He.ga K "Program") "deep") (propG "Program" "deep" K)
  mk_Program : Mk K (gd "Program" K) (md "Program" "__init__" K)
  mt_Program_to : Meth K (gd "Program" K) "to" (md "Program" "to" K)
  cl_Holder : Cls K (gd "Holder" K)
  ty_Holder : InsT K (gd "Holder" K)
  g_SIDES : mg "SIDES" = some (.ref (gd "SIDES" K))
  tu_SIDES : ∀ H : Hp, SqT K H (gd "SIDES" K) [.str "front", .str "back"]
  cv_Holder_MOST_DEEP : CvT K (gd "Holder" K) "MOST_DEEP" (.int 3)
  cv_Holder_MOST_DONE : CvT K (gd "Holder" K) "MOST_DONE" (.int 120)
  cv_Holder_MOST_SAID : CvT K (gd "Holder" K) "MOST_SAID" (.int 40)
  cv_Holder_MOST_WEIGHT : CvT K (gd "Holder" K) "MOST_WEIGHT" (.int 80)
  stat : PySem.W.nsIn K cStatics "thirdparty.any" = some none
  cd_Program : (PySem.W.clsIn K (gd "Program" K)).isSome = true
  cd_Stretch : (PySem.W.clsIn K (gd "Stretch" K)).isSome = true
  sc_Program_Program : SupC K (gd "Program" K) (gd "Program" K) "__init__" (md "Holder" "__init__" K)
  sc_Stretch_Stretch : SupC K (gd "Stretch" K) (gd "Stretch" K) "__init__" (md "Sided" "__init__" K)
  ki_Stretch_Span : PySem.W.kitOne K (.ref (gd "Stretch" K)) (.ref (gd "Span" K)) = some false
  ki_Program_Span : PySem.W.kitOne K (.ref (gd "Program" K)) (.ref (gd "Span" K)) = some false
  ki_Span_Step : PySem.W.kitOne K (.ref (gd "Span" K)) (.ref (gd "Step" K)) = some false
  ki_Stretch_Step : PySem.W.kitOne K (.ref (gd "Stretch" K)) (.ref (gd "Step" K)) = some true
  ki_Program_Step : PySem.W.kitOne K (.ref (gd "Program" K)) (.ref (gd "Step" K)) = some false
theorem tx_of {K : PySem.W.Frag} {h : Heap} {mg : Str → Option Value} (X : K.In h) (G : h.Ns mainGlobals mg) (c : Says exs fns K) : Tx K mg :=
  ⟨(He.free_ok X G (c.fact 0 rfl)), (He.free_ok X G (c.fact 1 rfl)), (He.free_ok X G (c.fact 2 rfl)), (He.free_ok X G (c.fact 3 rfl)), (He.free_ok X G (c.fact 4 rfl)), (He.free_ok X G (c.fact 5 rfl)), (He.free_ok X G (c.fact 6 rfl)), (He.free_ok X G (c.fact 7 rfl)), (He.free_ok X G (c.fact 8 rfl)), (He.free_ok X G (c.fact 9 rfl)), (He.free_ok X G (c.fact 10 rfl)), (He.glo_ok X G (c.fact 11 rfl)), ((c.fact 12 rfl)), (He.glo_ok X G (c.fact 13 rfl)), ((c.fact 14 rfl)), (He.glo_ok X G (c.fact 15 rfl)), ((c.fact 16 rfl)), (He.glo_ok X G (c.fact 17 rfl)), ((c.fact 18 rfl)), (He.glo_ok X G (c.fact 19 rfl)), ((c.fact 20 rfl)), (He.glo_ok X G (c.fact 21 rfl)), ((c.fact 22 rfl)), (He.glo_ok X G (c.fact 23 rfl)), ((c.fact 24 rfl)), (He.glo_ok X G (c.fact 25 rfl)), ((c.fact 26 rfl)), (He.glo_ok X G (c.fact 27 rfl)), ((c.fact 28 rfl)), (He.glo_ok X G (c.fact 29 rfl)), ((c.fact 30 rfl)), (He.glo_ok X G (c.fact 31 rfl)), ((c.fact 32 rfl)), (He.glo_ok X G (c.fact 33 rfl)), ((c.fact 34 rfl)), (He.glo_ok X G (c.fact 35 rfl)), ((c.fact 36 rfl)), (He.glo_ok X G (c.fact 37 rfl)), ((c.fact 38 rfl)), (He.glo_ok X G (c.fact 39 rfl)), ((c.fact 40 rfl)), (He.glo_ok X G (c.fact 41 rfl)), ((c.fact 42 rfl)), (He.glo_ok X G (c.fact 43 rfl)), ((c.fact 44 rfl)), (He.glo_ok X G (c.fact 45 rfl)), ((c.fact 46 rfl)), (He.glo_ok X G (c.fact 47 rfl)), ((c.fact 48 rfl)), (He.glo_ok X G (c.fact 49 rfl)), ((c.fact 50 rfl)), (He.glo_ok X G (c.fact 51 rfl)), ((c.fact 52 rfl)), (He.glo_ok X G (c.fact 53 rfl)), ((c.fact 54 rfl)), (He.glo_ok X G (c.fact 55 rfl)), ((c.fact 56 rfl)), (He.glo_ok X G (c.fact 57 rfl)), ((c.fact 58 rfl)), (He.glo_ok X G (c.fact 59 rfl)), ((c.fact 60 rfl)), (He.glo_ok X G (c.fact 61 rfl)), ((c.fact 62 rfl)), (He.int_ok X G (c.fact 63 rfl)), (He.int_ok X G (c.fact 64 rfl)), (He.int_ok X G (c.fact 65 rfl)), (He.int_ok X G (c.fact 66 rfl)), (He.cls_ok (c.fact 67 rfl)), (insB_ok (c.fact 68 rfl)), (He.eqO_ok (c.fact 69 rfl)), (He.mkr_ok (c.fact 70 rfl)), (propB_ok (c.fact 71 rfl)), (propB_ok (c.fact 72 rfl)), (propB_ok (c.fact 73 rfl)), (He.meth_ok (c.fact 74 rfl)), (He.meth_ok (c.fact 75 rfl)), (coB_ok (c.fact 76 rfl)), (He.meth_ok (c.fact 77 rfl)), (He.meth_ok (c.fact 78 rfl)), (opB_ok (c.fact 79 rfl)), (ownB_ok (c.fact 80 rfl)), (He.cls_ok (c.fact 81 rfl)), (insB_ok (c.fact 82 rfl)), (He.cls_ok (c.fact 83 rfl)), (insB_ok (c.fact 84 rfl)), (He.eqO_ok (c.fact 85 rfl)), (He.eqO_ok (c.fact 86 rfl)), (He.eqO_ok (c.fact 87 rfl)), (He.eqO_ok (c.fact 88 rfl)), (He.mkr_ok (c.fact 89 rfl)), (He.meth_ok (c.fact 90 rfl)), (He.meth_ok (c.fact 91 rfl)), (He.meth_ok (c.fact 92 rfl)), (propB_ok (c.fact 93 rfl)), (propB_ok (c.fact 94 rfl)), (propB_ok (c.fact 95 rfl)), (propB_ok (c.fact 96 rfl)), (He.cls_ok (c.fact 97 rfl)), (insB_ok (c.fact 98 rfl)), (He.cls_ok (c.fact 99 rfl)), (insB_ok (c.fact 100 rfl)), (He.eqO_ok (c.fact 101 rfl)), (propB_ok (c.fact 102 rfl)), (propB_ok (c.fact 103 rfl)), (propB_ok (c.fact 104 rfl)), (propB_ok (c.fact 105 rfl)), (He.mkr_ok (c.fact 106 rfl)), (He.meth_ok (c.fact 107 rfl)), (He.cls_ok (c.fact 108 rfl)), (insB_ok (c.fact 109 rfl)), (He.glo_ok X G (c.fact 110 rfl)), (fun H => He.tupB_ok (c.fact 111 rfl) H), (cvB_ok (c.fact 112 rfl)), (cvB_ok (c.fact 113 rfl)), (cvB_ok (c.fact 114 rfl)), (cvB_ok (c.fact 115 rfl)), (He.eqO_ok (c.fact 116 rfl)), ((c.fact 117 rfl)), ((c.fact 118 rfl)), (supCB_ok (c.fact 119 rfl)), (supCB_ok (c.fact 120 rfl)), (of_decide_eq_true (c.fact 121 rfl)), (of_decide_eq_true (c.fact 122 rfl)), (of_decide_eq_true (c.fact 123 rfl)), (of_decide_eq_true (c.fact 124 rfl)), (of_decide_eq_true (c.fact 125 rfl))⟩
section
variable {K : PySem.W.Frag} {mg : Str → Option Value} {Tb : List (Addr × Str)} {p c : Addr}
def isi_int : D → Option Bool := isF (fun n => kitB n "int") [("Span", false), ("Stretch", false), ("Program", false)] []
theorem isT_int (T : Tx K mg) : IsT ⟨K, Tb, p, c⟩ (.type "int") isi_int := isT_of (fun n k h => kit_ty h) (fun c k h => (look_cons h).elim (fun e => by obtain ⟨rfl, rfl⟩ := e; exact ⟨T.cl_Span, T.ty_Span, T.ty_Span.out _ (by decide)⟩) (fun h => (look_cons h).elim (fun e => by obtain ⟨rfl, rfl⟩ := e; exact ⟨T.cl_Stretch, T.ty_Stretch, T.ty_Stretch.out _ (by decide)⟩) (fun h => (look_cons h).elim (fun e => by obtain ⟨rfl, rfl⟩ := e; exact ⟨T.cl_Program, T.ty_Program, T.ty_Program.out _ (by decide)⟩) (fun h => nomatch h)))) (fun c k h => nomatch h)
def isi_bool : D → Option Bool := isF (fun n => kitB n "bool") [("Span", false), ("Stretch", false), ("Program", false)] []
theorem isT_bool (T : Tx K mg) : IsT ⟨K, Tb, p, c⟩ (.type "bool") isi_bool := isT_of (fun n k h => kit_ty h) (fun c k h => (look_cons h).elim (fun e => by obtain ⟨rfl, rfl⟩ := e; exact ⟨T.cl_Span, T.ty_Span, T.ty_Span.out _ (by decide)⟩) (fun h => (look_cons h).elim (fun e => by obtain ⟨rfl, rfl⟩ := e; exact ⟨T.cl_Stretch, T.ty_Stretch, T.ty_Stretch.out _ (by decide)⟩) (fun h => (look_cons h).elim (fun e => by obtain ⟨rfl, rfl⟩ := e; exact ⟨T.cl_Program, T.ty_Program, T.ty_Program.out _ (by decide)⟩) (fun h => nomatch h)))) (fun c k h => nomatch h)
def isi_Span : D → Option Bool := isF (fun n => if n ∈ (["NoneType", "bool", "int", "str", "list", "tuple", "dict"] : List String) then some false else none) [("Span", true), ("Stretch", false), ("Program", false)] []
theorem isT_Span (T : Tx K mg) : IsT ⟨K, Tb, p, c⟩ (.ref (gd "Span" K)) isi_Span := isT_of (fun n k h => by
  split at h
  · rename_i z
    cases h
    exact T.ty_Span.no n z
  · cases h) (fun c k h => (look_cons h).elim (fun e => by obtain ⟨rfl, rfl⟩ := e; exact ⟨T.cl_Span, T.ty_Span, T.ty_Span.yes⟩) (fun h => (look_cons h).elim (fun e => by obtain ⟨rfl, rfl⟩ := e; exact ⟨T.cl_Stretch, T.ty_Stretch, T.ki_Stretch_Span⟩) (fun h => (look_cons h).elim (fun e => by obtain ⟨rfl, rfl⟩ := e; exact ⟨T.cl_Program, T.ty_Program, T.ki_Program_Span⟩) (fun h => nomatch h)))) (fun c k h => nomatch h)
def isi_str : D → Option Bool := isF (fun n => kitB n "str") [("Span", false), ("Stretch", false), ("Program", false)] []
theorem isT_str (T : Tx K mg) : IsT ⟨K, Tb, p, c⟩ (.type "str") isi_str := isT_of (fun n k h => kit_ty h) (fun c k h => (look_cons h).elim (fun e => by obtain ⟨rfl, rfl⟩ := e; exact ⟨T.cl_Span, T.ty_Span, T.ty_Span.out _ (by decide)⟩) (fun h => (look_cons h).elim (fun e => by obtain ⟨rfl, rfl⟩ := e; exact ⟨T.cl_Stretch, T.ty_Stretch, T.ty_Stretch.out _ (by decide)⟩) (fun h => (look_cons h).elim (fun e => by obtain ⟨rfl, rfl⟩ := e; exact ⟨T.cl_Program, T.ty_Program, T.ty_Program.out _ (by decide)⟩) (fun h => nomatch h)))) (fun c k h => nomatch h)
def isi_Step : D → Option Bool := isF (fun n => if n ∈ (["NoneType", "bool", "int", "str", "list", "tuple", "dict"] : List String) then some false else none) [("Span", false), ("Stretch", true), ("Program", false)] []
theorem isT_Step (T : Tx K mg) : IsT ⟨K, Tb, p, c⟩ (.ref (gd "Step" K)) isi_Step := isT_of (fun n k h => by
  split at h
  · rename_i z
    cases h
    exact T.ty_Step.no n z
  · cases h) (fun c k h => (look_cons h).elim (fun e => by obtain ⟨rfl, rfl⟩ := e; exact ⟨T.cl_Span, T.ty_Span, T.ki_Span_Step⟩) (fun h => (look_cons h).elim (fun e => by obtain ⟨rfl, rfl⟩ := e; exact ⟨T.cl_Stretch, T.ty_Stretch, T.ki_Stretch_Step⟩) (fun h => (look_cons h).elim (fun e => by obtain ⟨rfl, rfl⟩ := e; exact ⟨T.cl_Program, T.ty_Program, T.ki_Program_Step⟩) (fun h => nomatch h)))) (fun c k h => nomatch h)
end
end Lw

set_option Elab.async false
set_option linter.all false
set_option maxRecDepth 100000
set_option maxHeartbeats 4000000
set_option pp.maxSteps 600
namespace Lw
open PySem PySem.Spec PyProof.Rows L2 Gh
local macro_rules | `(tactic| nofun) => `(tactic| (first | assumption | exact Ne.symm (by assumption) | (apply nw_pen'; (· assumption); (· assumption); (· ac_rfl)) | (apply Ne.symm; apply nw_pen'; (· assumption); (· assumption); (· ac_rfl)) | (apply nw_cell'; (· assumption); (· assumption); (· ac_rfl)) | (apply Ne.symm; apply nw_cell'; (· assumption); (· assumption); (· ac_rfl)) | (apply none_pen'; (· assumption); (· assumption); (· ac_rfl)) | (apply Ne.symm; apply none_pen'; (· assumption); (· assumption); (· ac_rfl)) | (apply none_cell'; (· assumption); (· assumption); (· ac_rfl)) | (apply Ne.symm; apply none_cell'; (· assumption); (· assumption); (· ac_rfl)) | (apply tup_pen'; (· assumption); (· assumption); (· ac_rfl)) | (apply Ne.symm; apply tup_pen'; (· assumption); (· assumption); (· ac_rfl)) | (apply tup_cell'; (· assumption); (· assumption); (· ac_rfl)) | (apply Ne.symm; apply tup_cell'; (· assumption); (· assumption); (· ac_rfl)) | (apply ins_pen'; (· assumption); (· assumption); (· ac_rfl)) | (apply Ne.symm; apply ins_pen'; (· assumption); (· assumption); (· ac_rfl)) | (apply ins_cell'; (· assumption); (· assumption); (· ac_rfl)) | (apply Ne.symm; apply ins_cell'; (· assumption); (· assumption); (· ac_rfl)) | (apply ins_lst; (· assumption); (· infer_instance)) | (apply Ne.symm; apply ins_lst; (· assumption); (· infer_instance)) | (apply ins_tup; (· assumption); (· infer_instance)) | (apply Ne.symm; apply ins_tup; (· assumption); (· infer_instance)) | (apply tup_lst; (· assumption); (· infer_instance)) | (apply Ne.symm; apply tup_lst; (· assumption); (· infer_instance)) | (apply nw_ne; (· assumption); (· infer_instance)) | (apply Ne.symm; apply nw_ne; (· assumption); (· infer_instance)) | (apply none_ne; (· assumption); (· infer_instance)) | (apply Ne.symm; apply none_ne; (· assumption); (· infer_instance))))
local macro_rules | `(tactic| ac_rfl) => `(tactic| ((repeat (first | assumption | (apply Pen.nw; (focus assumption)) | (apply Pen.same; (focus assumption)) | (apply Pen.mu; (focus assumption); (focus nofun); (focus nofun)) | (apply Pen.keep; (focus assumption); (focus nofun); (focus nofun)))); done))
local macro_rules | `(tactic| infer_instance) => `(tactic| ((repeat (first | assumption | (apply Nw.at_; assumption) | (apply Mu.at_; assumption) | (apply Nw.up; (focus assumption)) | (apply same_up; (focus assumption)) | (apply Mu.up; (focus assumption); (focus nofun)) | (apply keep_up; (focus assumption); (focus nofun)) | (apply keep2_up; (focus assumption); (focus nofun); (focus nofun)))); done))
local macro_rules | `(tactic| symm_saturate) => `(tactic| (repeat (first | with_reducible refine st_seq ?_ | with_reducible refine st_asg ?_ | with_reducible refine st_name ?_ | with_reducible refine st_ret ?_ | with_reducible refine st_drop ?_ | with_reducible refine st_ifS ?_ | with_reducible refine st_nx ?_ | with_reducible refine st_brk ?_ | with_reducible refine st_cnt ?_ | with_reducible refine st_c ?_ | with_reducible refine st_op ?_ | with_reducible refine st_un ?_ | with_reducible refine st_rI0 ?_ | with_reducible refine st_cons ?_ | with_reducible refine st_nil ?_ | with_reducible refine st_cl ?_ | with_reducible refine st_cb ?_ | with_reducible refine st_mt ?_ | with_reducible refine st_pr ?_ | with_reducible refine st_test ?_ | with_reducible refine st_ebl ?_ | with_reducible refine st_eint ?_ | with_reducible refine st_par ?_ | with_reducible refine st_par2 ?_ | with_reducible refine st_and ?_ | with_reducible refine st_or ?_ | with_reducible refine st_not ?_ | with_reducible refine st_andV ?_ | with_reducible refine st_orV ?_ | with_reducible refine st_notV ?_ | with_reducible refine st_ifE ?_ | with_reducible refine st_chain ?_ | with_reducible refine st_lst ?_ | with_reducible refine st_tup ?_ | with_reducible refine st_retN ?_ | with_reducible refine st_rU ?_ | with_reducible refine st_rAdd ?_ | with_reducible refine st_rSub ?_ | with_reducible refine st_isN ?_ | with_reducible refine st_notN ?_ | with_reducible refine st_sF ?_ | with_reducible refine st_int ?_ | with_reducible refine st_intB ?_ | with_reducible refine st_abs ?_ | with_reducible refine st_sl ?_ | with_reducible refine st_part ?_ | with_reducible refine st_nopart ?_ | with_reducible refine st_bm ?_ | with_reducible refine st_bm0 ?_ | with_reducible refine st_tyS ?_ | with_reducible refine st_gsub ?_ | with_reducible refine st_gcons ?_ | with_reducible refine st_gnil ?_ | with_reducible refine st_chain3 ?_ | with_reducible refine st_gsl ?_ | with_reducible refine st_clK ?_ | with_reducible refine st_mtK ?_ | with_reducible refine st_lcR1 ?_ | with_reducible refine st_lcR2 ?_ | with_reducible refine st_lcL ?_ | with_reducible refine st_lcT ?_ | with_reducible refine st_yes ?_ | with_reducible refine st_forR1 ?_ | with_reducible refine st_forR2 ?_ | with_reducible refine st_forL ?_ | with_reducible refine st_forT ?_ | with_reducible refine st_forE ?_ | with_reducible refine st_list ?_ | with_reducible refine st_itup ?_ | with_reducible refine st_tB ?_ | ((with_reducible apply st_var); exact rfl) | ((with_reducible apply st_aug); exact rfl) | ((with_reducible apply st_eq); exact rfl) | ((with_reducible apply st_ne); exact rfl) | ((with_reducible apply st_spK); (focus exact rfl); (focus exact rfl)) | ((with_reducible apply st_rI); (first | decide | (refine Or.inl ⟨?_, ?_⟩ <;> omega) | (refine Or.inr ⟨?_, ?_⟩ <;> omega) | (show (0 : Int) < _; omega) | exact ⟨by omega, log_of (by omega) (by omega)⟩ | exact ⟨by decide, by decide, by decide⟩)) | ((with_reducible apply st_powK); (focus exact ⟨by decide, by decide, by decide⟩); (focus decide)) | ((with_reducible apply st_eR1); (focus omega); (focus omega)) | ((with_reducible apply st_eR2); (focus omega)) | ((with_reducible apply st_if1); (first | with_reducible rfl | assumption | exact rfl | decide | (simp only [decide_eq_true_eq, decide_eq_false_iff_not, Bool.not_eq_true', Bool.not_eq_false', Bool.not_true, Bool.not_false, Bool.true_and, Bool.and_true, Bool.false_and, Bool.and_false, V.int.injEq, V.str.injEq, V.bl.injEq, V.ref.injEq, reduceCtorEq, not_true, not_false_eq_true, decide_true, decide_false, Int.not_lt, Int.not_le, ne_eq, List.length_cons, List.length_nil, List.length_map, List.length_append, List.length_set, List.length_take, List.length_drop] <;> omega))) | ((with_reducible apply st_if0); (first | with_reducible rfl | assumption | exact rfl | decide | (simp only [decide_eq_true_eq, decide_eq_false_iff_not, Bool.not_eq_true', Bool.not_eq_false', Bool.not_true, Bool.not_false, Bool.true_and, Bool.and_true, Bool.false_and, Bool.and_false, V.int.injEq, V.str.injEq, V.bl.injEq, V.ref.injEq, reduceCtorEq, not_true, not_false_eq_true, decide_true, decide_false, Int.not_lt, Int.not_le, ne_eq, List.length_cons, List.length_nil, List.length_map, List.length_append, List.length_set, List.length_take, List.length_drop] <;> omega))) | ((with_reducible apply st_lenL); (focus infer_instance)) | ((with_reducible apply st_lenT); (focus infer_instance)) | ((with_reducible apply st_tupT); (focus infer_instance)) | ((with_reducible apply st_tyL); (focus infer_instance)) | ((with_reducible apply st_elist); (focus infer_instance)) | ((with_reducible apply st_eitup); (focus infer_instance)) | ((with_reducible apply st_eE); (focus infer_instance)) | ((with_reducible apply st_epr); (focus infer_instance)) | ((with_reducible apply st_setO); (focus infer_instance)) | ((with_reducible apply st_ixO); (focus infer_instance)) | ((with_reducible apply st_ixLs); (focus assumption); (focus (first | exact rfl | exact atI_nat (by assumption)))) | ((with_reducible apply st_ixTs); (focus assumption); (focus (first | exact rfl | exact atI_nat (by assumption)))) | ((with_reducible apply st_fld); (focus infer_instance); (focus exact rfl)) | ((with_reducible apply st_const); (focus infer_instance); (focus exact rfl)) | ((with_reducible apply st_emt); (focus infer_instance); (focus exact rfl)) | ((with_reducible apply st_ixL); (focus infer_instance); (focus (first | exact rfl | exact atI_nat (by assumption)))) | ((with_reducible apply st_ixT); (focus infer_instance); (focus (first | exact rfl | exact atI_nat (by assumption)))) | ((with_reducible apply st_gtup); (focus infer_instance); (focus (first | exact rfl | exact atI_nat (by assumption)))))))
local macro_rules | `(tactic| subst_eqs) => `(tactic| (repeat (first | with_reducible refine st_seq ?_ | with_reducible refine st_asg ?_ | with_reducible refine st_name ?_ | with_reducible refine st_ret ?_ | with_reducible refine st_drop ?_ | with_reducible refine st_ifS ?_ | with_reducible refine st_nx ?_ | with_reducible refine st_brk ?_ | with_reducible refine st_cnt ?_ | with_reducible refine st_c ?_ | with_reducible refine st_op ?_ | with_reducible refine st_un ?_ | with_reducible refine st_rI0 ?_ | with_reducible refine st_cons ?_ | with_reducible refine st_nil ?_ | with_reducible refine st_cl ?_ | with_reducible refine st_cb ?_ | with_reducible refine st_mt ?_ | with_reducible refine st_pr ?_ | with_reducible refine st_test ?_ | with_reducible refine st_ebl ?_ | with_reducible refine st_eint ?_ | with_reducible refine st_par ?_ | with_reducible refine st_par2 ?_ | with_reducible refine st_and ?_ | with_reducible refine st_or ?_ | with_reducible refine st_not ?_ | with_reducible refine st_andV ?_ | with_reducible refine st_orV ?_ | with_reducible refine st_notV ?_ | with_reducible refine st_ifE ?_ | with_reducible refine st_chain ?_ | with_reducible refine st_lst ?_ | with_reducible refine st_tup ?_ | with_reducible refine st_retN ?_ | with_reducible refine st_rU ?_ | with_reducible refine st_rAdd ?_ | with_reducible refine st_rSub ?_ | with_reducible refine st_isN ?_ | with_reducible refine st_notN ?_ | with_reducible refine st_sF ?_ | with_reducible refine st_int ?_ | with_reducible refine st_intB ?_ | with_reducible refine st_abs ?_ | with_reducible refine st_sl ?_ | with_reducible refine st_part ?_ | with_reducible refine st_nopart ?_ | with_reducible refine st_bm ?_ | with_reducible refine st_bm0 ?_ | with_reducible refine st_tyS ?_ | with_reducible refine st_gsub ?_ | with_reducible refine st_gcons ?_ | with_reducible refine st_gnil ?_ | with_reducible refine st_chain3 ?_ | with_reducible refine st_gsl ?_ | with_reducible refine st_clK ?_ | with_reducible refine st_mtK ?_ | with_reducible refine st_lcR1 ?_ | with_reducible refine st_lcR2 ?_ | with_reducible refine st_lcL ?_ | with_reducible refine st_lcT ?_ | with_reducible refine st_yes ?_ | with_reducible refine st_forR1 ?_ | with_reducible refine st_forR2 ?_ | with_reducible refine st_forL ?_ | with_reducible refine st_forT ?_ | with_reducible refine st_forE ?_ | with_reducible refine st_list ?_ | with_reducible refine st_itup ?_ | with_reducible refine st_tB ?_ | ((with_reducible apply st_var); exact rfl) | ((with_reducible apply st_aug); exact rfl) | ((with_reducible apply st_eq); exact rfl) | ((with_reducible apply st_ne); exact rfl) | ((with_reducible apply st_spK); (focus exact rfl); (focus exact rfl)) | ((with_reducible apply st_rI); (first | decide | (refine Or.inl ⟨?_, ?_⟩ <;> omega) | (refine Or.inr ⟨?_, ?_⟩ <;> omega) | (show (0 : Int) < _; omega) | exact ⟨by omega, log_of (by omega) (by omega)⟩ | exact ⟨by decide, by decide, by decide⟩)) | ((with_reducible apply st_powK); (focus exact ⟨by decide, by decide, by decide⟩); (focus decide)) | ((with_reducible apply st_eR1); (focus omega); (focus omega)) | ((with_reducible apply st_eR2); (focus omega)) | ((with_reducible apply st_if1); (first | with_reducible rfl | assumption | exact rfl | decide | (simp only [decide_eq_true_eq, decide_eq_false_iff_not, Bool.not_eq_true', Bool.not_eq_false', Bool.not_true, Bool.not_false, Bool.true_and, Bool.and_true, Bool.false_and, Bool.and_false, V.int.injEq, V.str.injEq, V.bl.injEq, V.ref.injEq, reduceCtorEq, not_true, not_false_eq_true, decide_true, decide_false, Int.not_lt, Int.not_le, ne_eq, List.length_cons, List.length_nil, List.length_map, List.length_append, List.length_set, List.length_take, List.length_drop] <;> omega))) | ((with_reducible apply st_if0); (first | with_reducible rfl | assumption | exact rfl | decide | (simp only [decide_eq_true_eq, decide_eq_false_iff_not, Bool.not_eq_true', Bool.not_eq_false', Bool.not_true, Bool.not_false, Bool.true_and, Bool.and_true, Bool.false_and, Bool.and_false, V.int.injEq, V.str.injEq, V.bl.injEq, V.ref.injEq, reduceCtorEq, not_true, not_false_eq_true, decide_true, decide_false, Int.not_lt, Int.not_le, ne_eq, List.length_cons, List.length_nil, List.length_map, List.length_append, List.length_set, List.length_take, List.length_drop] <;> omega))) | ((with_reducible apply st_lenL); (focus infer_instance)) | ((with_reducible apply st_lenT); (focus infer_instance)) | ((with_reducible apply st_tupT); (focus infer_instance)) | ((with_reducible apply st_tyL); (focus infer_instance)) | ((with_reducible apply st_elist); (focus infer_instance)) | ((with_reducible apply st_eitup); (focus infer_instance)) | ((with_reducible apply st_eE); (focus infer_instance)) | ((with_reducible apply st_epr); (focus infer_instance)) | ((with_reducible apply st_setO); (focus infer_instance)) | ((with_reducible apply st_ixO); (focus infer_instance)) | ((with_reducible apply st_ixLs); (focus assumption); (focus (first | exact rfl | exact atI_nat (by assumption)))) | ((with_reducible apply st_ixTs); (focus assumption); (focus (first | exact rfl | exact atI_nat (by assumption)))) | ((with_reducible apply st_fld); (focus infer_instance); (focus exact rfl)) | ((with_reducible apply st_const); (focus infer_instance); (focus exact rfl)) | ((with_reducible apply st_emt); (focus infer_instance); (focus exact rfl)) | ((with_reducible apply st_ixL); (focus infer_instance); (focus (first | exact rfl | exact atI_nat (by assumption)))) | ((with_reducible apply st_ixT); (focus infer_instance); (focus (first | exact rfl | exact atI_nat (by assumption)))) | ((with_reducible apply st_gtup); (focus infer_instance); (focus (first | exact rfl | exact atI_nat (by assumption)))) | ((with_reducible apply st_newL); (focus (refine len_ok ?_; simp only [List.length_cons, List.length_nil, List.length_append, List.length_map, List.length_set, List.length_take, List.length_drop]; omega)); intro l Hn nw) | ((with_reducible apply st_newT); (focus (refine len_ok ?_; simp only [List.length_cons, List.length_nil, List.length_append, List.length_map, List.length_set, List.length_take, List.length_drop]; omega)); intro l Hn nw) | ((with_reducible apply st_listL); (focus infer_instance); intro l Hn nw) | ((with_reducible apply st_listT); (focus infer_instance); intro l Hn nw) | ((with_reducible apply st_tupL); (focus infer_instance); intro l Hn nw) | ((with_reducible apply st_slL); (focus infer_instance); intro l Hn nw) | ((with_reducible apply st_cat); (focus infer_instance); (focus infer_instance); (focus (refine len_ok ?_; simp only [List.length_cons, List.length_nil, List.length_append, List.length_map, List.length_set, List.length_take, List.length_drop]; omega)); intro l Hn nw))))
section
variable {P : Program} {w : World} {K : PySem.W.Frag} {mg : Str → Option Value} {base : Heap} {f : Addr} {fd : FuncData} {Tb : List (Addr × Str)}
abbrev N__law_pen : List Str := ["_law_script"]
theorem sc__law_pen : FnScope N__law_pen ["_law_script"] (defScope s__law_pen) := ⟨rfl, rfl, rfl, by decide +kernel, rfl, by decide +kernel, by decide +kernel⟩
theorem ok0__law_pen (F : FnA K d__law_pen fd) (T : Tx K mg) : FnOk P w K mg base CX0 1 (d__law_pen.adr K) fd ["_law_script"] (spPn K) := by
  refine fnO0 F sc__law_pen (fun vs H Q E h => by (repeat (first | (obtain ⟨rfl, _⟩ := h; rfl) | (obtain ⟨_, h⟩ := h)))) (fun cdv A outer s H vs Q E hr h => ?_)
  refine ⟨_, (pss_one (ps_ret (pe_lst (pa_cons (pe_callTy (cr_listOf (K := K) rfl) (by rfl) T.f_list (by decide +kernel) (pa_cons (pe_slice (sl_listK (K := K) rfl) (pv 0) po_none (po_some pe_int)) pa_nil)) (pa_cons pe_int (pa_cons pe_int pa_nil)))))), ?_⟩
  obtain ⟨a, ns, rfl, hS, hl, q⟩ := h
  have ec : cutV (ns.map V.int) none (some 63) = ns.map V.int := cut_all (by rw [List.length_map]; exact hl)
  symm_saturate
  refine st_slLs hS fun c H1 n1 => ?_
  rw [ec] at n1
  symm_saturate
  refine st_listL (by infer_instance) fun e H2 n2 => ?_
  symm_saturate
  refine st_newL (by (refine len_ok ?_; simp only [List.length_cons, List.length_nil, List.length_append, List.length_map, List.length_set, List.length_take, List.length_drop]; omega)) fun p H3 n3 => ?_
  refine q p e _ (n1.same.free (n2.same.free n3.no)) ⟨ns, 0, 0, by infer_instance, by infer_instance, hl, Int.le_refl _, by decide, Int.le_refl _⟩ (n1.same.trans (n2.same.trans n3.same))
abbrev N__law_draw : List Str := ["_law_pen_here", "_law_many", "_law_taken", "_law_cell", "_law_mixed", "_law_digit", "_law_great"]
theorem sc__law_draw : FnScope N__law_draw ["_law_pen_here", "_law_many"] (defScope s__law_draw) := ⟨rfl, rfl, rfl, by decide +kernel, rfl, by decide +kernel, by decide +kernel⟩
theorem ok0__law_draw (F : FnA K d__law_draw fd) (T : Tx K mg) : FnOk P w K mg base CX0 1 (d__law_draw.adr K) fd ["_law_pen_here", "_law_many"] spDr := by
  refine fnO0 F sc__law_draw (fun vs H Q E h => by (repeat (first | (obtain ⟨rfl, _⟩ := h; rfl) | (obtain ⟨_, h⟩ := h)))) (fun cdv A outer s H vs Q E hr h => ?_)
  refine ⟨_, (pss_cons (ps_if (pt_cmpR op_gt (pe_ix (ix_listK (K := K) rfl) (pv 0) pe_int (fun _ _ => rfl)) pe_int (nomark _))
      (pss_cons (ps_set (i := 5) sc__law_draw.nd rfl (.inl rfl) (pe_op op_mod (pe_callTy cr_int (by rfl) T.f_int (by decide +kernel) (pa_cons (pe_ix (ix_listK (K := K) rfl) (pv 0) pe_int (fun _ _ => rfl)) pa_nil)) (pv 1)))
      (pss_cons (ps_asg (pe_op op_fdivW (pe_callTy cr_int (by rfl) T.f_int (by decide +kernel) (pa_cons (pe_ix (ix_listK (K := K) rfl) (pv 0) pe_int (fun _ _ => rfl)) pa_nil)) (pv 1)) (pg_sub (pv 0) pe_int set_list))
      (pss_one (ps_ret (pv 5))))) pss_nil)
      (pss_cons (ps_set (i := 2) sc__law_draw.nd rfl (.inl rfl) (pe_ix (ix_listK (K := K) rfl) (pv 0) pe_int (fun _ _ => rfl)))
      (pss_cons (ps_asg (pe_op op_add (pv 2) pe_int) (pg_sub (pv 0) pe_int set_list))
      (pss_cons (ps_set (i := 3) sc__law_draw.nd rfl (.inl rfl) (pe_op op_add (pe_op op_mul pe_int (pv 2)) pe_int))
      (pss_cut (ps_if (pt_cmpR (op_neDK (K := K) rfl hr.units) (pe_ix (ix_listK (K := K) rfl) (pv 0) pe_int (fun _ _ => rfl)) (pe_lst pa_nil) (nomark _))
      (pss_one (ps_set (i := 3) sc__law_draw.nd rfl (.inl rfl) (pe_ix (ix_listK (K := K) rfl) (pe_ix (ix_listK (K := K) rfl) (pv 0) pe_int (fun _ _ => rfl)) (pe_op op_mod (pe_callTy cr_int (by rfl) T.f_int (by decide +kernel) (pa_cons (pv 2) pa_nil)) (pe_callB (cr_len (K := K) rfl) (by rfl) T.f_len (by decide +kernel) (pa_cons (pe_ix (ix_listK (K := K) rfl) (pv 0) pe_int (fun _ _ => rfl)) pa_nil))) (fun _ _ => rfl)))) pss_nil)
      (pss_cut (ps_if (PW.pt (pw_and (pt_cmpR op_lt (pv 2) (pe_callB (cr_len (K := K) rfl) (by rfl) T.f_len (by decide +kernel) (pa_cons (pe_ix (ix_listK (K := K) rfl) (pv 0) pe_int (fun _ _ => rfl)) pa_nil)) (nomark _)) (pw_and1 (pt_cmpR op_ge (pe_callB cr_abs (by rfl) T.f_abs (by decide +kernel) (pa_cons (pv 3) pa_nil)) (pe_op (op_powK 1000000000000000000) pe_int pe_int) (nomark _)))))
      (pss_cons (ps_set (i := 6) sc__law_draw.nd rfl (.inl rfl) (pe_op op_add (pe_op op_mul pe_int (pe_op op_sub (pe_callB cr_abs (by rfl) T.f_abs (by decide +kernel) (pa_cons (pv 3) pa_nil)) (pe_op (op_powK 1000000000000000000) pe_int pe_int))) (pe_callTy cr_int (by rfl) T.f_int (by decide +kernel) (pa_cons (pe_cmpR op_lt (pv 3) pe_int (nomark _)) pa_nil))))
      (pss_cons (ps_asg (pe_op op_fdivW (pe_callTy cr_int (by rfl) T.f_int (by decide +kernel) (pa_cons (pv 6) pa_nil)) (pv 1)) (pg_sub (pv 0) pe_int set_list))
      (pss_one (ps_ret (pe_op op_mod (pe_callTy cr_int (by rfl) T.f_int (by decide +kernel) (pa_cons (pv 6) pa_nil)) (pv 1)))))) pss_nil)
      (pss_cons (ps_set (i := 4) sc__law_draw.nd rfl (.inl rfl) (pe_op op_mod (pe_callTy cr_int (by rfl) T.f_int (by decide +kernel) (pa_cons (pe_op op_pow (pe_op op_add (pe_op op_add (pe_op op_mod (pe_callTy cr_int (by rfl) T.f_int (by decide +kernel) (pa_cons (pv 3) pa_nil)) pe_int) (pe_op op_mul pe_int (pv 2))) pe_int) pe_int) pa_nil)) pe_int))
      (pss_cons (ps_set (i := 4) sc__law_draw.nd rfl (.inl rfl) (pe_op op_mod (pe_callTy cr_int (by rfl) T.f_int (by decide +kernel) (pa_cons (pe_op op_pow (pe_op op_add (pe_op op_add (pe_op op_mul (pv 4) (pe_op op_add (pe_op op_mul pe_int (pv 2)) pe_int)) (pe_op op_mul (pe_op op_mul pe_int (pv 2)) (pv 2))) pe_int) pe_int) pa_nil)) pe_int))
      (pss_one (ps_ret (pe_op op_mod (pe_callTy cr_int (by rfl) T.f_int (by decide +kernel) (pa_cons (pe_op op_fdivW (pv 4) pe_int) pa_nil)) (pv 1)))))))))))), ?_⟩
  obtain ⟨p, c, b, m, rfl, hm, hlog, ⟨ns, i, z, hp, hc, hl, hi, hb, hz⟩, q⟩ := h
  have ncp : c ≠ p := pen_ne hp hc
  have mm := fun x : Int => mod_lt x hm
  have hdiv : ∀ x, CDivW x m := fun _ => ⟨hm, hlog⟩
  symm_saturate
  refine ite2 (fun h1 => ?_) (fun h1 => ?_)
  · symm_saturate
    refine st_rI (hdiv _) ?_
    symm_saturate
    refine st_setL hp rfl fun H1 n1 => ?_
    symm_saturate
    exact q _ _ (mm z).1 (mm z).2 ⟨ns, i, z / m, by infer_instance, by infer_instance, hl, hi, by omega, Int.ediv_nonneg hz (by omega)⟩ n1.keep
  · have z0 : z = 0 := by
      have : ¬ (z > 0) := by simpa using h1
      omega
    subst z0
    symm_saturate
    refine st_setL hp rfl fun H2 n2 => ?_
    have hp2 : H2 p = some (.lst [.ref c, .int (i + 1), .int 0]) := n2.at_
    have hc2 : H2 c = some (.lst (ns.map V.int)) := by infer_instance
    have k2 := n2.keep
    clear n2
    symm_saturate
    refine ⟨fun σ' H' => ∃ cell : Int, σ' = [some (.ref p), some (.int m), some (.int i), some (.int cell), none, none, none] ∧ H' p = some (.lst [.ref c, .int (i + 1), .int 0]) ∧ H' c = some (.lst (ns.map V.int)) ∧ Keep H H' p, ?_, ?_⟩
    · -- if the cells are not empty
      symm_saturate
      refine st_newL (by (refine len_ok ?_; simp only [List.length_cons, List.length_nil, List.length_append, List.length_map, List.length_set, List.length_take, List.length_drop]; omega)) fun e H3 n3 => ?_
      have hp3 : H3 p = some (.lst [.ref c, .int (i + 1), .int 0]) := by infer_instance
      have hc3 : H3 c = some (.lst (ns.map V.int)) := by infer_instance
      have k3 : Keep H H3 p := fun a o h1 h2 => n3.up (k2 _ _ h1 h2)
      refine st_neD (.lst (SqL.of hc3) (dp_ints K _ ns)) (.lst (SqL.of n3.at_) .nil) (PySem.W.ke_shaped_ints ns) (by decide +kernel) ?_
      clear n3
      symm_saturate
      refine ite2 (fun h2 => ?_) (fun h2 => ?_)
      · have hne : 0 < ns.length := by
          rw [eqv_nil] at h2
          cases ns with
          | nil => cases h2
          | cons a r => exact Nat.succ_pos _
        have hlen : (0 : Int) < ((ns.map V.int).length : Int) := by rw [List.length_map]; omega
        have mi := mod_lt i hlen
        obtain ⟨v, ev, _⟩ := atI_int (ns := ns) (i := i % ((ns.map V.int).length : Int)) mi.1 (by have := mi.2; rw [List.length_map] at this ⊢; exact this)
        symm_saturate
        refine st_ixL hc3 ev ?_
        symm_saturate
        exact ⟨v, rfl, hp3, hc3, k3⟩
      · symm_saturate
        exact ⟨_, rfl, hp3, hc3, k3⟩
    · rintro σ' H' ⟨cell, rfl, hp3, hc3, k3⟩
      -- a great cell?
      refine ⟨fun σ1 H1 => σ1 = [some (.ref p), some (.int m), some (.int i), some (.int cell), none, none, none] ∧ H1 = H', ?_, ?_⟩
      · symm_saturate
        refine ite2 (fun _ => ?_) (fun _ => ?_)
        · symm_saturate
          refine ite2 (fun h3 => ?_) (fun _ => ?_)
          · have hab : 1000000000000000000 ≤ (if cell < 0 then -cell else cell) := by simpa using h3
            symm_saturate
            have hgr : 0 ≤ 2 * ((if cell < 0 then -cell else cell) - 1000000000000000000) + (if decide (cell < 0) = true then 1 else 0) := by
              have : (0 : Int) ≤ (if decide (cell < 0) = true then 1 else 0) := by split <;> decide
              omega
            refine st_rI (hdiv _) ?_
            symm_saturate
            refine st_setL hp3 rfl fun H4 n4 => ?_
            symm_saturate
            refine q _ _ (mm _).1 (mm _).2 ⟨ns, i + 1, _, n4.at_, by infer_instance, hl, by omega, by omega, Int.ediv_nonneg hgr (by omega)⟩ (k3.trans n4.keep)
          · symm_saturate
            exact ⟨rfl, rfl⟩
        · symm_saturate
          exact ⟨rfl, rfl⟩
      · rintro σ1 H1 ⟨rfl, rfl⟩
        have hi2 : i ≤ 1000000 := by omega
        -- the first mix
        symm_saturate
        refine st_rI ⟨by decide, by decide, ?_⟩ ?_
        · refine pow_lt ?_ ?_ <;> omega
        have hx := mod_lt ((cell % 2147483629 + 93719 * i + 61) ^ (3 : Int).toNat) (show (0 : Int) < 2147483587 by decide)
        -- the second one
        symm_saturate
        refine st_rI ⟨by decide, by decide, ?_⟩ ?_
        · exact mix_ok hx.1 (Int.lt_trans hx.2 (by decide)) hi hi2 ⟨by decide, by decide⟩ ⟨by decide, by decide⟩ ⟨by decide, by decide⟩
        symm_saturate
        exact q _ _ (mm _).1 (mm _).2 ⟨ns, i + 1, 0, hp3, hc3, hl, by omega, by omega, Int.le_refl _⟩ k3
theorem ok__law_pen (F : FnA K d__law_pen fd) (T : Tx K mg) : FnOk P w K mg base CX0 1 (d__law_pen.adr K) fd ["_law_script"] (spPn K) := ok0__law_pen F T
theorem ok__law_draw (F : FnA K d__law_draw fd) (T : Tx K mg) : FnOk P w K mg base CX0 1 (d__law_draw.adr K) fd ["_law_pen_here", "_law_many"] (Gp.spF K Tb (Gp.ul2 Gp.F_draw)) := Gp.fnOk_weak (ok0__law_draw F T) fun _ _ _ _ => Gp.draw_of
end
end Lw

set_option Elab.async false
set_option linter.all false
set_option maxRecDepth 100000
set_option maxHeartbeats 4000000
set_option pp.maxSteps 600
namespace Lw
open PySem PySem.Spec PyProof.Rows L2 Gh Gp
section
variable {P : Program} {w : World} {K : PySem.W.Frag} {mg : Str → Option Value} {base : Heap} {f : Addr} {fd : FuncData} {Tb : List (Addr × Str)}
abbrev N_is_integer : List Str := ["value"]
theorem sc_is_integer : FnScope N_is_integer ["value"] (defScope s_is_integer) := ⟨rfl, rfl, rfl, by decide +kernel, rfl, by decide +kernel, by decide +kernel⟩
def F_is_integer (value : D) : Tr D :=
  fin (bd (bd (bd (bd (.ok value) fun d => bd (opt (isi_int d)) fun k => .ok (.bl k)) asB) fun k => if k = true then (bd (bd (bd (.ok value) fun d => bd (opt (isi_bool d)) fun k => .ok (.bl k)) asB) fun k => .ok (.bl (!k))) else .ok (.bl false)) fun d => .ok (.rt d))
theorem ok_is_integer (F : FnA K d_is_integer fd) (T : Tx K mg)  : FnOk P w K mg base CX0 1 (d_is_integer.adr K) fd ["value"] (spF K Tb (ul1 F_is_integer)) := by
  refine fnO0 F sc_is_integer (fun vs H Q E h => spF_len len1 h) (fun cdv A outer s H vs Q E hr h => ?_)
  refine ⟨_, (pss_cons (ps_ret (pe_and (pe_callB (call_isiZ (K := K) rfl) (by rfl) T.f_isinstance (by decide +kernel) (pa_cons (pv 0) (pa_cons (pe_bltn (v := .ty "int") (by rfl) T.f_int (by decide +kernel) rfl) pa_nil))) (pe_one (pe_not (pe_callB (call_isiZ (K := K) rfl) (by rfl) T.f_isinstance (by decide +kernel) (pa_cons (pv 0) (pa_cons (pe_bltn (v := .ty "bool") (by rfl) T.f_bool (by decide +kernel) rfl) pa_nil))))))) pss_nil), ?_⟩
  exact fn_of1 (F := F_is_integer) (envU := fun _ => List.replicate 1 .no) h (fun value => rfl) (fun p c value => (ss_ret (se_andV (se_isi (.ty _) (isT_int T) se_var) (se_notV (se_isi (.ty _) (isT_bool T) se_var)))))
abbrev N_is_within : List Str := ["value", "least", "most"]
theorem sc_is_within : FnScope N_is_within ["value", "least", "most"] (defScope s_is_within) := ⟨rfl, rfl, rfl, by decide +kernel, rfl, by decide +kernel, by decide +kernel⟩
def F_is_within (value least most : D) : Tr D :=
  fin (bd (bd (bd (bd (bd (.ok value) fun v1 => (bd (.ok []) fun r2 => .ok (v1 :: r2))) (ul1 F_is_integer)) asB) fun k => if k = true then (bd (.ok least) fun v3 => (bd (.ok value) fun v4 => (bd (bd (leD v3 v4) asB) fun k => if k = true then (bd (.ok most) fun v5 => leD v4 v5) else .ok (.bl false)))) else .ok (.bl false)) fun d => .ok (.rt d))
theorem ok_is_within (F : FnA K d_is_within fd) (T : Tx K mg) (G_is_integer : PromO P w K mg base CX0 1 (gd "is_integer" K) [] (spF K Tb (ul1 F_is_integer))) : FnOk P w K mg base CX0 2 (d_is_within.adr K) fd ["value", "least", "most"] (spF K Tb (ul3 F_is_within)) := by
  refine fnO0 F sc_is_within (fun vs H Q E h => spF_len len3 h) (fun cdv A outer s H vs Q E hr h => ?_)
  refine ⟨_, (pss_cons (ps_ret (pe_and (pe_g (PromO.call G_is_integer (hr.mono (by decide)) (passA (E := E))) (by rfl) T.g_is_integer T.k_is_integer (pa_cons (pv 0) pa_nil)) (pe_one (pe_chain op_le op_le (pv 1) (pv 0) (pv 2))))) pss_nil), ?_⟩
  exact fn_of3 (F := F_is_within) (envU := fun _ => List.replicate 3 .no) h (fun value least most => rfl) (fun p c value least most => (ss_ret (se_andV (se_cl srl_sp0 (sa_cons se_var sa_nil)) (se_chain sr_le sr_le se_var se_var se_var))))
abbrev N_is_length : List Str := ["value"]
theorem sc_is_length : FnScope N_is_length ["value"] (defScope s_is_length) := ⟨rfl, rfl, rfl, by decide +kernel, rfl, by decide +kernel, by decide +kernel⟩
def F_is_length (value : D) : Tr D :=
  fin (bd (bd (bd (.ok value) fun v5 => (bd (bd (.ok (.int 1)) fun v3 => (bd (bd (.ok (.int 10000000000000000000000000000000000000000)) fun v1 => (bd (.ok []) fun r2 => .ok (v1 :: r2))) fun r4 => .ok (v3 :: r4))) fun r6 => .ok (v5 :: r6))) (ul3 F_is_within)) fun d => .ok (.rt d))
theorem ok_is_length (F : FnA K d_is_length fd) (T : Tx K mg) (G_is_within : PromO P w K mg base CX0 2 (gd "is_within" K) [] (spF K Tb (ul3 F_is_within))) : FnOk P w K mg base CX0 3 (d_is_length.adr K) fd ["value"] (spF K Tb (ul1 F_is_length)) := by
  refine fnO0 F sc_is_length (fun vs H Q E h => spF_len len1 h) (fun cdv A outer s H vs Q E hr h => ?_)
  refine ⟨_, (pss_cons (ps_ret (pe_g (PromO.call G_is_within (hr.mono (by decide)) (passA (E := E))) (by rfl) T.g_is_within T.k_is_within (pa_cons (pv 0) (pa_cons pe_int (pa_cons (pe_gi T.m_GREATEST_LENGTH (by rfl)) pa_nil))))) pss_nil), ?_⟩
  exact fn_of1 (F := F_is_length) (envU := fun _ => List.replicate 1 .no) h (fun value => rfl) (fun p c value => (ss_ret (se_cl srl_sp0 (sa_cons se_var (sa_cons se_int (sa_cons se_int sa_nil))))))
abbrev N_need_length : List Str := ["value"]
theorem sc_need_length : FnScope N_need_length ["value"] (defScope s_need_length) := ⟨rfl, rfl, rfl, by decide +kernel, rfl, by decide +kernel, by decide +kernel⟩
def F_need_length (value : D) : Tr D :=
  fin (bdF (W' := Unit) (bd (bd (bd (bd (bd (.ok value) fun v1 => (bd (.ok []) fun r2 => .ok (v1 :: r2))) (ul1 F_is_length)) asB) fun k => .ok (!k)) fun k => if k = true then .bad else (.ok (.nx ()))) fun (w3 : Unit) => (.ok (.nx ())))
theorem ok_need_length (F : FnA K d_need_length fd) (T : Tx K mg) (G_is_length : PromO P w K mg base CX0 3 (gd "is_length" K) [] (spF K Tb (ul1 F_is_length))) : FnOk P w K mg base CX0 4 (d_need_length.adr K) fd ["value"] (spF K Tb (ul1 F_need_length)) := by
  refine fnO0 F sc_need_length (fun vs H Q E h => spF_len len1 h) (fun cdv A outer s H vs Q E hr h => ?_)
  refine ⟨_, (pss_cons (ps_if (pt_not (pt_val (pe_g (PromO.call G_is_length (hr.mono (by decide)) (passA (E := E))) (by rfl) T.g_is_length T.k_is_length (pa_cons (pv 0) pa_nil))))
      (pss_cons ps_never pss_nil) pss_nil)
      pss_nil), ?_⟩
  exact fn_of1 (F := F_need_length) (envU := fun _ => List.replicate 1 .no) h (fun value => rfl) (fun p c value => (ss_if (fun (w3 : Unit) => [.fz value]) (sb_not (sb_tb (se_cl srl_sp0 (sa_cons se_var sa_nil)))) ss_never (ss_nx (.s .nil)) (fun (w3 : Unit) => (ss_nx (le_no _ rfl)))))
abbrev N_need_place : List Str := ["n", "value"]
theorem sc_need_place : FnScope N_need_place ["n", "value"] (defScope s_need_place) := ⟨rfl, rfl, rfl, by decide +kernel, rfl, by decide +kernel, by decide +kernel⟩
def F_need_place (n value : D) : Tr D :=
  fin (bd (bd (bd (.ok n) fun v1 => (bd (.ok []) fun r2 => .ok (v1 :: r2))) (ul1 F_need_length)) fun _ => (bdF (W' := Unit) (bd (bd (bd (bd (bd (.ok value) fun v9 => (bd (bd (.ok (.int 0)) fun v7 => (bd (bd (bd (.ok n) fun v3 => (bd (.ok (.int 1)) fun v4 => subD v3 v4)) fun v5 => (bd (.ok []) fun r6 => .ok (v5 :: r6))) fun r8 => .ok (v7 :: r8))) fun r10 => .ok (v9 :: r10))) (ul3 F_is_within)) asB) fun k => .ok (!k)) fun k => if k = true then .bad else (.ok (.nx ()))) fun (w11 : Unit) => (.ok (.nx ()))))
theorem ok_need_place (F : FnA K d_need_place fd) (T : Tx K mg) (G_need_length : PromO P w K mg base CX0 4 (gd "need_length" K) [] (spF K Tb (ul1 F_need_length))) (G_is_within : PromO P w K mg base CX0 2 (gd "is_within" K) [] (spF K Tb (ul3 F_is_within))) : FnOk P w K mg base CX0 5 (d_need_place.adr K) fd ["n", "value"] (spF K Tb (ul2 F_need_place)) := by
  refine fnO0 F sc_need_place (fun vs H Q E h => spF_len len2 h) (fun cdv A outer s H vs Q E hr h => ?_)
  refine ⟨_, (pss_cons (ps_expr (pe_g (PromO.call G_need_length (hr.mono (by decide)) (passA (E := E))) (by rfl) T.g_need_length T.k_need_length (pa_cons (pv 0) pa_nil)))
      (pss_cons (ps_if (pt_not (pt_val (pe_g (PromO.call G_is_within (hr.mono (by decide)) (passA (E := E))) (by rfl) T.g_is_within T.k_is_within (pa_cons (pv 1) (pa_cons pe_int (pa_cons (pe_op op_sub (pv 0) pe_int) pa_nil))))))
      (pss_cons ps_never pss_nil) pss_nil)
      pss_nil)), ?_⟩
  exact fn_of2 (F := F_need_place) (envU := fun _ => List.replicate 2 .no) h (fun n value => rfl) (fun p c n value => (ss_drop (se_cl srl_sp0 (sa_cons se_var sa_nil)) (ss_if (fun (w11 : Unit) => [.fz n, .fz value]) (sb_not (sb_tb (se_cl srl_sp0 (sa_cons se_var (sa_cons se_int (sa_cons (se_op sr_sub se_var se_int) sa_nil)))))) ss_never (ss_nx (.s (.s .nil))) (fun (w11 : Unit) => (ss_nx (le_no _ rfl))))))
abbrev N_seat_at : List Str := ["n", "place"]
theorem sc_seat_at : FnScope N_seat_at ["n", "place"] (defScope s_seat_at) := ⟨rfl, rfl, rfl, by decide +kernel, rfl, by decide +kernel, by decide +kernel⟩
def F_seat_at (n place : D) : Tr D :=
  fin (bd (bd (bd (bd (bd (.ok place) fun v1 => (bd (.ok (.int 2)) fun v2 => modD v1 v2)) fun v3 => (bd (.ok (.int 0)) fun v4 => eqD v3 v4)) asB) fun k => if k = true then (bd (.ok place) fun v5 => (bd (.ok (.int 2)) fun v6 => divD v5 v6)) else (bd (bd (.ok n) fun v11 => (bd (bd (bd (.ok place) fun v7 => (bd (.ok (.int 1)) fun v8 => addD v7 v8)) fun v9 => (bd (.ok (.int 2)) fun v10 => divD v9 v10)) fun v12 => subD v11 v12)) fun v13 => (bd (.ok n) fun v14 => modD v13 v14))) fun d => .ok (.rt d))
theorem ok_seat_at (F : FnA K d_seat_at fd) (T : Tx K mg)  : FnOk P w K mg base CX0 1 (d_seat_at.adr K) fd ["n", "place"] (spF K Tb (ul2 F_seat_at)) := by
  refine fnO0 F sc_seat_at (fun vs H Q E h => spF_len len2 h) (fun cdv A outer s H vs Q E hr h => ?_)
  refine ⟨_, (pss_cons (ps_ret (pe_ifExp (pt_cmpR (op_eqA (K := K) rfl hr.units) (pe_op op_mod (pv 1) pe_int) pe_int (nomark _)) (pe_op op_fdivW (pv 1) pe_int) (pe_op op_mod (pe_op op_sub (pv 0) (pe_op op_fdivW (pe_op (op_addA (K := K) rfl) (pv 1) pe_int) pe_int)) (pv 0)))) pss_nil), ?_⟩
  exact fn_of2 (F := F_seat_at) (envU := fun _ => List.replicate 2 .no) h (fun n place => rfl) (fun p c n place => (ss_ret (se_if (sb_tst (se_op sr_eq (se_op sr_mod se_var se_int) se_int)) (se_op sr_div se_var se_int) (se_op sr_mod (se_op sr_sub se_var (se_op sr_div (se_op sr_add se_var se_int) se_int)) se_var))))
abbrev N_place_at : List Str := ["n", "seat"]
theorem sc_place_at : FnScope N_place_at ["n", "seat"] (defScope s_place_at) := ⟨rfl, rfl, rfl, by decide +kernel, rfl, by decide +kernel, by decide +kernel⟩
def F_place_at (n seat : D) : Tr D :=
  fin (bd (bd (bd (bd (bd (.ok (.int 2)) fun v1 => (bd (.ok seat) fun v2 => mulD v1 v2)) fun v3 => (bd (.ok n) fun v4 => ltD v3 v4)) asB) fun k => if k = true then (bd (.ok (.int 2)) fun v5 => (bd (.ok seat) fun v6 => mulD v5 v6)) else (bd (bd (.ok (.int 2)) fun v9 => (bd (bd (.ok n) fun v7 => (bd (.ok seat) fun v8 => subD v7 v8)) fun v10 => mulD v9 v10)) fun v11 => (bd (.ok (.int 1)) fun v12 => subD v11 v12))) fun d => .ok (.rt d))
theorem ok_place_at (F : FnA K d_place_at fd) (T : Tx K mg)  : FnOk P w K mg base CX0 1 (d_place_at.adr K) fd ["n", "seat"] (spF K Tb (ul2 F_place_at)) := by
  refine fnO0 F sc_place_at (fun vs H Q E h => spF_len len2 h) (fun cdv A outer s H vs Q E hr h => ?_)
  refine ⟨_, (pss_cons (ps_ret (pe_ifExp (pt_cmpR op_lt (pe_op op_mulA pe_int (pv 1)) (pv 0) (nomark _)) (pe_op op_mulA pe_int (pv 1)) (pe_op op_sub (pe_op op_mulA pe_int (pe_op op_sub (pv 0) (pv 1))) pe_int))) pss_nil), ?_⟩
  exact fn_of2 (F := F_place_at) (envU := fun _ => List.replicate 2 .no) h (fun n seat => rfl) (fun p c n seat => (ss_ret (se_if (sb_tst (se_op sr_lt (se_op sr_mul se_int se_var) se_var)) (se_op sr_mul se_int se_var) (se_op sr_sub (se_op sr_mul se_int (se_op sr_sub se_var se_var)) se_int))))
abbrev N_seat_behind : List Str := ["n", "kind", "count", "seat"]
theorem sc_seat_behind : FnScope N_seat_behind ["n", "kind", "count", "seat"] (defScope s_seat_behind) := ⟨rfl, rfl, rfl, by decide +kernel, rfl, by decide +kernel, by decide +kernel⟩
def F_seat_behind (n kind count seat : D) : Tr D :=
  fin (bdF (W' := Unit) (bd (bd (bd (bd (.ok count) fun v1 => (bd (.ok (.int 2)) fun v2 => modD v1 v2)) fun v3 => (bd (.ok (.int 0)) fun v4 => eqD v3 v4)) asB) fun k => if k = true then (bd (bd (bd (bd (.ok kind) fun v6 => (bd (.ok (.int 0)) fun v7 => eqD v6 v7)) asB) fun k => if k = true then (bd (bd (.ok seat) fun v10 => (bd (bd (.ok count) fun v8 => (bd (.ok (.int 2)) fun v9 => divD v8 v9)) fun v11 => addD v10 v11)) fun v12 => (bd (.ok n) fun v13 => modD v12 v13)) else (bd (bd (.ok seat) fun v16 => (bd (bd (.ok count) fun v14 => (bd (.ok (.int 2)) fun v15 => divD v14 v15)) fun v17 => subD v16 v17)) fun v18 => (bd (.ok n) fun v19 => modD v18 v19))) fun d => .ok (.rt d)) else (.ok (.nx ()))) fun (w5 : Unit) => (bd (bd (bd (bd (.ok kind) fun v20 => (bd (.ok (.int 0)) fun v21 => eqD v20 v21)) asB) fun k => if k = true then (bd (bd (bd (bd (bd (.ok count) fun v22 => (bd (.ok (.int 1)) fun v23 => addD v22 v23)) negD) fun v24 => (bd (.ok (.int 2)) fun v25 => divD v24 v25)) fun v26 => (bd (.ok seat) fun v27 => subD v26 v27)) fun v28 => (bd (.ok n) fun v29 => modD v28 v29)) else (bd (bd (bd (bd (.ok count) fun v30 => (bd (.ok (.int 1)) fun v31 => subD v30 v31)) fun v32 => (bd (.ok (.int 2)) fun v33 => divD v32 v33)) fun v34 => (bd (.ok seat) fun v35 => subD v34 v35)) fun v36 => (bd (.ok n) fun v37 => modD v36 v37))) fun d => .ok (.rt d)))
theorem ok_seat_behind (F : FnA K d_seat_behind fd) (T : Tx K mg)  : FnOk P w K mg base CX0 1 (d_seat_behind.adr K) fd ["n", "kind", "count", "seat"] (spF K Tb (ul4 F_seat_behind)) := by
  refine fnO0 F sc_seat_behind (fun vs H Q E h => spF_len len4 h) (fun cdv A outer s H vs Q E hr h => ?_)
  refine ⟨_, (pss_cons (ps_if (pt_cmpR (op_eqA (K := K) rfl hr.units) (pe_op op_mod (pv 2) pe_int) pe_int (nomark _))
      (pss_cons (ps_ret (pe_ifExp (pt_cmpR (op_eqA (K := K) rfl hr.units) (pv 1) pe_int (nomark _)) (pe_op op_mod (pe_op (op_addA (K := K) rfl) (pv 3) (pe_op op_fdivW (pv 2) pe_int)) (pv 0)) (pe_op op_mod (pe_op op_sub (pv 3) (pe_op op_fdivW (pv 2) pe_int)) (pv 0)))) pss_nil) pss_nil)
      (pss_cons (ps_ret (pe_ifExp (pt_cmpR (op_eqA (K := K) rfl hr.units) (pv 1) pe_int (nomark _)) (pe_op op_mod (pe_op op_sub (pe_op op_fdivW (pe_un un_neg (pe_op (op_addA (K := K) rfl) (pv 2) pe_int)) pe_int) (pv 3)) (pv 0)) (pe_op op_mod (pe_op op_sub (pe_op op_fdivW (pe_op op_sub (pv 2) pe_int) pe_int) (pv 3)) (pv 0)))) pss_nil)), ?_⟩
  exact fn_of4 (F := F_seat_behind) (envU := fun _ => List.replicate 4 .no) h (fun n kind count seat => rfl) (fun p c n kind count seat => (ss_if (fun (w5 : Unit) => [.fz n, .fz kind, .fz count, .fz seat]) (sb_tst (se_op sr_eq (se_op sr_mod se_var se_int) se_int)) (ss_ret (se_if (sb_tst (se_op sr_eq se_var se_int)) (se_op sr_mod (se_op sr_add se_var (se_op sr_div se_var se_int)) se_var) (se_op sr_mod (se_op sr_sub se_var (se_op sr_div se_var se_int)) se_var))) (ss_nx (.s (.s (.s (.s .nil))))) (fun (w5 : Unit) => (ss_ret (se_if (sb_tst (se_op sr_eq se_var se_int)) (se_op sr_mod (se_op sr_sub (se_op sr_div (se_un sr_neg (se_op sr_add se_var se_int)) se_int) se_var) se_var) (se_op sr_mod (se_op sr_sub (se_op sr_div (se_op sr_sub se_var se_int) se_int) se_var) se_var))))))
abbrev N_Span___init__ : List Str := ["self", "halves", "more", "odd"]
theorem sc_Span___init__ : FnScope N_Span___init__ ["self", "halves", "more", "odd"] (defScope s_Span___init__) := ⟨rfl, rfl, rfl, by decide +kernel, rfl, by decide +kernel, by decide +kernel⟩
def F_Span___init__ (fs : Fs) (halves more odd : D) : Tr Fs :=
  finI (bdF (W' := Unit) (bd (bd (bd (bd (bd (.ok halves) fun v5 => (bd (bd (.ok (.int 0)) fun v3 => (bd (bd (.ok (.int 8)) fun v1 => (bd (.ok []) fun r2 => .ok (v1 :: r2))) fun r4 => .ok (v3 :: r4))) fun r6 => .ok (v5 :: r6))) (ul3 F_is_within)) asB) fun k => .ok (!k)) fun k => if k = true then .bad else (.ok (.nx ()))) fun (w7 : Unit) => (bdF (W' := Unit) (bd (bd (bd (bd (bd (.ok more) fun v12 => (bd (bd (bd (.ok (.int 60)) negD) fun v10 => (bd (bd (.ok (.int 60)) fun v8 => (bd (.ok []) fun r9 => .ok (v8 :: r9))) fun r11 => .ok (v10 :: r11))) fun r13 => .ok (v12 :: r13))) (ul3 F_is_within)) asB) fun k => .ok (!k)) fun k => if k = true then .bad else (.ok (.nx ()))) fun (w14 : Unit) => (bdF (W' := Unit) (bd (bd (bd (bd (bd (.ok odd) fun v19 => (bd (bd (bd (.ok (.int 9)) negD) fun v17 => (bd (bd (.ok (.int 9)) fun v15 => (bd (.ok []) fun r16 => .ok (v15 :: r16))) fun r18 => .ok (v17 :: r18))) fun r20 => .ok (v19 :: r20))) (ul3 F_is_within)) asB) fun k => .ok (!k)) fun k => if k = true then .bad else (.ok (.nx ()))) fun (w21 : Unit) => (bd (bd (bd (.ok halves) fun v26 => (bd (bd (.ok more) fun v24 => (bd (bd (.ok odd) fun v22 => (bd (.ok []) fun r23 => .ok (v22 :: r23))) fun r25 => .ok (v24 :: r25))) fun r27 => .ok (v26 :: r27))) fun ds => if ds.length ≤ sizeLine then .ok (.tup ds) else .bad) fun own_parts28 => if fs.length < 900 then (.ok (.nx (putD "own_parts" own_parts28 fs))) else .bad))))
theorem ok_Span___init__ (F : FnA K d_Span___init__ fd) (T : Tx K mg) (G_is_within : PromO P w K mg base CX0 2 (gd "is_within" K) [] (spF K Tb (ul3 F_is_within))) : FnOk P w K mg base CX0 3 (d_Span___init__.adr K) fd ["self", "halves", "more", "odd"] (spI K Tb "Span" (fun fs => ul3 (F_Span___init__ fs))) := by
  refine fnO0 F sc_Span___init__ (fun vs H Q E h => spI_len lenI3 h) (fun cdv A outer s H vs Q E hr h => ?_)
  refine ⟨_, (pss_cons (ps_if (pt_not (pt_val (pe_g (PromO.call G_is_within (hr.mono (by decide)) (passA (E := E))) (by rfl) T.g_is_within T.k_is_within (pa_cons (pv 1) (pa_cons pe_int (pa_cons (pe_gi T.m_MOST_HALVES (by rfl)) pa_nil))))))
      (pss_cons ps_never pss_nil) pss_nil)
      (pss_cons (ps_if (pt_not (pt_val (pe_g (PromO.call G_is_within (hr.mono (by decide)) (passA (E := E))) (by rfl) T.g_is_within T.k_is_within (pa_cons (pv 2) (pa_cons (pe_un un_neg (pe_gi T.m_MOST_MORE (by rfl))) (pa_cons (pe_gi T.m_MOST_MORE (by rfl)) pa_nil))))))
      (pss_cons ps_never pss_nil) pss_nil)
      (pss_cons (ps_if (pt_not (pt_val (pe_g (PromO.call G_is_within (hr.mono (by decide)) (passA (E := E))) (by rfl) T.g_is_within T.k_is_within (pa_cons (pv 3) (pa_cons (pe_un un_neg (pe_gi T.m_MOST_ODD (by rfl))) (pa_cons (pe_gi T.m_MOST_ODD (by rfl)) pa_nil))))))
      (pss_cons ps_never pss_nil) pss_nil)
      (pss_cons (ps_f (pv 0) (pe_tup (pa_cons (pv 1) (pa_cons (pv 2) (pa_cons (pv 3) pa_nil)))) T.cl_Span T.n_Span_own_parts)
      pss_nil)))), ?_⟩
  exact ini_of3 (F := F_Span___init__) (envI := fun fs => .oi "Span" fs :: List.replicate 3 .no) h (fun fs halves more odd => rfl) (fun p c fs halves more odd => (ss_if (fun (w7 : Unit) => [.oi "Span" fs, .fz halves, .fz more, .fz odd]) (sb_not (sb_tb (se_cl srl_sp0 (sa_cons se_var (sa_cons se_int (sa_cons se_int sa_nil)))))) ss_never (ss_nx (.s (.s (.s (.s .nil))))) (fun (w7 : Unit) => (ss_if (fun (w14 : Unit) => [.oi "Span" fs, .fz halves, .fz more, .fz odd]) (sb_not (sb_tb (se_cl srl_sp0 (sa_cons se_var (sa_cons (se_un sr_neg se_int) (sa_cons se_int sa_nil)))))) ss_never (ss_nx (.s (.s (.s (.s .nil))))) (fun (w14 : Unit) => (ss_if (fun (w21 : Unit) => [.oi "Span" fs, .fz halves, .fz more, .fz odd]) (sb_not (sb_tb (se_cl srl_sp0 (sa_cons se_var (sa_cons (se_un sr_neg se_int) (sa_cons se_int sa_nil)))))) ss_never (ss_nx (.s (.s (.s (.s .nil))))) (fun (w21 : Unit) => (ss_setf (se_tup (sa_cons se_var (sa_cons se_var (sa_cons se_var sa_nil)))) (fun own_parts28 => (ss_nx (.s (le_no _ rfl))))))))))))
abbrev N_Span_halves : List Str := ["self"]
theorem sc_Span_halves : FnScope N_Span_halves ["self"] (defScope s_Span_halves) := ⟨rfl, rfl, rfl, by decide +kernel, rfl, by decide +kernel, by decide +kernel⟩
def F_Span_halves (self : D) : Tr D :=
  fin (bd (bd (bd (.ok self) (fldD "Span" "own_parts")) fun v1 => (bd (.ok (.int 0)) fun v2 => ixD v1 v2)) fun d => .ok (.rt d))
theorem ok_Span_halves (F : FnA K d_Span_halves fd) (T : Tx K mg)  : FnOk P w K mg base CX0 1 (d_Span_halves.adr K) fd ["self"] (spF K Tb (ul1 F_Span_halves)) := by
  refine fnO0 F sc_Span_halves (fun vs H Q E h => spF_len len1 h) (fun cdv A outer s H vs Q E hr h => ?_)
  refine ⟨_, (pss_cons (ps_ret (pe_ix (ix_seqK (K := K) rfl) (pe_f (pv 0) T.cl_Span T.n_Span_own_parts) pe_int (fun _ _ => rfl))) pss_nil), ?_⟩
  exact fn_of1 (F := F_Span_halves) (envU := fun _ => List.replicate 1 .no) h (fun self => rfl) (fun p c self => (ss_ret (se_op sr_ix (se_un sr_fld se_var) se_int)))
abbrev N_Span_more : List Str := ["self"]
theorem sc_Span_more : FnScope N_Span_more ["self"] (defScope s_Span_more) := ⟨rfl, rfl, rfl, by decide +kernel, rfl, by decide +kernel, by decide +kernel⟩
def F_Span_more (self : D) : Tr D :=
  fin (bd (bd (bd (.ok self) (fldD "Span" "own_parts")) fun v1 => (bd (.ok (.int 1)) fun v2 => ixD v1 v2)) fun d => .ok (.rt d))
theorem ok_Span_more (F : FnA K d_Span_more fd) (T : Tx K mg)  : FnOk P w K mg base CX0 1 (d_Span_more.adr K) fd ["self"] (spF K Tb (ul1 F_Span_more)) := by
  refine fnO0 F sc_Span_more (fun vs H Q E h => spF_len len1 h) (fun cdv A outer s H vs Q E hr h => ?_)
  refine ⟨_, (pss_cons (ps_ret (pe_ix (ix_seqK (K := K) rfl) (pe_f (pv 0) T.cl_Span T.n_Span_own_parts) pe_int (fun _ _ => rfl))) pss_nil), ?_⟩
  exact fn_of1 (F := F_Span_more) (envU := fun _ => List.replicate 1 .no) h (fun self => rfl) (fun p c self => (ss_ret (se_op sr_ix (se_un sr_fld se_var) se_int)))
abbrev N_Span_odd : List Str := ["self"]
theorem sc_Span_odd : FnScope N_Span_odd ["self"] (defScope s_Span_odd) := ⟨rfl, rfl, rfl, by decide +kernel, rfl, by decide +kernel, by decide +kernel⟩
def F_Span_odd (self : D) : Tr D :=
  fin (bd (bd (bd (.ok self) (fldD "Span" "own_parts")) fun v1 => (bd (.ok (.int 2)) fun v2 => ixD v1 v2)) fun d => .ok (.rt d))
theorem ok_Span_odd (F : FnA K d_Span_odd fd) (T : Tx K mg)  : FnOk P w K mg base CX0 1 (d_Span_odd.adr K) fd ["self"] (spF K Tb (ul1 F_Span_odd)) := by
  refine fnO0 F sc_Span_odd (fun vs H Q E h => spF_len len1 h) (fun cdv A outer s H vs Q E hr h => ?_)
  refine ⟨_, (pss_cons (ps_ret (pe_ix (ix_seqK (K := K) rfl) (pe_f (pv 0) T.cl_Span T.n_Span_own_parts) pe_int (fun _ _ => rfl))) pss_nil), ?_⟩
  exact fn_of1 (F := F_Span_odd) (envU := fun _ => List.replicate 1 .no) h (fun self => rfl) (fun p c self => (ss_ret (se_op sr_ix (se_un sr_fld se_var) se_int)))
abbrev N_Span_number_at : List Str := ["self", "n"]
theorem sc_Span_number_at : FnScope N_Span_number_at ["self", "n"] (defScope s_Span_number_at) := ⟨rfl, rfl, rfl, by decide +kernel, rfl, by decide +kernel, by decide +kernel⟩
def F_Span_number_at (self n : D) : Tr D :=
  fin (bd (bd (bd (bd (nox (bd (.ok self) fun o1 => (isO "Span" o1 fun _ => (ul1 F_Span_halves) [o1]))) fun v4 => (bd (bd (.ok n) fun v2 => (bd (.ok (.int 2)) fun v3 => divD v2 v3)) fun v5 => mulD v4 v5)) fun v11 => (bd (bd (nox (bd (.ok self) fun o6 => (isO "Span" o6 fun _ => (ul1 F_Span_odd) [o6]))) fun v9 => (bd (bd (.ok n) fun v7 => (bd (.ok (.int 2)) fun v8 => modD v7 v8)) fun v10 => mulD v9 v10)) fun v12 => addD v11 v12)) fun v14 => (bd (nox (bd (.ok self) fun o13 => (isO "Span" o13 fun _ => (ul1 F_Span_more) [o13]))) fun v15 => addD v14 v15)) fun d => .ok (.rt d))
theorem ok_Span_number_at (F : FnA K d_Span_number_at fd) (T : Tx K mg) (G_Span_halves : PromO P w K mg base CX0 1 (propG "Span" "halves" K) [] (spF K Tb (ul1 F_Span_halves))) (G_Span_odd : PromO P w K mg base CX0 1 (propG "Span" "odd" K) [] (spF K Tb (ul1 F_Span_odd))) (G_Span_more : PromO P w K mg base CX0 1 (propG "Span" "more" K) [] (spF K Tb (ul1 F_Span_more))) : FnOk P w K mg base CX0 3 (d_Span_number_at.adr K) fd ["self", "n"] (spF K Tb (ul2 F_Span_number_at)) := by
  refine fnO0 F sc_Span_number_at (fun vs H Q E h => spF_len len2 h) (fun cdv A outer s H vs Q E hr h => ?_)
  refine ⟨_, (pss_cons (ps_ret (pe_op (op_addA (K := K) rfl) (pe_op (op_addA (K := K) rfl) (pe_op op_mulA (pe_po (pv 0) T.cl_Span T.pr_Span_halves G_Span_halves (hr.mono (by decide)) (passA (E := EF))) (pe_op op_fdivW (pv 1) pe_int)) (pe_op op_mulA (pe_po (pv 0) T.cl_Span T.pr_Span_odd G_Span_odd (hr.mono (by decide)) (passA (E := EF))) (pe_op op_mod (pv 1) pe_int))) (pe_po (pv 0) T.cl_Span T.pr_Span_more G_Span_more (hr.mono (by decide)) (passA (E := EF))))) pss_nil), ?_⟩
  exact fn_of2 (F := F_Span_number_at) (envU := fun _ => List.replicate 2 .no) h (fun self n => rfl) (fun p c self n => (ss_ret (se_op sr_add (se_op sr_add (se_op sr_mul (se_nox (se_pr se_var)) (se_op sr_div se_var se_int)) (se_op sr_mul (se_nox (se_pr se_var)) (se_op sr_mod se_var se_int))) (se_nox (se_pr se_var)))))
abbrev N_Span___call__ : List Str := ["self", "n"]
theorem sc_Span___call__ : FnScope N_Span___call__ ["self", "n"] (defScope s_Span___call__) := ⟨rfl, rfl, rfl, by decide +kernel, rfl, by decide +kernel, by decide +kernel⟩
def F_Span___call__ (self n : D) : Tr D :=
  fin (bd (bd (bd (.ok n) fun v1 => (bd (.ok []) fun r2 => .ok (v1 :: r2))) (ul1 F_need_length)) fun _ => (bd (bd (.ok self) fun o5 => (isO "Span" o5 fun fs => if fs.lookup ("number_at" : Str) = none then bd (bd (.ok n) fun v3 => (bd (.ok []) fun r4 => .ok (v3 :: r4))) fun ds => (ul2 F_Span_number_at) (o5 :: ds) else .bad)) fun d => .ok (.rt d)))
theorem ok_Span___call__ (F : FnA K d_Span___call__ fd) (T : Tx K mg) (G_need_length : PromO P w K mg base CX0 4 (gd "need_length" K) [] (spF K Tb (ul1 F_need_length))) (G_Span_number_at : PromO P w K mg base CX0 3 (md "Span" "number_at" K) [] (spF K Tb (ul2 F_Span_number_at))) : FnOk P w K mg base CX0 5 (d_Span___call__.adr K) fd ["self", "n"] (spF K Tb (ul2 F_Span___call__)) := by
  refine fnO0 F sc_Span___call__ (fun vs H Q E h => spF_len len2 h) (fun cdv A outer s H vs Q E hr h => ?_)
  refine ⟨_, (pss_cons (ps_expr (pe_g (PromO.call G_need_length (hr.mono (by decide)) (passA (E := E))) (by rfl) T.g_need_length T.k_need_length (pa_cons (pv 1) pa_nil)))
      (pss_cons (ps_ret (pe_m (pv 0) T.cl_Span T.mt_Span_number_at (PromO.call G_Span_number_at (hr.mono (by decide)) (passA (E := E))) (pa_cons (pv 1) pa_nil))) pss_nil)), ?_⟩
  exact fn_of2 (F := F_Span___call__) (envU := fun _ => List.replicate 2 .no) h (fun self n => rfl) (fun p c self n => (ss_drop (se_cl srl_sp0 (sa_cons se_var sa_nil)) (ss_ret (se_mt srl_sp0 se_var (sa_cons se_var sa_nil)))))
abbrev N_Span_plus : List Str := ["self", "other", "sign"]
theorem sc_Span_plus : FnScope N_Span_plus ["self", "other", "sign"] (defScope s_Span_plus) := ⟨rfl, rfl, rfl, by decide +kernel, rfl, by decide +kernel, by decide +kernel⟩
def F_Span_plus (self other sign : D) : Tr D :=
  fin (bdF (W' := Unit) (bd (bd (bd (.ok other) fun d => bd (opt (isi_Span d)) fun k => .ok (.bl k)) asB) fun k => if k = true then (bd (bd (bd (bd (nox (bd (.ok self) fun o2 => (isO "Span" o2 fun _ => (ul1 F_Span_halves) [o2]))) fun v6 => (bd (bd (.ok sign) fun v4 => (bd (nox (bd (.ok other) fun o3 => (isO "Span" o3 fun _ => (ul1 F_Span_halves) [o3]))) fun v5 => mulD v4 v5)) fun v7 => addD v6 v7)) fun v24 => (bd (bd (bd (nox (bd (.ok self) fun o8 => (isO "Span" o8 fun _ => (ul1 F_Span_more) [o8]))) fun v12 => (bd (bd (.ok sign) fun v10 => (bd (nox (bd (.ok other) fun o9 => (isO "Span" o9 fun _ => (ul1 F_Span_more) [o9]))) fun v11 => mulD v10 v11)) fun v13 => addD v12 v13)) fun v22 => (bd (bd (bd (nox (bd (.ok self) fun o14 => (isO "Span" o14 fun _ => (ul1 F_Span_odd) [o14]))) fun v18 => (bd (bd (.ok sign) fun v16 => (bd (nox (bd (.ok other) fun o15 => (isO "Span" o15 fun _ => (ul1 F_Span_odd) [o15]))) fun v17 => mulD v16 v17)) fun v19 => addD v18 v19)) fun v20 => (bd (.ok []) fun r21 => .ok (v20 :: r21))) fun r23 => .ok (v22 :: r23))) fun r25 => .ok (v24 :: r25))) (fun ds => bd ((fun fs => ul3 (F_Span___init__ fs)) [] ds) fun fs => .ok (.obj "Span" fs))) fun d => .ok (.rt d)) else (.ok (.nx ()))) fun (w1 : Unit) => (bd (bd (bd (nox (bd (.ok self) fun o26 => (isO "Span" o26 fun _ => (ul1 F_Span_halves) [o26]))) fun v37 => (bd (bd (bd (nox (bd (.ok self) fun o27 => (isO "Span" o27 fun _ => (ul1 F_Span_more) [o27]))) fun v30 => (bd (bd (.ok sign) fun v28 => (bd (.ok other) fun v29 => mulD v28 v29)) fun v31 => addD v30 v31)) fun v35 => (bd (bd (nox (bd (.ok self) fun o32 => (isO "Span" o32 fun _ => (ul1 F_Span_odd) [o32]))) fun v33 => (bd (.ok []) fun r34 => .ok (v33 :: r34))) fun r36 => .ok (v35 :: r36))) fun r38 => .ok (v37 :: r38))) (fun ds => bd ((fun fs => ul3 (F_Span___init__ fs)) [] ds) fun fs => .ok (.obj "Span" fs))) fun d => .ok (.rt d)))
theorem ok_Span_plus (F : FnA K d_Span_plus fd) (T : Tx K mg) (G_Span___init__ : PromO P w K mg base CX0 3 (md "Span" "__init__" K) [] (spI K Tb "Span" (fun fs => ul3 (F_Span___init__ fs)))) (G_Span_halves : PromO P w K mg base CX0 1 (propG "Span" "halves" K) [] (spF K Tb (ul1 F_Span_halves))) (G_Span_more : PromO P w K mg base CX0 1 (propG "Span" "more" K) [] (spF K Tb (ul1 F_Span_more))) (G_Span_odd : PromO P w K mg base CX0 1 (propG "Span" "odd" K) [] (spF K Tb (ul1 F_Span_odd))) : FnOk P w K mg base CX0 5 (d_Span_plus.adr K) fd ["self", "other", "sign"] (spF K Tb (ul3 F_Span_plus)) := by
  refine fnO0 F sc_Span_plus (fun vs H Q E h => spF_len len3 h) (fun cdv A outer s H vs Q E hr h => ?_)
  refine ⟨_, (pss_cons (ps_if (pt_val (pe_callB (call_isiZ (K := K) rfl) (by rfl) T.f_isinstance (by decide +kernel) (pa_cons (pv 1) (pa_cons (pe_glob (v := .ref _) rfl T.g_Span rfl) pa_nil))))
      (pss_cons (ps_ret (pe_g (PromO.make T.mk_Span G_Span___init__ (hr.mono (by decide)) (passA (E := E))) (by rfl) T.g_Span T.k_Span (pa_cons (pe_op (op_addA (K := K) rfl) (pe_po (pv 0) T.cl_Span T.pr_Span_halves G_Span_halves (hr.mono (by decide)) (passA (E := EF))) (pe_op op_mulA (pv 2) (pe_po (pv 1) T.cl_Span T.pr_Span_halves G_Span_halves (hr.mono (by decide)) (passA (E := EF))))) (pa_cons (pe_op (op_addA (K := K) rfl) (pe_po (pv 0) T.cl_Span T.pr_Span_more G_Span_more (hr.mono (by decide)) (passA (E := EF))) (pe_op op_mulA (pv 2) (pe_po (pv 1) T.cl_Span T.pr_Span_more G_Span_more (hr.mono (by decide)) (passA (E := EF))))) (pa_cons (pe_op (op_addA (K := K) rfl) (pe_po (pv 0) T.cl_Span T.pr_Span_odd G_Span_odd (hr.mono (by decide)) (passA (E := EF))) (pe_op op_mulA (pv 2) (pe_po (pv 1) T.cl_Span T.pr_Span_odd G_Span_odd (hr.mono (by decide)) (passA (E := EF))))) pa_nil))))) pss_nil) pss_nil)
      (pss_cons (ps_ret (pe_g (PromO.make T.mk_Span G_Span___init__ (hr.mono (by decide)) (passA (E := E))) (by rfl) T.g_Span T.k_Span (pa_cons (pe_po (pv 0) T.cl_Span T.pr_Span_halves G_Span_halves (hr.mono (by decide)) (passA (E := EF))) (pa_cons (pe_op (op_addA (K := K) rfl) (pe_po (pv 0) T.cl_Span T.pr_Span_more G_Span_more (hr.mono (by decide)) (passA (E := EF))) (pe_op op_mulA (pv 2) (pv 1))) (pa_cons (pe_po (pv 0) T.cl_Span T.pr_Span_odd G_Span_odd (hr.mono (by decide)) (passA (E := EF))) pa_nil))))) pss_nil)), ?_⟩
  exact fn_of3 (F := F_Span_plus) (envU := fun _ => List.replicate 3 .no) h (fun self other sign => rfl) (fun p c self other sign => (ss_if (fun (w1 : Unit) => [.fz self, .fz other, .fz sign]) (sb_tb (se_isi (.own _) (isT_Span T) se_var)) (ss_ret (se_cl srl_mk0 (sa_cons (se_op sr_add (se_nox (se_pr se_var)) (se_op sr_mul se_var (se_nox (se_pr se_var)))) (sa_cons (se_op sr_add (se_nox (se_pr se_var)) (se_op sr_mul se_var (se_nox (se_pr se_var)))) (sa_cons (se_op sr_add (se_nox (se_pr se_var)) (se_op sr_mul se_var (se_nox (se_pr se_var)))) sa_nil))))) (ss_nx (.s (.s (.s .nil)))) (fun (w1 : Unit) => (ss_ret (se_cl srl_mk0 (sa_cons (se_nox (se_pr se_var)) (sa_cons (se_op sr_add (se_nox (se_pr se_var)) (se_op sr_mul se_var se_var)) (sa_cons (se_nox (se_pr se_var)) sa_nil))))))))
abbrev N_Span___add__ : List Str := ["self", "other"]
theorem sc_Span___add__ : FnScope N_Span___add__ ["self", "other"] (defScope s_Span___add__) := ⟨rfl, rfl, rfl, by decide +kernel, rfl, by decide +kernel, by decide +kernel⟩
def F_Span___add__ (self other : D) : Tr D :=
  fin (bd (bd (.ok self) fun o5 => (isO "Span" o5 fun fs => if fs.lookup ("plus" : Str) = none then bd (bd (.ok other) fun v3 => (bd (bd (.ok (.int 1)) fun v1 => (bd (.ok []) fun r2 => .ok (v1 :: r2))) fun r4 => .ok (v3 :: r4))) fun ds => (ul3 F_Span_plus) (o5 :: ds) else .bad)) fun d => .ok (.rt d))
theorem ok_Span___add__ (F : FnA K d_Span___add__ fd) (T : Tx K mg) (G_Span_plus : PromO P w K mg base CX0 5 (md "Span" "plus" K) [] (spF K Tb (ul3 F_Span_plus))) : FnOk P w K mg base CX0 6 (d_Span___add__.adr K) fd ["self", "other"] (spF K Tb (ul2 F_Span___add__)) := by
  refine fnO0 F sc_Span___add__ (fun vs H Q E h => spF_len len2 h) (fun cdv A outer s H vs Q E hr h => ?_)
  refine ⟨_, (pss_cons (ps_ret (pe_m (pv 0) T.cl_Span T.mt_Span_plus (PromO.call G_Span_plus (hr.mono (by decide)) (passA (E := E))) (pa_cons (pv 1) (pa_cons pe_int pa_nil)))) pss_nil), ?_⟩
  exact fn_of2 (F := F_Span___add__) (envU := fun _ => List.replicate 2 .no) h (fun self other => rfl) (fun p c self other => (ss_ret (se_mt srl_sp0 se_var (sa_cons se_var (sa_cons se_int sa_nil)))))
end
end Lw

set_option Elab.async false
set_option linter.all false
set_option maxRecDepth 100000
set_option maxHeartbeats 4000000
set_option pp.maxSteps 600
namespace Lw
open PySem PySem.Spec PyProof.Rows L2 Gh Gp
section
variable {P : Program} {w : World} {K : PySem.W.Frag} {mg : Str → Option Value} {base : Heap} {f : Addr} {fd : FuncData} {Tb : List (Addr × Str)}
abbrev N_Sided___init___at_Stretch : List Str := ["self", "side"]
theorem sc_Sided___init___at_Stretch : FnScope N_Sided___init___at_Stretch ["self", "side"] (defScope s_Sided___init___at_Stretch) := ⟨rfl, rfl, rfl, by decide +kernel, rfl, by decide +kernel, by decide +kernel⟩
def F_Sided___init___at_Stretch (fs : Fs) (side : D) : Tr Fs :=
  finI (bd (.ok side) fun side1 => if fs.length < 900 then (.ok (.nx (putD "side" side1 fs))) else .bad)
theorem ok_Sided___init___at_Stretch (F : FnA K d_Sided___init___at_Stretch fd) (T : Tx K mg)  : FnOk P w K mg base CX0 1 (d_Sided___init___at_Stretch.adr K) fd ["self", "side"] (spI K Tb "Stretch" (fun fs => ul1 (F_Sided___init___at_Stretch fs))) := by
  refine fnO0 F sc_Sided___init___at_Stretch (fun vs H Q E h => spI_len lenI1 h) (fun cdv A outer s H vs Q E hr h => ?_)
  refine ⟨_, (pss_cons (ps_f (pv 0) (pv 1) T.cl_Stretch T.n_Stretch_side)
      pss_nil), ?_⟩
  exact ini_of1 (F := F_Sided___init___at_Stretch) (envI := fun fs => .oi "Stretch" fs :: List.replicate 1 .no) h (fun fs side => rfl) (fun p c fs side => (ss_setf se_var (fun side1 => (ss_nx (.s (le_no _ rfl))))))
abbrev N_Stretch___init__ : List Str := ["self", "first", "span", "side", "late", "__class__"]
theorem sc_Stretch___init__ : NdefX.NScope N_Stretch___init__ ["self", "first", "span", "side", "late"] ["__class__"] (defScope s_Stretch___init__) := NdefX.nscope_by (by decide +kernel)
def F_Stretch___init__ (fs : Fs) (first span side late : D) : Tr Fs :=
  finI (bdF (W' := Unit) (bd (bd (bd (bd (bd (.ok first) fun v5 => (bd (bd (.ok (.int 0)) fun v3 => (bd (bd (.ok (.int 1)) fun v1 => (bd (.ok []) fun r2 => .ok (v1 :: r2))) fun r4 => .ok (v3 :: r4))) fun r6 => .ok (v5 :: r6))) (ul3 F_is_within)) asB) fun k => .ok (!k)) fun k => if k = true then .bad else (.ok (.nx ()))) fun (w7 : Unit) => (bdF (W' := Unit) (bd (bd (bd (bd (.ok span) fun d => bd (opt (isi_Span d)) fun k => .ok (.bl k)) asB) fun k => .ok (!k)) fun k => if k = true then .bad else (.ok (.nx ()))) fun (w8 : Unit) => (bdF (W' := Unit) (bd (bd (bd (bd (bd (.ok side) fun d => bd (opt (isi_str d)) fun k => .ok (.bl k)) asB) fun k => .ok (!k)) fun k => if k = true then .ok true else (bd (bd (.ok side) fun v9 => (bd (.ok (.tup [.str "front", .str "back"])) fun v10 => notinD v9 v10)) asB)) fun k => if k = true then .bad else (.ok (.nx ()))) fun (w11 : Unit) => (bdF (W' := Unit) (bd (bd (bd (bd (.ok late) fun d => bd (opt (isi_bool d)) fun k => .ok (.bl k)) asB) fun k => .ok (!k)) fun k => if k = true then .bad else (.ok (.nx ()))) fun (w12 : Unit) => (bd (bd (.ok side) fun v13 => (bd (.ok []) fun r14 => .ok (v13 :: r14))) fun ds => bd ((fun fs => ul1 (F_Sided___init___at_Stretch fs)) fs ds) fun fs15 => (bd (.ok first) fun first16 => if fs15.length < 900 then (bd (.ok span) fun span17 => if (putD "first" first16 fs15).length < 900 then (bd (.ok late) fun late18 => if (putD "span" span17 (putD "first" first16 fs15)).length < 900 then (.ok (.nx (putD "late" late18 (putD "span" span17 (putD "first" first16 fs15))))) else .bad) else .bad) else .bad))))))
theorem ok_Stretch___init__ (F : FnS K ds_Stretch___init__ pfile fd) (T : Tx K mg) (hP : ((P.main.file : Str) == pfile) = true ∧ (P.main.scope.names.lookup ("super" : Str)).isSome = false) (G_is_within : PromO P w K mg base CX0 2 (gd "is_within" K) [] (spF K Tb (ul3 F_is_within))) (G_Sided___init___at_Stretch : PromO P w K mg base CX0 1 (md "Sided" "__init__" K) [] (spI K Tb "Stretch" (fun fs => ul1 (F_Sided___init___at_Stretch fs)))) : FnOk P w K mg base CX0 3 (ds_Stretch___init__.d.adr K) fd ["self", "first", "span", "side", "late"] (spI K Tb "Stretch" (fun fs => ul4 (F_Stretch___init__ fs))) := by
  refine SupF.ok (k := 2) (pre := (defBody s_Stretch___init__).take 4) (post := (defBody s_Stretch___init__).drop 5) (by rfl) F ⟨Option.isSome_iff_exists.mp T.cd_Stretch, T.f_super, T.stat⟩ sc_Stretch___init__ (fun vs H Q E h => spI_len lenI4 h) hP.1 hP.2 (by decide) rfl rfl rfl rfl (fun cc cda A outer s H vs Q E hr h => ?_) (pl := _) (he := fun _ => rfl)
  refine ⟨_, _, _, _, _, _, _, _, _, (pss_cons (ps_if (pt_not (pt_val (pe_g (PromO.call G_is_within (hr.mono (by decide)) (passA (E := E))) (by rfl) T.g_is_within T.k_is_within (pa_cons (pv 1) (pa_cons pe_int (pa_cons pe_int pa_nil))))))
      (pss_cons ps_never pss_nil) pss_nil)
      (pss_cons (ps_if (pt_not (pt_val (pe_callB (call_isiZ (K := K) rfl) (by rfl) T.f_isinstance (by decide +kernel) (pa_cons (pv 2) (pa_cons (pe_glob (v := .ref _) rfl T.g_Span rfl) pa_nil)))))
      (pss_cons ps_never pss_nil) pss_nil)
      (pss_cons (ps_if (PW.pt (pw_or (pt_not (pt_val (pe_callB (call_isiZ (K := K) rfl) (by rfl) T.f_isinstance (by decide +kernel) (pa_cons (pv 3) (pa_cons (pe_bltn (v := .ty "str") (by rfl) T.f_str (by decide +kernel) rfl) pa_nil))))) (pw_or1 (pt_cmpR (op_notinA (K := K) rfl) (pv 3) (pe_glob (v := .ref (gd "SIDES" K)) rfl T.g_SIDES rfl) (by rfl)))))
      (pss_cons ps_never pss_nil) pss_nil)
      (pss_cons (ps_if (pt_not (pt_val (pe_callB (call_isiZ (K := K) rfl) (by rfl) T.f_isinstance (by decide +kernel) (pa_cons (pv 4) (pa_cons (pe_bltn (v := .ty "bool") (by rfl) T.f_bool (by decide +kernel) rfl) pa_nil)))))
      (pss_cons ps_never pss_nil) pss_nil)
      pss_nil)))), (pa_cons (pv 3) pa_nil), (pss_cons (ps_f (pv 0) (pv 1) T.cl_Stretch T.n_Stretch_first)
      (pss_cons (ps_f (pv 0) (pv 2) T.cl_Stretch T.n_Stretch_span)
      (pss_cons (ps_f (pv 0) (pv 4) T.cl_Stretch T.n_Stretch_late)
      pss_nil))), G_Sided___init___at_Stretch, by decide, (passA (E := E)), ?_⟩
  refine sup_goal ?_
  exact ini_of4 (F := F_Stretch___init__) (envI := fun fs => .oi "Stretch" fs :: List.replicate 5 .no) h (fun fs first span side late => rfl) (fun p c fs first span side late => (ss_assoc (ss_if (fun (w7 : Unit) => [.oi "Stretch" fs, .fz first, .fz span, .fz side, .fz late, .no]) (sb_not (sb_tb (se_cl srl_sp0 (sa_cons se_var (sa_cons se_int (sa_cons se_int sa_nil)))))) ss_never (ss_nx (.s (.s (.s (.s (.s (.s .nil))))))) (fun (w7 : Unit) => (ss_assoc (ss_if (fun (w8 : Unit) => [.oi "Stretch" fs, .fz first, .fz span, .fz side, .fz late, .no]) (sb_not (sb_tb (se_isi (.own _) (isT_Span T) se_var))) ss_never (ss_nx (.s (.s (.s (.s (.s (.s .nil))))))) (fun (w8 : Unit) => (ss_assoc (ss_if (fun (w11 : Unit) => [.oi "Stretch" fs, .fz first, .fz span, .fz side, .fz late, .no]) (sb_or (sb_not (sb_tb (se_isi (.ty _) (isT_str T) se_var))) (sb_tst (se_op sr_notin se_var (se_c fun _ _ => .tupW (vs := [.str "front", .str "back"]) T.tu_SIDES (by decide) (.cons (.str _ (by decide)) (.cons (.str _ (by decide)) .nil)))))) ss_never (ss_nx (.s (.s (.s (.s (.s (.s .nil))))))) (fun (w11 : Unit) => (ss_assoc (ss_if (fun (w12 : Unit) => [.oi "Stretch" fs, .fz first, .fz span, .fz side, .fz late, .no]) (sb_not (sb_tb (se_isi (.ty _) (isT_bool T) se_var))) ss_never (ss_nx (.s (.s (.s (.s (.s (.s .nil))))))) (fun (w12 : Unit) => (ss_next (ss_sup T.sc_Stretch_Stretch (sa_cons se_var sa_nil) (fun fs15 => (ss_setf se_var (fun first16 => (ss_setf se_var (fun span17 => (ss_setf se_var (fun late18 => (ss_nx (.s (le_no _ rfl)))))))))))))))))))))))))
abbrev N_Stretch_changes : List Str := ["self", "n", "count"]
theorem sc_Stretch_changes : FnScope N_Stretch_changes ["self", "n"] (defScope s_Stretch_changes) := ⟨rfl, rfl, rfl, by decide +kernel, rfl, by decide +kernel, by decide +kernel⟩
def F_Stretch_changes (self n : D) : Tr D :=
  fin (bd (bd (bd (.ok n) fun v1 => (bd (.ok []) fun r2 => .ok (v1 :: r2))) (ul1 F_need_length)) fun _ => (bd (bd (.ok self) fun o6 => (isO "Stretch" o6 fun fs => match fs.lookup ("span" : Str) with | some y7 => isO "Span" y7 fun _ => bd (bd (.ok n) fun v4 => (bd (.ok []) fun r5 => .ok (v4 :: r5))) fun ds => (ul2 F_Span___call__) (y7 :: ds) | none => .bad)) fun count2 => (bd (bd (bd (bd (.ok count2) fun v8 => (bd (.ok (.int 0)) fun v9 => gtD v8 v9)) asB) fun k => if k = true then (.ok count2) else (.ok (.int 0))) fun d => .ok (.rt d))))
theorem ok_Stretch_changes (F : FnA K d_Stretch_changes fd) (T : Tx K mg) (G_need_length : PromO P w K mg base CX0 4 (gd "need_length" K) [] (spF K Tb (ul1 F_need_length))) (G_Span___call__ : PromO P w K mg base CX0 5 (md "Span" "__call__" K) [] (spF K Tb (ul2 F_Span___call__))) : FnOk P w K mg base CX0 6 (d_Stretch_changes.adr K) fd ["self", "n"] (spF K Tb (ul2 F_Stretch_changes)) := by
  refine fnO0 F sc_Stretch_changes (fun vs H Q E h => spF_len len2 h) (fun cdv A outer s H vs Q E hr h => ?_)
  refine ⟨_, (pss_cons (ps_expr (pe_g (PromO.call G_need_length (hr.mono (by decide)) (passA (E := E))) (by rfl) T.g_need_length T.k_need_length (pa_cons (pv 1) pa_nil)))
      (pss_cons (ps_set (i := 2) sc_Stretch_changes.nd rfl (.inl rfl) (pe_fcall (pv 0) T.cl_Stretch T.n_Stretch_span T.co_Span G_Span___call__ (hr.mono (by decide)) (passA (E := E)) (pa_cons (pv 1) pa_nil)))
      (pss_cons (ps_ret (pe_ifExp (pt_cmpR op_gt (pv 2) pe_int (nomark _)) (pv 2) pe_int)) pss_nil))), ?_⟩
  exact fn_of2 (F := F_Stretch_changes) (envU := fun _ => List.replicate 3 .no) h (fun self n => rfl) (fun p c self n => (ss_drop (se_cl srl_sp0 (sa_cons se_var sa_nil)) (ss_asg (se_fcall se_var (sa_cons se_var sa_nil)) (fun count2 => (ss_ret (se_if (sb_tst (se_op sr_gt se_var se_int)) se_var se_int))))))
abbrev N_Stretch_begin : List Str := ["self", "count"]
theorem sc_Stretch_begin : FnScope N_Stretch_begin ["self", "count"] (defScope s_Stretch_begin) := ⟨rfl, rfl, rfl, by decide +kernel, rfl, by decide +kernel, by decide +kernel⟩
def F_Stretch_begin (self count : D) : Tr D :=
  fin (bd (bd (bd (bd (bd (.ok self) (fldD "Stretch" "late")) asB) fun k => if k = true then (bd (bd (bd (.ok count) fun v1 => (bd (.ok (.int 2)) fun v2 => modD v1 v2)) fun v3 => (bd (.ok (.int 0)) fun v4 => eqD v3 v4)) asB) else .ok false) fun k => if k = true then (bd (.ok (.int 1)) fun v5 => (bd (bd (.ok self) (fldD "Stretch" "first")) fun v6 => subD v5 v6)) else (bd (.ok self) (fldD "Stretch" "first"))) fun d => .ok (.rt d))
theorem ok_Stretch_begin (F : FnA K d_Stretch_begin fd) (T : Tx K mg)  : FnOk P w K mg base CX0 1 (d_Stretch_begin.adr K) fd ["self", "count"] (spF K Tb (ul2 F_Stretch_begin)) := by
  refine fnO0 F sc_Stretch_begin (fun vs H Q E h => spF_len len2 h) (fun cdv A outer s H vs Q E hr h => ?_)
  refine ⟨_, (pss_cons (ps_ret (pe_ifExp (PW.pt (pw_and (pt_val (pe_f (pv 0) T.cl_Stretch T.n_Stretch_late)) (pw_and1 (pt_cmpR (op_eqA (K := K) rfl hr.units) (pe_op op_mod (pv 1) pe_int) pe_int (nomark _))))) (pe_op op_sub pe_int (pe_f (pv 0) T.cl_Stretch T.n_Stretch_first)) (pe_f (pv 0) T.cl_Stretch T.n_Stretch_first))) pss_nil), ?_⟩
  exact fn_of2 (F := F_Stretch_begin) (envU := fun _ => List.replicate 2 .no) h (fun self count => rfl) (fun p c self count => (ss_ret (se_if (sb_and (sb_tb (se_un sr_fld se_var)) (sb_tst (se_op sr_eq (se_op sr_mod se_var se_int) se_int))) (se_op sr_sub se_int (se_un sr_fld se_var)) (se_un sr_fld se_var))))
abbrev N_Stretch_to : List Str := ["self", "n", "place", "count", "kind"]
theorem sc_Stretch_to : FnScope N_Stretch_to ["self", "n", "place"] (defScope s_Stretch_to) := ⟨rfl, rfl, rfl, by decide +kernel, rfl, by decide +kernel, by decide +kernel⟩
def F_Stretch_to (self n place : D) : Tr D :=
  fin (bd (bd (bd (.ok n) fun v3 => (bd (bd (.ok place) fun v1 => (bd (.ok []) fun r2 => .ok (v1 :: r2))) fun r4 => .ok (v3 :: r4))) (ul2 F_need_place)) fun _ => (bd (bd (.ok self) fun o8 => (isO "Stretch" o8 fun fs => if fs.lookup ("changes" : Str) = none then bd (bd (.ok n) fun v6 => (bd (.ok []) fun r7 => .ok (v6 :: r7))) fun ds => (ul2 F_Stretch_changes) (o8 :: ds) else .bad)) fun count4 => (bd (bd (.ok self) fun o12 => (isO "Stretch" o12 fun fs => if fs.lookup ("begin" : Str) = none then bd (bd (.ok count4) fun v10 => (bd (.ok []) fun r11 => .ok (v10 :: r11))) fun ds => (ul2 F_Stretch_begin) (o12 :: ds) else .bad)) fun kind8 => (bdF (W' := D) (bd (bd (bd (bd (bd (.ok self) (fldD "Stretch" "side")) fun v13 => (bd (.ok (.str "back")) fun v14 => eqD v13 v14)) asB) fun k => if k = true then (bd (bd (bd (.ok n) fun v15 => (bd (.ok (.int 2)) fun v16 => modD v15 v16)) fun v17 => (bd (.ok (.int 1)) fun v18 => eqD v17 v18)) asB) else .ok false) fun k => if k = true then (bd (bd (.ok (.int 1)) fun v21 => (bd (.ok kind8) fun v22 => subD v21 v22)) fun kind19 => (.ok (.nx kind19))) else (.ok (.nx kind8))) fun (w19 : D) => (bd (bd (bd (.ok n) fun v37 => (bd (bd (bd (bd (.ok n) fun v33 => (bd (bd (.ok w19) fun v31 => (bd (bd (.ok count4) fun v29 => (bd (bd (bd (bd (.ok n) fun v25 => (bd (bd (.ok place) fun v23 => (bd (.ok []) fun r24 => .ok (v23 :: r24))) fun r26 => .ok (v25 :: r26))) (ul2 F_seat_at)) fun v27 => (bd (.ok []) fun r28 => .ok (v27 :: r28))) fun r30 => .ok (v29 :: r30))) fun r32 => .ok (v31 :: r32))) fun r34 => .ok (v33 :: r34))) (ul4 F_seat_behind)) fun v35 => (bd (.ok []) fun r36 => .ok (v35 :: r36))) fun r38 => .ok (v37 :: r38))) (ul2 F_place_at)) fun d => .ok (.rt d))))))
theorem ok_Stretch_to (F : FnA K d_Stretch_to fd) (T : Tx K mg) (G_need_place : PromO P w K mg base CX0 5 (gd "need_place" K) [] (spF K Tb (ul2 F_need_place))) (G_Stretch_changes : PromO P w K mg base CX0 6 (md "Stretch" "changes" K) [] (spF K Tb (ul2 F_Stretch_changes))) (G_Stretch_begin : PromO P w K mg base CX0 1 (md "Stretch" "begin" K) [] (spF K Tb (ul2 F_Stretch_begin))) (G_place_at : PromO P w K mg base CX0 1 (gd "place_at" K) [] (spF K Tb (ul2 F_place_at))) (G_seat_behind : PromO P w K mg base CX0 1 (gd "seat_behind" K) [] (spF K Tb (ul4 F_seat_behind))) (G_seat_at : PromO P w K mg base CX0 1 (gd "seat_at" K) [] (spF K Tb (ul2 F_seat_at))) : FnOk P w K mg base CX0 7 (d_Stretch_to.adr K) fd ["self", "n", "place"] (spF K Tb (ul3 F_Stretch_to)) := by
  refine fnO0 F sc_Stretch_to (fun vs H Q E h => spF_len len3 h) (fun cdv A outer s H vs Q E hr h => ?_)
  refine ⟨_, (pss_cons (ps_expr (pe_g (PromO.call G_need_place (hr.mono (by decide)) (passA (E := E))) (by rfl) T.g_need_place T.k_need_place (pa_cons (pv 1) (pa_cons (pv 2) pa_nil))))
      (pss_cons (ps_set (i := 3) sc_Stretch_to.nd rfl (.inl rfl) (pe_m (pv 0) T.cl_Stretch T.mt_Stretch_changes (PromO.call G_Stretch_changes (hr.mono (by decide)) (passA (E := E))) (pa_cons (pv 1) pa_nil)))
      (pss_cons (ps_set (i := 4) sc_Stretch_to.nd rfl (.inl rfl) (pe_m (pv 0) T.cl_Stretch T.mt_Stretch_begin (PromO.call G_Stretch_begin (hr.mono (by decide)) (passA (E := E))) (pa_cons (pv 3) pa_nil)))
      (pss_cons (ps_if (PW.pt (pw_and (pt_cmpR (op_eqA (K := K) rfl hr.units) (pe_f (pv 0) T.cl_Stretch T.n_Stretch_side) pe_str (nomark _)) (pw_and1 (pt_cmpR (op_eqA (K := K) rfl hr.units) (pe_op op_mod (pv 1) pe_int) pe_int (nomark _)))))
      (pss_cons (ps_set (i := 4) sc_Stretch_to.nd rfl (.inl rfl) (pe_op op_sub pe_int (pv 4)))
      pss_nil) pss_nil)
      (pss_cons (ps_ret (pe_g (PromO.call G_place_at (hr.mono (by decide)) (passA (E := E))) (by rfl) T.g_place_at T.k_place_at (pa_cons (pv 1) (pa_cons (pe_g (PromO.call G_seat_behind (hr.mono (by decide)) (passA (E := E))) (by rfl) T.g_seat_behind T.k_seat_behind (pa_cons (pv 1) (pa_cons (pv 4) (pa_cons (pv 3) (pa_cons (pe_g (PromO.call G_seat_at (hr.mono (by decide)) (passA (E := E))) (by rfl) T.g_seat_at T.k_seat_at (pa_cons (pv 1) (pa_cons (pv 2) pa_nil))) pa_nil))))) pa_nil)))) pss_nil))))), ?_⟩
  exact fn_of3 (F := F_Stretch_to) (envU := fun _ => List.replicate 5 .no) h (fun self n place => rfl) (fun p c self n place => (ss_drop (se_cl srl_sp0 (sa_cons se_var (sa_cons se_var sa_nil))) (ss_asg (se_mt srl_sp0 se_var (sa_cons se_var sa_nil)) (fun count4 => (ss_asg (se_mt srl_sp0 se_var (sa_cons se_var sa_nil)) (fun kind8 => (ss_if (fun (w19 : D) => [.fz self, .fz n, .fz place, .fz count4, .fz w19]) (sb_and (sb_tst (se_op sr_eq (se_un sr_fld se_var) (se_str (by decide)))) (sb_tst (se_op sr_eq (se_op sr_mod se_var se_int) se_int))) (ss_asg (se_op sr_sub se_int se_var) (fun kind19 => (ss_nx (.s (.s (.s (.s (.s .nil)))))))) (ss_nx (.s (.s (.s (.s (.s .nil)))))) (fun (w19 : D) => (ss_ret (se_cl srl_sp0 (sa_cons se_var (sa_cons (se_cl srl_sp0 (sa_cons se_var (sa_cons se_var (sa_cons se_var (sa_cons (se_cl srl_sp0 (sa_cons se_var (sa_cons se_var sa_nil))) sa_nil))))) sa_nil))))))))))))
abbrev N_Step_said_at_Stretch : List Str := ["self"]
theorem sc_Step_said_at_Stretch : FnScope N_Step_said_at_Stretch ["self"] (defScope s_Step_said_at_Stretch) := ⟨rfl, rfl, rfl, by decide +kernel, rfl, by decide +kernel, by decide +kernel⟩
def F_Step_said_at_Stretch (self : D) : Tr D :=
  fin (bd (.ok (.int 1)) fun d => .ok (.rt d))
theorem ok_Step_said_at_Stretch (F : FnA K d_Step_said_at_Stretch fd) (T : Tx K mg)  : FnOk P w K mg base CX0 1 (d_Step_said_at_Stretch.adr K) fd ["self"] (spF K Tb (ul1 F_Step_said_at_Stretch)) := by
  refine fnO0 F sc_Step_said_at_Stretch (fun vs H Q E h => spF_len len1 h) (fun cdv A outer s H vs Q E hr h => ?_)
  refine ⟨_, (pss_cons (ps_ret pe_int) pss_nil), ?_⟩
  exact fn_of1 (F := F_Step_said_at_Stretch) (envU := fun _ => List.replicate 1 .no) h (fun self => rfl) (fun p c self => (ss_ret se_int))
abbrev N_Step_done_at_Stretch : List Str := ["self"]
theorem sc_Step_done_at_Stretch : FnScope N_Step_done_at_Stretch ["self"] (defScope s_Step_done_at_Stretch) := ⟨rfl, rfl, rfl, by decide +kernel, rfl, by decide +kernel, by decide +kernel⟩
def F_Step_done_at_Stretch (self : D) : Tr D :=
  fin (bd (.ok (.int 1)) fun d => .ok (.rt d))
theorem ok_Step_done_at_Stretch (F : FnA K d_Step_done_at_Stretch fd) (T : Tx K mg)  : FnOk P w K mg base CX0 1 (d_Step_done_at_Stretch.adr K) fd ["self"] (spF K Tb (ul1 F_Step_done_at_Stretch)) := by
  refine fnO0 F sc_Step_done_at_Stretch (fun vs H Q E h => spF_len len1 h) (fun cdv A outer s H vs Q E hr h => ?_)
  refine ⟨_, (pss_cons (ps_ret pe_int) pss_nil), ?_⟩
  exact fn_of1 (F := F_Step_done_at_Stretch) (envU := fun _ => List.replicate 1 .no) h (fun self => rfl) (fun p c self => (ss_ret se_int))
abbrev N_Step_deep_at_Stretch : List Str := ["self"]
theorem sc_Step_deep_at_Stretch : FnScope N_Step_deep_at_Stretch ["self"] (defScope s_Step_deep_at_Stretch) := ⟨rfl, rfl, rfl, by decide +kernel, rfl, by decide +kernel, by decide +kernel⟩
def F_Step_deep_at_Stretch (self : D) : Tr D :=
  fin (bd (.ok (.int 1)) fun d => .ok (.rt d))
theorem ok_Step_deep_at_Stretch (F : FnA K d_Step_deep_at_Stretch fd) (T : Tx K mg)  : FnOk P w K mg base CX0 1 (d_Step_deep_at_Stretch.adr K) fd ["self"] (spF K Tb (ul1 F_Step_deep_at_Stretch)) := by
  refine fnO0 F sc_Step_deep_at_Stretch (fun vs H Q E h => spF_len len1 h) (fun cdv A outer s H vs Q E hr h => ?_)
  refine ⟨_, (pss_cons (ps_ret pe_int) pss_nil), ?_⟩
  exact fn_of1 (F := F_Step_deep_at_Stretch) (envU := fun _ => List.replicate 1 .no) h (fun self => rfl) (fun p c self => (ss_ret se_int))
abbrev N_Stretch_weight : List Str := ["self"]
theorem sc_Stretch_weight : FnScope N_Stretch_weight ["self"] (defScope s_Stretch_weight) := ⟨rfl, rfl, rfl, by decide +kernel, rfl, by decide +kernel, by decide +kernel⟩
def F_Stretch_weight (self : D) : Tr D :=
  fin (bd (bd (bd (bd (.ok (.int 1)) fun v2 => (bd (nox (bd (bd (.ok self) (fldD "Stretch" "span")) fun o1 => (isO "Span" o1 fun _ => (ul1 F_Span_halves) [o1]))) fun v3 => addD v2 v3)) fun v7 => (bd (bd (bd (nox (bd (bd (.ok self) (fldD "Stretch" "span")) fun o4 => (isO "Span" o4 fun _ => (ul1 F_Span_more) [o4]))) fun v5 => (bd (.ok []) fun r6 => .ok (v5 :: r6))) (ul1 absD)) fun v8 => addD v7 v8)) fun v12 => (bd (bd (bd (nox (bd (bd (.ok self) (fldD "Stretch" "span")) fun o9 => (isO "Span" o9 fun _ => (ul1 F_Span_odd) [o9]))) fun v10 => (bd (.ok []) fun r11 => .ok (v10 :: r11))) (ul1 absD)) fun v13 => addD v12 v13)) fun d => .ok (.rt d))
theorem ok_Stretch_weight (F : FnA K d_Stretch_weight fd) (T : Tx K mg) (G_Span_halves : PromO P w K mg base CX0 1 (propG "Span" "halves" K) [] (spF K Tb (ul1 F_Span_halves))) (G_Span_more : PromO P w K mg base CX0 1 (propG "Span" "more" K) [] (spF K Tb (ul1 F_Span_more))) (G_Span_odd : PromO P w K mg base CX0 1 (propG "Span" "odd" K) [] (spF K Tb (ul1 F_Span_odd))) : FnOk P w K mg base CX0 3 (d_Stretch_weight.adr K) fd ["self"] (spF K Tb (ul1 F_Stretch_weight)) := by
  refine fnO0 F sc_Stretch_weight (fun vs H Q E h => spF_len len1 h) (fun cdv A outer s H vs Q E hr h => ?_)
  refine ⟨_, (pss_cons (ps_ret (pe_op (op_addA (K := K) rfl) (pe_op (op_addA (K := K) rfl) (pe_op (op_addA (K := K) rfl) pe_int (pe_po (pe_f (pv 0) T.cl_Stretch T.n_Stretch_span) T.cl_Span T.pr_Span_halves G_Span_halves (hr.mono (by decide)) (passA (E := EF)))) (pe_callB cr_abs (by rfl) T.f_abs (by decide +kernel) (pa_cons (pe_po (pe_f (pv 0) T.cl_Stretch T.n_Stretch_span) T.cl_Span T.pr_Span_more G_Span_more (hr.mono (by decide)) (passA (E := EF))) pa_nil))) (pe_callB cr_abs (by rfl) T.f_abs (by decide +kernel) (pa_cons (pe_po (pe_f (pv 0) T.cl_Stretch T.n_Stretch_span) T.cl_Span T.pr_Span_odd G_Span_odd (hr.mono (by decide)) (passA (E := EF))) pa_nil)))) pss_nil), ?_⟩
  exact fn_of1 (F := F_Stretch_weight) (envU := fun _ => List.replicate 1 .no) h (fun self => rfl) (fun p c self => (ss_ret (se_op sr_add (se_op sr_add (se_op sr_add se_int (se_nox (se_pr (se_un sr_fld se_var)))) (se_cb srl_abs (sa_cons (se_nox (se_pr (se_un sr_fld se_var))) sa_nil))) (se_cb srl_abs (sa_cons (se_nox (se_pr (se_un sr_fld se_var))) sa_nil)))))
end
end Lw

set_option Elab.async false
set_option linter.all false
set_option maxRecDepth 100000
set_option maxHeartbeats 4000000
set_option pp.maxSteps 600
namespace Lw
open PySem PySem.Spec PyProof.Rows L2 Gh Gp
section
variable {P : Program} {w : World} {K : PySem.W.Frag} {mg : Str → Option Value} {base : Heap} {f : Addr} {fd : FuncData} {Tb : List (Addr × Str)}
abbrev N_deepest : List Str := ["steps", "found", "step"]
theorem sc_deepest : FnScope N_deepest ["steps"] (defScope s_deepest) := ⟨rfl, rfl, rfl, by decide +kernel, rfl, by decide +kernel, by decide +kernel⟩
def F_deepest (steps : D) : Tr D :=
  fin (bd (.ok (.int 0)) fun found0 => (bdF (bd (bd (.ok steps) itD) fun ds => forF (fun (d3 : D) (w2 : D) => (bd (bd (bd (bd (nox (bd (.ok d3) fun o6 => (isO "Stretch" o6 fun _ => (ul1 F_Step_deep_at_Stretch) [o6]))) fun v7 => (bd (.ok w2) fun v8 => gtD v7 v8)) asB) fun k => if k = true then (nox (bd (.ok d3) fun o9 => (isO "Stretch" o9 fun _ => (ul1 F_Step_deep_at_Stretch) [o9]))) else (.ok w2)) fun found4 => (.ok (.nx found4)))) ds found0) fun (w2 : D) => (bd (.ok w2) fun d => .ok (.rt d))))
theorem ok_deepest (F : FnA K d_deepest fd) (T : Tx K mg) (G_Step_deep_at_Stretch : PromO P w K mg base CX0 1 (propG "Stretch" "deep" K) [] (spF K Tb (ul1 F_Step_deep_at_Stretch))) : FnOk P w K mg base CX0 3 (d_deepest.adr K) fd ["steps"] (spF K Tb (ul1 F_deepest)) := by
  refine fnO0 F sc_deepest (fun vs H Q E h => spF_len len1 h) (fun cdv A outer s H vs Q E hr h => ?_)
  refine ⟨_, (pss_cons (ps_set (i := 1) sc_deepest.nd rfl (.inl rfl) pe_int)
      (pss_cons (ps_for PassesOwn.never rfl (pi_seq (K := K) rfl (pv 0)) (pg_name (i := 2) sc_deepest.nd rfl (.inl rfl))
      (pss_cons (ps_set (i := 1) sc_deepest.nd rfl (.inl rfl) (pe_ifExp (pt_cmpR op_gt (pe_po (pv 2) T.cl_Stretch T.pr_Stretch_deep G_Step_deep_at_Stretch (hr.mono (by decide)) (passA (E := EF))) (pv 1) (nomark _)) (pe_po (pv 2) T.cl_Stretch T.pr_Stretch_deep G_Step_deep_at_Stretch (hr.mono (by decide)) (passA (E := EF))) (pv 1)))
      pss_nil))
      (pss_cons (ps_ret (pv 1)) pss_nil))), ?_⟩
  exact fn_of1 (F := F_deepest) (envU := fun _ => List.replicate 3 .no) h (fun steps => rfl) (fun p c steps => (ss_asg se_int (fun found0 => (ss_for (fun (w2 : D) => [.fz steps, .fz w2, .no]) (si_seq se_var) (.s (.s (.s .nil))) (fun (d3 : D) (w2 : D) => (sx_name (ss_asg (se_if (sb_tst (se_op sr_gt (se_nox (se_pr se_var)) se_var)) (se_nox (se_pr se_var)) se_var) (fun found4 => (ss_nx (.s (.s (.n .nil)))))))) (fun (w2 : D) => (ss_ret se_var))))))
abbrev N_Program_said : List Str := ["self", "step"]
theorem sc_Program_said : FnScope N_Program_said ["self"] (defScope s_Program_said) := ⟨rfl, rfl, rfl, by decide +kernel, rfl, by decide +kernel, by decide +kernel⟩
def F_Program_said (self : D) : Tr D :=
  fin (bd (bd (bd (bd (bd (bd (.ok self) (fldD "Program" "steps")) itD) fun ds => bd (lcF (fun step0 => nox (bd (bd (bd (nox (bd (.ok step0) fun o2 => (isO "Stretch" o2 fun _ => (ul1 F_Step_said_at_Stretch) [o2]))) fun v3 => (bd (.ok []) fun r4 => .ok (v3 :: r4))) (ul1 intD)) fun y => .ok (some y))) ds) fun r => .ok (.lst r)) fun v5 => (bd (.ok []) fun r6 => .ok (v5 :: r6))) (ul1 sumD)) fun d => .ok (.rt d))
theorem ok_Program_said (F : FnA K d_Program_said fd) (T : Tx K mg) (G_Step_said_at_Stretch : PromO P w K mg base CX0 1 (propG "Stretch" "said" K) [] (spF K Tb (ul1 F_Step_said_at_Stretch))) : FnOk P w K mg base CX0 3 (d_Program_said.adr K) fd ["self"] (spF K Tb (ul1 F_Program_said)) := by
  refine fnO0 F sc_Program_said (fun vs H Q E h => spF_len len1 h) (fun cdv A outer s H vs Q E hr h => ?_)
  refine ⟨_, (pss_cons (ps_ret (pe_callB (cr_sumK (K := K) rfl rfl) (by rfl) T.f_sum (by decide +kernel) (pa_cons (pe_lc (own := [("step", 1)]) (g := gName 1) (by rfl) sc_Program_said.nd (pi_seq (K := K) rfl (pe_f (pv 0) T.cl_Program T.n_Program_steps)) (blkOk_by (own := [("step", 1)]) (N := N_Program_said) (sc := defScope s_Program_said) (by decide +kernel)) (fun _ _ _ _ _ => pg_name (i := 1) sc_Program_said.nd rfl (Or.inl rfl)) (fun _ _ _ _ _ => pts_nil) (fun _ _ _ _ _ => (pe_callTy cr_int (by rfl) T.f_int (by decide +kernel) (pa_cons (pe_po (pv 1) T.cl_Stretch T.pr_Stretch_said G_Step_said_at_Stretch (hr.mono (by decide)) (passA (E := EF))) pa_nil)))) pa_nil))) pss_nil), ?_⟩
  exact fn_of1 (F := F_Program_said) (envU := fun _ => List.replicate 2 .no) h (fun self => rfl) (fun p c self => (ss_ret (se_cb srl_sum (sa_cons (se_lc (si_seq (se_un sr_fld se_var)) (fun step0 => (sc_map (se_cb srl_int (sa_cons (se_nox (se_pr se_var)) sa_nil))))) sa_nil))))
abbrev N_Program_done : List Str := ["self", "step"]
theorem sc_Program_done : FnScope N_Program_done ["self"] (defScope s_Program_done) := ⟨rfl, rfl, rfl, by decide +kernel, rfl, by decide +kernel, by decide +kernel⟩
def F_Program_done (self : D) : Tr D :=
  fin (bd (bd (bd (bd (bd (bd (.ok self) (fldD "Program" "steps")) itD) fun ds => bd (lcF (fun step0 => nox (bd (bd (bd (nox (bd (.ok step0) fun o2 => (isO "Stretch" o2 fun _ => (ul1 F_Step_done_at_Stretch) [o2]))) fun v3 => (bd (.ok []) fun r4 => .ok (v3 :: r4))) (ul1 intD)) fun y => .ok (some y))) ds) fun r => .ok (.lst r)) fun v5 => (bd (.ok []) fun r6 => .ok (v5 :: r6))) (ul1 sumD)) fun d => .ok (.rt d))
theorem ok_Program_done (F : FnA K d_Program_done fd) (T : Tx K mg) (G_Step_done_at_Stretch : PromO P w K mg base CX0 1 (propG "Stretch" "done" K) [] (spF K Tb (ul1 F_Step_done_at_Stretch))) : FnOk P w K mg base CX0 3 (d_Program_done.adr K) fd ["self"] (spF K Tb (ul1 F_Program_done)) := by
  refine fnO0 F sc_Program_done (fun vs H Q E h => spF_len len1 h) (fun cdv A outer s H vs Q E hr h => ?_)
  refine ⟨_, (pss_cons (ps_ret (pe_callB (cr_sumK (K := K) rfl rfl) (by rfl) T.f_sum (by decide +kernel) (pa_cons (pe_lc (own := [("step", 1)]) (g := gName 1) (by rfl) sc_Program_done.nd (pi_seq (K := K) rfl (pe_f (pv 0) T.cl_Program T.n_Program_steps)) (blkOk_by (own := [("step", 1)]) (N := N_Program_done) (sc := defScope s_Program_done) (by decide +kernel)) (fun _ _ _ _ _ => pg_name (i := 1) sc_Program_done.nd rfl (Or.inl rfl)) (fun _ _ _ _ _ => pts_nil) (fun _ _ _ _ _ => (pe_callTy cr_int (by rfl) T.f_int (by decide +kernel) (pa_cons (pe_po (pv 1) T.cl_Stretch T.pr_Stretch_done G_Step_done_at_Stretch (hr.mono (by decide)) (passA (E := EF))) pa_nil)))) pa_nil))) pss_nil), ?_⟩
  exact fn_of1 (F := F_Program_done) (envU := fun _ => List.replicate 2 .no) h (fun self => rfl) (fun p c self => (ss_ret (se_cb srl_sum (sa_cons (se_lc (si_seq (se_un sr_fld se_var)) (fun step0 => (sc_map (se_cb srl_int (sa_cons (se_nox (se_pr se_var)) sa_nil))))) sa_nil))))
abbrev N_Program_weight : List Str := ["self", "step"]
theorem sc_Program_weight : FnScope N_Program_weight ["self"] (defScope s_Program_weight) := ⟨rfl, rfl, rfl, by decide +kernel, rfl, by decide +kernel, by decide +kernel⟩
def F_Program_weight (self : D) : Tr D :=
  fin (bd (bd (bd (bd (bd (bd (.ok self) (fldD "Program" "steps")) itD) fun ds => bd (lcF (fun step0 => nox (bd (bd (bd (nox (bd (.ok step0) fun o2 => (isO "Stretch" o2 fun _ => (ul1 F_Stretch_weight) [o2]))) fun v3 => (bd (.ok []) fun r4 => .ok (v3 :: r4))) (ul1 intD)) fun y => .ok (some y))) ds) fun r => .ok (.lst r)) fun v5 => (bd (.ok []) fun r6 => .ok (v5 :: r6))) (ul1 sumD)) fun d => .ok (.rt d))
theorem ok_Program_weight (F : FnA K d_Program_weight fd) (T : Tx K mg) (G_Stretch_weight : PromO P w K mg base CX0 3 (propG "Stretch" "weight" K) [] (spF K Tb (ul1 F_Stretch_weight))) : FnOk P w K mg base CX0 5 (d_Program_weight.adr K) fd ["self"] (spF K Tb (ul1 F_Program_weight)) := by
  refine fnO0 F sc_Program_weight (fun vs H Q E h => spF_len len1 h) (fun cdv A outer s H vs Q E hr h => ?_)
  refine ⟨_, (pss_cons (ps_ret (pe_callB (cr_sumK (K := K) rfl rfl) (by rfl) T.f_sum (by decide +kernel) (pa_cons (pe_lc (own := [("step", 1)]) (g := gName 1) (by rfl) sc_Program_weight.nd (pi_seq (K := K) rfl (pe_f (pv 0) T.cl_Program T.n_Program_steps)) (blkOk_by (own := [("step", 1)]) (N := N_Program_weight) (sc := defScope s_Program_weight) (by decide +kernel)) (fun _ _ _ _ _ => pg_name (i := 1) sc_Program_weight.nd rfl (Or.inl rfl)) (fun _ _ _ _ _ => pts_nil) (fun _ _ _ _ _ => (pe_callTy cr_int (by rfl) T.f_int (by decide +kernel) (pa_cons (pe_po (pv 1) T.cl_Stretch T.pr_Stretch_weight G_Stretch_weight (hr.mono (by decide)) (passA (E := EF))) pa_nil)))) pa_nil))) pss_nil), ?_⟩
  exact fn_of1 (F := F_Program_weight) (envU := fun _ => List.replicate 2 .no) h (fun self => rfl) (fun p c self => (ss_ret (se_cb srl_sum (sa_cons (se_lc (si_seq (se_un sr_fld se_var)) (fun step0 => (sc_map (se_cb srl_int (sa_cons (se_nox (se_pr se_var)) sa_nil))))) sa_nil))))
abbrev N_Program_deep : List Str := ["self"]
theorem sc_Program_deep : FnScope N_Program_deep ["self"] (defScope s_Program_deep) := ⟨rfl, rfl, rfl, by decide +kernel, rfl, by decide +kernel, by decide +kernel⟩
def F_Program_deep (self : D) : Tr D :=
  fin (bd (bd (bd (bd (.ok self) (fldD "Program" "steps")) fun v1 => (bd (.ok []) fun r2 => .ok (v1 :: r2))) (ul1 F_deepest)) fun d => .ok (.rt d))
theorem ok_Program_deep (F : FnA K d_Program_deep fd) (T : Tx K mg) (G_deepest : PromO P w K mg base CX0 3 (gd "deepest" K) [] (spF K Tb (ul1 F_deepest))) : FnOk P w K mg base CX0 4 (d_Program_deep.adr K) fd ["self"] (spF K Tb (ul1 F_Program_deep)) := by
  refine fnO0 F sc_Program_deep (fun vs H Q E h => spF_len len1 h) (fun cdv A outer s H vs Q E hr h => ?_)
  refine ⟨_, (pss_cons (ps_ret (pe_g (PromO.call G_deepest (hr.mono (by decide)) (passA (E := E))) (by rfl) T.g_deepest T.k_deepest (pa_cons (pe_f (pv 0) T.cl_Program T.n_Program_steps) pa_nil))) pss_nil), ?_⟩
  exact fn_of1 (F := F_Program_deep) (envU := fun _ => List.replicate 1 .no) h (fun self => rfl) (fun p c self => (ss_ret (se_cl srl_sp0 (sa_cons (se_un sr_fld se_var) sa_nil))))
abbrev N_need_steps : List Str := ["values", "at", "value"]
theorem sc_need_steps : FnScope N_need_steps ["values"] (defScope s_need_steps) := ⟨rfl, rfl, rfl, by decide +kernel, rfl, by decide +kernel, by decide +kernel⟩
def F_need_steps (values : D) : Tr D :=
  fin (bdF (bd (bd (bd (.ok values) fun v1 => (bd (.ok []) fun r2 => .ok (v1 :: r2))) (ul1 enD)) fun ds => forF (fun (d4 : D) (w3 : Unit) => (un2 d4 fun at_4 value4 => (bdF (W' := Unit) (bd (bd (bd (bd (.ok value4) fun d => bd (opt (isi_Step d)) fun k => .ok (.bl k)) asB) fun k => .ok (!k)) fun k => if k = true then .bad else (.ok (.nx ()))) fun (w6 : Unit) => (.ok (.nx ()))))) ds ()) fun (w3 : Unit) => (.ok (.nx ())))
theorem ok_need_steps (F : FnA K d_need_steps fd) (T : Tx K mg)  : FnOk P w K mg base CX0 1 (d_need_steps.adr K) fd ["values"] (spF K Tb (ul1 F_need_steps)) := by
  refine fnO0 F sc_need_steps (fun vs H Q E h => spF_len len1 h) (fun cdv A outer s H vs Q E hr h => ?_)
  refine ⟨_, (pss_cons (ps_for PassesOwn.never rfl (pi_enumA (K := K) rfl (by rfl) T.f_enumerate (pa_cons (pv 0) pa_nil)) (pg_tup rfl (pgs_cons (pg_name (i := 1) sc_need_steps.nd rfl (.inl rfl)) (pgs_cons (pg_name (i := 2) sc_need_steps.nd rfl (.inl rfl)) pgs_nil)))
      (pss_cons (ps_if (pt_not (pt_val (pe_callB (call_isiZ (K := K) rfl) (by rfl) T.f_isinstance (by decide +kernel) (pa_cons (pv 2) (pa_cons (pe_glob (v := .ref _) rfl T.g_Step rfl) pa_nil)))))
      (pss_cons ps_never pss_nil) pss_nil)
      pss_nil))
      pss_nil), ?_⟩
  exact fn_of1 (F := F_need_steps) (envU := fun _ => List.replicate 3 .no) h (fun values => rfl) (fun p c values => (ss_for (fun (w3 : Unit) => [.fz values, .no, .no]) (si_enum (sa_cons se_var sa_nil)) (.s (.s (.s .nil))) (fun (d4 : D) (w3 : Unit) => (sx_tup2 (fun at_4 value4 => (ss_if (fun (w6 : Unit) => [.fz values, .fz at_4, .fz value4]) (sb_not (sb_tb (se_isi (.own _) (isT_Step T) se_var))) ss_never (ss_nx (.s (.s (.s .nil)))) (fun (w6 : Unit) => (ss_nx (.s (.n (.n .nil))))))))) (fun (w3 : Unit) => (ss_nx (le_no _ rfl)))))
abbrev N_need_size : List Str := ["said", "done", "weight", "deep"]
theorem sc_need_size : FnScope N_need_size ["said", "done", "weight", "deep"] (defScope s_need_size) := ⟨rfl, rfl, rfl, by decide +kernel, rfl, by decide +kernel, by decide +kernel⟩
def F_need_size (said done weight deep : D) : Tr D :=
  fin (bdF (W' := Unit) (bd (bd (bd (.ok said) fun v1 => (bd (.ok (.int 40)) fun v2 => gtD v1 v2)) asB) fun k => if k = true then .bad else (.ok (.nx ()))) fun (w3 : Unit) => (bdF (W' := Unit) (bd (bd (bd (.ok done) fun v4 => (bd (.ok (.int 120)) fun v5 => gtD v4 v5)) asB) fun k => if k = true then .bad else (.ok (.nx ()))) fun (w6 : Unit) => (bdF (W' := Unit) (bd (bd (bd (.ok weight) fun v7 => (bd (.ok (.int 80)) fun v8 => gtD v7 v8)) asB) fun k => if k = true then .bad else (.ok (.nx ()))) fun (w9 : Unit) => (bdF (W' := Unit) (bd (bd (bd (.ok deep) fun v10 => (bd (.ok (.int 3)) fun v11 => gtD v10 v11)) asB) fun k => if k = true then .bad else (.ok (.nx ()))) fun (w12 : Unit) => (.ok (.nx ()))))))
theorem ok_need_size (F : FnA K d_need_size fd) (T : Tx K mg)  : FnOk P w K mg base CX0 1 (d_need_size.adr K) fd ["said", "done", "weight", "deep"] (spF K Tb (ul4 F_need_size)) := by
  refine fnO0 F sc_need_size (fun vs H Q E h => spF_len len4 h) (fun cdv A outer s H vs Q E hr h => ?_)
  refine ⟨_, (pss_cons (ps_if (pt_cmpR op_gt (pv 0) (ClX.pe_cval (pe_glob (v := .ref _) rfl T.g_Holder rfl)) (nomark _))
      (pss_cons ps_never pss_nil) pss_nil)
      (pss_cons (ps_if (pt_cmpR op_gt (pv 1) (ClX.pe_cval (pe_glob (v := .ref _) rfl T.g_Holder rfl)) (nomark _))
      (pss_cons ps_never pss_nil) pss_nil)
      (pss_cons (ps_if (pt_cmpR op_gt (pv 2) (ClX.pe_cval (pe_glob (v := .ref _) rfl T.g_Holder rfl)) (nomark _))
      (pss_cons ps_never pss_nil) pss_nil)
      (pss_cons (ps_if (pt_cmpR op_gt (pv 3) (ClX.pe_cval (pe_glob (v := .ref _) rfl T.g_Holder rfl)) (nomark _))
      (pss_cons ps_never pss_nil) pss_nil)
      pss_nil)))), ?_⟩
  exact fn_of4 (F := F_need_size) (envU := fun _ => List.replicate 4 .no) h (fun said done weight deep => rfl) (fun p c said done weight deep => (ss_if (fun (w3 : Unit) => [.fz said, .fz done, .fz weight, .fz deep]) (sb_tst (se_op sr_gt se_var (se_cval (fun _ _ => .int _) T.cv_Holder_MOST_SAID))) ss_never (ss_nx (.s (.s (.s (.s .nil))))) (fun (w3 : Unit) => (ss_if (fun (w6 : Unit) => [.fz said, .fz done, .fz weight, .fz deep]) (sb_tst (se_op sr_gt se_var (se_cval (fun _ _ => .int _) T.cv_Holder_MOST_DONE))) ss_never (ss_nx (.s (.s (.s (.s .nil))))) (fun (w6 : Unit) => (ss_if (fun (w9 : Unit) => [.fz said, .fz done, .fz weight, .fz deep]) (sb_tst (se_op sr_gt se_var (se_cval (fun _ _ => .int _) T.cv_Holder_MOST_WEIGHT))) ss_never (ss_nx (.s (.s (.s (.s .nil))))) (fun (w9 : Unit) => (ss_if (fun (w12 : Unit) => [.fz said, .fz done, .fz weight, .fz deep]) (sb_tst (se_op sr_gt se_var (se_cval (fun _ _ => .int _) T.cv_Holder_MOST_DEEP))) ss_never (ss_nx (.s (.s (.s (.s .nil))))) (fun (w12 : Unit) => (ss_nx (le_no _ rfl)))))))))))
abbrev N_Holder___init___at_Program : List Str := ["self", "steps"]
theorem sc_Holder___init___at_Program : FnScope N_Holder___init___at_Program ["self", "steps"] (defScope s_Holder___init___at_Program) := ⟨rfl, rfl, rfl, by decide +kernel, rfl, by decide +kernel, by decide +kernel⟩
def F_Holder___init___at_Program (fs : Fs) (steps : D) : Tr Fs :=
  finI (bd (.ok steps) fun steps1 => if fs.length < 900 then (.ok (.nx (putD "steps" steps1 fs))) else .bad)
theorem ok_Holder___init___at_Program (F : FnA K d_Holder___init___at_Program fd) (T : Tx K mg)  : FnOk P w K mg base CX0 1 (d_Holder___init___at_Program.adr K) fd ["self", "steps"] (spI K Tb "Program" (fun fs => ul1 (F_Holder___init___at_Program fs))) := by
  refine fnO0 F sc_Holder___init___at_Program (fun vs H Q E h => spI_len lenI1 h) (fun cdv A outer s H vs Q E hr h => ?_)
  refine ⟨_, (pss_cons (ps_f (pv 0) (pv 1) T.cl_Program T.n_Program_steps)
      pss_nil), ?_⟩
  exact ini_of1 (F := F_Holder___init___at_Program) (envI := fun fs => .oi "Program" fs :: List.replicate 1 .no) h (fun fs steps => rfl) (fun p c fs steps => (ss_setf se_var (fun steps1 => (ss_nx (.s (le_no _ rfl))))))
abbrev N_Program___init__ : List Str := ["self", "steps", "__class__"]
theorem sc_Program___init__ : NdefX.NScope N_Program___init__ ["self", "steps"] ["__class__"] (defScope s_Program___init__) := NdefX.nscope_by (by decide +kernel)
def F_Program___init__ (fs : Fs) (steps : D) : Tr Fs :=
  finI (bd (bd (bd (.ok steps) fun v1 => (bd (.ok []) fun r2 => .ok (v1 :: r2))) (ul1 F_need_steps)) fun _ => (bd (bd (.ok steps) fun v3 => (bd (.ok []) fun r4 => .ok (v3 :: r4))) fun ds => bd ((fun fs => ul1 (F_Holder___init___at_Program fs)) fs ds) fun fs5 => (bd (bd (bd (bd (nox ((ul1 F_Program_said) [.obj "Program" fs5])) plD) fun v12 => (bd (bd (bd (nox ((ul1 F_Program_done) [.obj "Program" fs5])) plD) fun v10 => (bd (bd (bd (nox ((ul1 F_Program_weight) [.obj "Program" fs5])) plD) fun v8 => (bd (bd (bd (nox ((ul1 F_Program_deep) [.obj "Program" fs5])) plD) fun v6 => (bd (.ok []) fun r7 => .ok (v6 :: r7))) fun r9 => .ok (v8 :: r9))) fun r11 => .ok (v10 :: r11))) fun r13 => .ok (v12 :: r13))) (ul4 F_need_size)) fun _ => (.ok (.nx fs5)))))
theorem ok_Program___init__ (F : FnS K ds_Program___init__ pfile fd) (T : Tx K mg) (hP : ((P.main.file : Str) == pfile) = true ∧ (P.main.scope.names.lookup ("super" : Str)).isSome = false) (G_need_steps : PromO P w K mg base CX0 1 (gd "need_steps" K) [] (spF K Tb (ul1 F_need_steps))) (G_Holder___init___at_Program : PromO P w K mg base CX0 1 (md "Holder" "__init__" K) [] (spI K Tb "Program" (fun fs => ul1 (F_Holder___init___at_Program fs)))) (G_need_size : PromO P w K mg base CX0 1 (gd "need_size" K) [] (spF K Tb (ul4 F_need_size))) (G_Program_said : PromO P w K mg base CX0 3 (propG "Program" "said" K) [] (spF K Tb (ul1 F_Program_said))) (G_Program_done : PromO P w K mg base CX0 3 (propG "Program" "done" K) [] (spF K Tb (ul1 F_Program_done))) (G_Program_weight : PromO P w K mg base CX0 5 (propG "Program" "weight" K) [] (spF K Tb (ul1 F_Program_weight))) (G_Program_deep : PromO P w K mg base CX0 4 (propG "Program" "deep" K) [] (spF K Tb (ul1 F_Program_deep))) : FnR P w K mg base CX0 7 (ds_Program___init__.d.adr K) (starSp 1 (spI K Tb "Program" (fun fs => ul1 (F_Program___init__ fs)))) := by
  refine SupF.star (sp := spI K Tb "Program" (fun fs => ul1 (F_Program___init__ fs))) (ps := ["self"]) (pv := "steps") (k := 6) (pre := (defBody s_Program___init__).take 1) (post := (defBody s_Program___init__).drop 2) (by rfl) F ⟨Option.isSome_iff_exists.mp T.cd_Program, T.f_super, T.stat⟩ sc_Program___init__ StX.cxUp_none (fun _ _ _ _ _ _ _ us rest hl => by
    match us, hl, rest with
    | [_], _, [] => rfl
    | [_], _, _ :: _ => rfl) hP.1 hP.2 (by decide) rfl rfl rfl rfl (fun cc cda A outer s H vs Q E hr h => ?_) (pl := _) (he := fun _ => rfl)
  refine ⟨_, _, _, _, _, _, _, _, _, (pss_cons (ps_expr (pe_g (PromO.call G_need_steps (hr.mono (by decide)) (passA (E := E))) (by rfl) T.g_need_steps T.k_need_steps (pa_cons (pv 1) pa_nil)))
      pss_nil), (pa_cons (pv 1) pa_nil), (pss_cons (ps_expr (pe_g (PromO.call G_need_size (hr.mono (by decide)) (passA (E := E))) (by rfl) T.g_need_size T.k_need_size (pa_cons (pe_po (pv 0) T.cl_Program T.pr_Program_said G_Program_said (hr.mono (by decide)) (passA (E := EF))) (pa_cons (pe_po (pv 0) T.cl_Program T.pr_Program_done G_Program_done (hr.mono (by decide)) (passA (E := EF))) (pa_cons (pe_po (pv 0) T.cl_Program T.pr_Program_weight G_Program_weight (hr.mono (by decide)) (passA (E := EF))) (pa_cons (pe_po (pv 0) T.cl_Program T.pr_Program_deep G_Program_deep (hr.mono (by decide)) (passA (E := EF))) pa_nil))))))
      pss_nil), G_Holder___init___at_Program, by decide, (passA (E := E)), ?_⟩
  refine sup_goal ?_
  exact ini_of1 (F := F_Program___init__) (envI := fun fs => .oi "Program" fs :: List.replicate 2 .no) h (fun fs steps => rfl) (fun p c fs steps => (ss_assoc (ss_drop (se_cl srl_sp0 (sa_cons se_var sa_nil)) (ss_next (ss_sup T.sc_Program_Program (sa_cons se_var sa_nil) (fun fs5 => (ss_drop (se_cl srl_sp0 (sa_cons se_prS (sa_cons se_prS (sa_cons se_prS (sa_cons se_prS sa_nil))))) (ss_nx (.s (le_no _ rfl))))))))))
abbrev N_Program_to : List Str := ["self", "n", "place", "here", "step"]
theorem sc_Program_to : FnScope N_Program_to ["self", "n", "place"] (defScope s_Program_to) := ⟨rfl, rfl, rfl, by decide +kernel, rfl, by decide +kernel, by decide +kernel⟩
def F_Program_to (self n place : D) : Tr D :=
  fin (bd (bd (bd (.ok n) fun v3 => (bd (bd (.ok place) fun v1 => (bd (.ok []) fun r2 => .ok (v1 :: r2))) fun r4 => .ok (v3 :: r4))) (ul2 F_need_place)) fun _ => (bd (.ok place) fun here4 => (bdF (bd (bd (bd (.ok self) (fldD "Program" "steps")) itD) fun ds => forF (fun (d7 : D) (w6 : D) => (bd (bd (.ok d7) fun o14 => (isO "Stretch" o14 fun fs => if fs.lookup ("to" : Str) = none then bd (bd (.ok n) fun v12 => (bd (bd (.ok w6) fun v10 => (bd (.ok []) fun r11 => .ok (v10 :: r11))) fun r13 => .ok (v12 :: r13))) fun ds => (ul3 F_Stretch_to) (o14 :: ds) else .bad)) fun here8 => (.ok (.nx here8)))) ds here4) fun (w6 : D) => (bd (.ok w6) fun d => .ok (.rt d)))))
theorem ok_Program_to (F : FnA K d_Program_to fd) (T : Tx K mg) (G_need_place : PromO P w K mg base CX0 5 (gd "need_place" K) [] (spF K Tb (ul2 F_need_place))) (G_Stretch_to : PromO P w K mg base CX0 7 (md "Stretch" "to" K) [] (spF K Tb (ul3 F_Stretch_to))) : FnOk P w K mg base CX0 8 (d_Program_to.adr K) fd ["self", "n", "place"] (spF K Tb (ul3 F_Program_to)) := by
  refine fnO0 F sc_Program_to (fun vs H Q E h => spF_len len3 h) (fun cdv A outer s H vs Q E hr h => ?_)
  refine ⟨_, (pss_cons (ps_expr (pe_g (PromO.call G_need_place (hr.mono (by decide)) (passA (E := E))) (by rfl) T.g_need_place T.k_need_place (pa_cons (pv 1) (pa_cons (pv 2) pa_nil))))
      (pss_cons (ps_set (i := 3) sc_Program_to.nd rfl (.inl rfl) (pv 2))
      (pss_cons (ps_for PassesOwn.never rfl (pi_seq (K := K) rfl (pe_f (pv 0) T.cl_Program T.n_Program_steps)) (pg_name (i := 4) sc_Program_to.nd rfl (.inl rfl))
      (pss_cons (ps_set (i := 3) sc_Program_to.nd rfl (.inl rfl) (pe_m (pv 4) T.cl_Stretch T.mt_Stretch_to (PromO.call G_Stretch_to (hr.mono (by decide)) (passA (E := E))) (pa_cons (pv 1) (pa_cons (pv 3) pa_nil))))
      pss_nil))
      (pss_cons (ps_ret (pv 3)) pss_nil)))), ?_⟩
  exact fn_of3 (F := F_Program_to) (envU := fun _ => List.replicate 5 .no) h (fun self n place => rfl) (fun p c self n place => (ss_drop (se_cl srl_sp0 (sa_cons se_var (sa_cons se_var sa_nil))) (ss_asg se_var (fun here4 => (ss_for (fun (w6 : D) => [.fz self, .fz n, .fz place, .fz w6, .no]) (si_seq (se_un sr_fld se_var)) (.s (.s (.s (.s (.s .nil))))) (fun (d7 : D) (w6 : D) => (sx_name (ss_asg (se_mt srl_sp0 se_var (sa_cons se_var (sa_cons se_var sa_nil))) (fun here8 => (ss_nx (.s (.s (.s (.s (.n .nil)))))))))) (fun (w6 : D) => (ss_ret se_var)))))))
end
end Lw

set_option Elab.async false
set_option linter.all false
set_option maxRecDepth 100000
set_option maxHeartbeats 4000000
set_option pp.maxSteps 600
namespace Lw
open PySem PySem.Spec PyProof.Rows L2 Gh Gp
section
variable {P : Program} {w : World} {K : PySem.W.Frag} {mg : Str → Option Value} {base : Heap} {f : Addr} {fd : FuncData} {Tb : List (Addr × Str)}
abbrev N__law_pick : List Str := ["_law_pen_here", "_law_some"]
theorem sc__law_pick : FnScope N__law_pick ["_law_pen_here", "_law_some"] (defScope s__law_pick) := ⟨rfl, rfl, rfl, by decide +kernel, rfl, by decide +kernel, by decide +kernel⟩
def F__law_pick (l_pen_here l_some : D) : Tr D :=
  fin (bd (bd (.ok l_some) fun v1 => (bd (bd (bd (.ok l_pen_here) fun v7 => (bd (bd (bd (bd (.ok l_some) fun v3 => (bd (.ok []) fun r4 => .ok (v3 :: r4))) (ul1 lenD)) fun v5 => (bd (.ok []) fun r6 => .ok (v5 :: r6))) fun r8 => .ok (v7 :: r8))) (ul2 F_draw)) fun v2 => ixD v1 v2)) fun d => .ok (.rt d))
theorem ok__law_pick (F : FnA K d__law_pick fd) (T : Tx K mg) (G__law_draw : PromO P w K mg base CX0 1 (gd "_law_draw" K) [] (spF K Tb (ul2 F_draw))) : FnOk P w K mg base CX0 2 (d__law_pick.adr K) fd ["_law_pen_here", "_law_some"] (spF K Tb (ul2 F__law_pick)) := by
  refine fnO0 F sc__law_pick (fun vs H Q E h => spF_len len2 h) (fun cdv A outer s H vs Q E hr h => ?_)
  refine ⟨_, (pss_cons (ps_ret (pe_ix (ix_seqK (K := K) rfl) (pv 1) (pe_g (PromO.call G__law_draw (hr.mono (by decide)) (passA (E := E))) (by rfl) T.g__law_draw T.k__law_draw (pa_cons (pv 0) (pa_cons (pe_callB (cr_len (K := K) rfl) (by rfl) T.f_len (by decide +kernel) (pa_cons (pv 1) pa_nil)) pa_nil))) (fun _ _ => rfl))) pss_nil), ?_⟩
  exact fn_of2 (F := F__law_pick) (envU := fun _ => List.replicate 2 .no) h (fun l_pen_here l_some => rfl) (fun p c l_pen_here l_some => (ss_ret (se_op sr_ix se_var (se_cl srl_sp0 (sa_cons se_var (sa_cons (se_cb srl_len (sa_cons se_var sa_nil)) sa_nil))))))
abbrev N__law_length : List Str := ["_law_pen_here"]
theorem sc__law_length : FnScope N__law_length ["_law_pen_here"] (defScope s__law_length) := ⟨rfl, rfl, rfl, by decide +kernel, rfl, by decide +kernel, by decide +kernel⟩
def F__law_length (l_pen_here : D) : Tr D :=
  fin (bd (bd (.ok (.int 1)) fun v27 => (bd (bd (bd (.ok l_pen_here) fun v25 => (bd (bd (bd (bd (bd (bd (.ok l_pen_here) fun v3 => (bd (bd (.ok (.int 12)) fun v1 => (bd (.ok []) fun r2 => .ok (v1 :: r2))) fun r4 => .ok (v3 :: r4))) (ul2 F_draw)) fun v21 => (bd (bd (bd (bd (.ok l_pen_here) fun v7 => (bd (bd (.ok (.int 12)) fun v5 => (bd (.ok []) fun r6 => .ok (v5 :: r6))) fun r8 => .ok (v7 :: r8))) (ul2 F_draw)) fun v19 => (bd (bd (bd (bd (.ok l_pen_here) fun v11 => (bd (bd (.ok (.int 1000000000000000000000000)) fun v9 => (bd (.ok []) fun r10 => .ok (v9 :: r10))) fun r12 => .ok (v11 :: r12))) (ul2 F_draw)) fun v17 => (bd (bd (bd (.ok (.int 10000000000000000000000000000000000000000)) fun v13 => (bd (.ok (.int 1)) fun v14 => subD v13 v14)) fun v15 => (bd (.ok []) fun r16 => .ok (v15 :: r16))) fun r18 => .ok (v17 :: r18))) fun r20 => .ok (v19 :: r20))) fun r22 => .ok (v21 :: r22))) fun ds => if ds.length ≤ sizeLine then .ok (.lst ds) else .bad) fun v23 => (bd (.ok []) fun r24 => .ok (v23 :: r24))) fun r26 => .ok (v25 :: r26))) (ul2 F__law_pick)) fun v28 => addD v27 v28)) fun d => .ok (.rt d))
theorem ok__law_length (F : FnA K d__law_length fd) (T : Tx K mg) (G__law_pick : PromO P w K mg base CX0 2 (gd "_law_pick" K) [] (spF K Tb (ul2 F__law_pick))) (G__law_draw : PromO P w K mg base CX0 1 (gd "_law_draw" K) [] (spF K Tb (ul2 F_draw))) : FnOk P w K mg base CX0 3 (d__law_length.adr K) fd ["_law_pen_here"] (spF K Tb (ul1 F__law_length)) := by
  refine fnO0 F sc__law_length (fun vs H Q E h => spF_len len1 h) (fun cdv A outer s H vs Q E hr h => ?_)
  refine ⟨_, (pss_cons (ps_ret (pe_op (op_addA (K := K) rfl) pe_int (pe_g (PromO.call G__law_pick (hr.mono (by decide)) (passA (E := E))) (by rfl) T.g__law_pick T.k__law_pick (pa_cons (pv 0) (pa_cons (pe_lst (pa_cons (pe_g (PromO.call G__law_draw (hr.mono (by decide)) (passA (E := E))) (by rfl) T.g__law_draw T.k__law_draw (pa_cons (pv 0) (pa_cons pe_int pa_nil))) (pa_cons (pe_g (PromO.call G__law_draw (hr.mono (by decide)) (passA (E := E))) (by rfl) T.g__law_draw T.k__law_draw (pa_cons (pv 0) (pa_cons pe_int pa_nil))) (pa_cons (pe_g (PromO.call G__law_draw (hr.mono (by decide)) (passA (E := E))) (by rfl) T.g__law_draw T.k__law_draw (pa_cons (pv 0) (pa_cons (pe_op (op_powK 1000000000000000000000000) pe_int pe_int) pa_nil))) (pa_cons (pe_op op_sub (pe_op (op_powK 10000000000000000000000000000000000000000) pe_int pe_int) pe_int) pa_nil))))) pa_nil))))) pss_nil), ?_⟩
  exact fn_of1 (F := F__law_length) (envU := fun _ => List.replicate 1 .no) h (fun l_pen_here => rfl) (fun p c l_pen_here => (ss_ret (se_op sr_add se_int (se_cl srl_sp0 (sa_cons se_var (sa_cons (se_lst (sa_cons (se_cl srl_sp0 (sa_cons se_var (sa_cons se_int sa_nil))) (sa_cons (se_cl srl_sp0 (sa_cons se_var (sa_cons se_int sa_nil))) (sa_cons (se_cl srl_sp0 (sa_cons se_var (sa_cons (se_powK (by decide) (by decide) (by decide)) sa_nil))) (sa_cons (se_op sr_sub (se_powK (by decide) (by decide) (by decide)) se_int) sa_nil))))) sa_nil))))))
abbrev N__law_places : List Str := ["_law_pen_here", "_law_size", "_law_near"]
theorem sc__law_places : FnScope N__law_places ["_law_pen_here", "_law_size"] (defScope s__law_places) := ⟨rfl, rfl, rfl, by decide +kernel, rfl, by decide +kernel, by decide +kernel⟩
def F__law_places (l_pen_here l_size : D) : Tr D :=
  fin (bdF (W' := Unit) (bd (bd (bd (.ok l_size) fun v1 => (bd (.ok (.int 12)) fun v2 => leD v1 v2)) asB) fun k => if k = true then (bd (bd (bd (.ok l_size) rgA1) fun r => if rgOk r.1 r.2 then .ok (.lst (rgD r.1 (r.2 - r.1).toNat)) else .bad) fun d => .ok (.rt d)) else (.ok (.nx ()))) fun (w3 : Unit) => (bd (bd (bd (.ok l_pen_here) fun v7 => (bd (bd (.ok (.int 6)) fun v5 => (bd (.ok []) fun r6 => .ok (v5 :: r6))) fun r8 => .ok (v7 :: r8))) (ul2 F_draw)) fun l_near3 => (bd (bd (bd (.ok l_near3) fun v29 => (bd (bd (bd (bd (.ok l_size) fun v9 => (bd (.ok (.int 1)) fun v10 => subD v9 v10)) fun v11 => (bd (.ok l_near3) fun v12 => subD v11 v12)) fun v27 => (bd (bd (bd (bd (bd (.ok l_size) fun v13 => (bd (.ok (.int 2)) fun v14 => divD v13 v14)) fun v15 => (bd (.ok l_near3) fun v16 => addD v15 v16)) fun v17 => (bd (.ok (.int 3)) fun v18 => subD v17 v18)) fun v25 => (bd (bd (bd (bd (.ok l_pen_here) fun v21 => (bd (bd (.ok l_size) fun v19 => (bd (.ok []) fun r20 => .ok (v19 :: r20))) fun r22 => .ok (v21 :: r22))) (ul2 F_draw)) fun v23 => (bd (.ok []) fun r24 => .ok (v23 :: r24))) fun r26 => .ok (v25 :: r26))) fun r28 => .ok (v27 :: r28))) fun r30 => .ok (v29 :: r30))) fun ds => if ds.length ≤ sizeLine then .ok (.lst ds) else .bad) fun d => .ok (.rt d))))
theorem ok__law_places (F : FnA K d__law_places fd) (T : Tx K mg) (G__law_draw : PromO P w K mg base CX0 1 (gd "_law_draw" K) [] (spF K Tb (ul2 F_draw))) : FnOk P w K mg base CX0 2 (d__law_places.adr K) fd ["_law_pen_here", "_law_size"] (spF K Tb (ul2 F__law_places)) := by
  refine fnO0 F sc__law_places (fun vs H Q E h => spF_len len2 h) (fun cdv A outer s H vs Q E hr h => ?_)
  refine ⟨_, (pss_cons (ps_if (pt_cmpR op_le (pv 1) pe_int (nomark _))
      (pss_cons (ps_ret (pe_listRg rfl (by rfl) T.f_list (prg_1 (by rfl) T.f_range (pv 1)))) pss_nil) pss_nil)
      (pss_cons (ps_set (i := 2) sc__law_places.nd rfl (.inl rfl) (pe_g (PromO.call G__law_draw (hr.mono (by decide)) (passA (E := E))) (by rfl) T.g__law_draw T.k__law_draw (pa_cons (pv 0) (pa_cons pe_int pa_nil))))
      (pss_cons (ps_ret (pe_lst (pa_cons (pv 2) (pa_cons (pe_op op_sub (pe_op op_sub (pv 1) pe_int) (pv 2)) (pa_cons (pe_op op_sub (pe_op (op_addA (K := K) rfl) (pe_op op_fdivW (pv 1) pe_int) (pv 2)) pe_int) (pa_cons (pe_g (PromO.call G__law_draw (hr.mono (by decide)) (passA (E := E))) (by rfl) T.g__law_draw T.k__law_draw (pa_cons (pv 0) (pa_cons (pv 1) pa_nil))) pa_nil)))))) pss_nil))), ?_⟩
  exact fn_of2 (F := F__law_places) (envU := fun _ => List.replicate 3 .no) h (fun l_pen_here l_size => rfl) (fun p c l_pen_here l_size => (ss_if (fun (w3 : Unit) => [.fz l_pen_here, .fz l_size, .no]) (sb_tst (se_op sr_le se_var se_int)) (ss_ret (se_lstRg (srg_1 se_var))) (ss_nx (.s (.s (.s .nil)))) (fun (w3 : Unit) => (ss_asg (se_cl srl_sp0 (sa_cons se_var (sa_cons se_int sa_nil))) (fun l_near3 => (ss_ret (se_lst (sa_cons se_var (sa_cons (se_op sr_sub (se_op sr_sub se_var se_int) se_var) (sa_cons (se_op sr_sub (se_op sr_add (se_op sr_div se_var se_int) se_var) se_int) (sa_cons (se_cl srl_sp0 (sa_cons se_var (sa_cons se_var sa_nil))) sa_nil)))))))))))
abbrev N__law_moves_alike : List Str := ["_law_pen_here", "_law_one", "_law_other", "_law_size", "_law_places_here", "_law_place"]
theorem sc__law_moves_alike : FnScope N__law_moves_alike ["_law_pen_here", "_law_one", "_law_other", "_law_size"] (defScope s__law_moves_alike) := ⟨rfl, rfl, rfl, by decide +kernel, rfl, by decide +kernel, by decide +kernel⟩
def F__law_moves_alike (l_pen_here l_one l_other l_size : D) : Tr D :=
  fin (bd (bd (bd (.ok l_pen_here) fun v4 => (bd (bd (.ok l_size) fun v2 => (bd (.ok []) fun r3 => .ok (v2 :: r3))) fun r5 => .ok (v4 :: r5))) (ul2 F__law_places)) fun l_places_here0 => (bd (bd (bd (bd (.ok l_places_here0) itD) fun ds => bd (lcF (fun l_place5 => nox (bd (if isC "Program" l_one = true then (bd (.ok l_one) fun o11 => (isO "Program" o11 fun fs => if fs.lookup ("to" : Str) = none then bd (bd (.ok l_size) fun v9 => (bd (bd (.ok l_place5) fun v7 => (bd (.ok []) fun r8 => .ok (v7 :: r8))) fun r10 => .ok (v9 :: r10))) fun ds => (ul3 F_Program_to) (o11 :: ds) else .bad)) else (bd (.ok l_one) fun o16 => (isO "Stretch" o16 fun fs => if fs.lookup ("to" : Str) = none then bd (bd (.ok l_size) fun v14 => (bd (bd (.ok l_place5) fun v12 => (bd (.ok []) fun r13 => .ok (v12 :: r13))) fun r15 => .ok (v14 :: r15))) fun ds => (ul3 F_Stretch_to) (o16 :: ds) else .bad))) fun y => .ok (some y))) ds) fun r => .ok (.lst r)) fun v23 => (bd (bd (bd (.ok l_places_here0) itD) fun ds => bd (lcF (fun l_place16 => nox (bd (bd (.ok l_other) fun o22 => (isO "Stretch" o22 fun fs => if fs.lookup ("to" : Str) = none then bd (bd (.ok l_size) fun v20 => (bd (bd (.ok l_place16) fun v18 => (bd (.ok []) fun r19 => .ok (v18 :: r19))) fun r21 => .ok (v20 :: r21))) fun ds => (ul3 F_Stretch_to) (o22 :: ds) else .bad)) fun y => .ok (some y))) ds) fun r => .ok (.lst r)) fun v24 => eqD v23 v24)) fun d => .ok (.rt d)))
theorem ok__law_moves_alike (F : FnA K d__law_moves_alike fd) (T : Tx K mg) (G__law_places : PromO P w K mg base CX0 2 (gd "_law_places" K) [] (spF K Tb (ul2 F__law_places))) (G_Program_to : PromO P w K mg base CX0 8 (md "Program" "to" K) [] (spF K Tb (ul3 F_Program_to))) (G_Stretch_to : PromO P w K mg base CX0 7 (md "Stretch" "to" K) [] (spF K Tb (ul3 F_Stretch_to))) : FnOk P w K mg base CX0 9 (d__law_moves_alike.adr K) fd ["_law_pen_here", "_law_one", "_law_other", "_law_size"] (spF K Tb (ul4 F__law_moves_alike)) := by
  refine fnO0 F sc__law_moves_alike (fun vs H Q E h => spF_len len4 h) (fun cdv A outer s H vs Q E hr h => ?_)
  refine ⟨_, (pss_cons (ps_set (i := 4) sc__law_moves_alike.nd rfl (.inl rfl) (pe_g (PromO.call G__law_places (hr.mono (by decide)) (passA (E := E))) (by rfl) T.g__law_places T.k__law_places (pa_cons (pv 0) (pa_cons (pv 3) pa_nil))))
      (pss_cons (ps_ret (pe_cmpR (op_eqA (K := K) rfl hr.units) (pe_lc (own := [("_law_place", 5)]) (g := gName 5) (by rfl) sc__law_moves_alike.nd (pi_seq (K := K) rfl (pv 4)) (blkOk_by (own := [("_law_place", 5)]) (N := N__law_moves_alike) (sc := defScope s__law_moves_alike) (by decide +kernel)) (fun _ _ _ _ _ => pg_name (i := 5) sc__law_moves_alike.nd rfl (Or.inl rfl)) (fun _ _ _ _ _ => pts_nil) (fun _ _ _ _ _ => (PE.or (pe_m (pv 1) T.cl_Program T.mt_Program_to (PromO.call G_Program_to (hr.mono (by decide)) (passA (E := EF))) (pa_cons (pv 3) (pa_cons (pv 5) pa_nil))) (pe_m (pv 1) T.cl_Stretch T.mt_Stretch_to (PromO.call G_Stretch_to (hr.mono (by decide)) (passA (E := EF))) (pa_cons (pv 3) (pa_cons (pv 5) pa_nil)))))) (pe_lc (own := [("_law_place", 5)]) (g := gName 5) (by rfl) sc__law_moves_alike.nd (pi_seq (K := K) rfl (pv 4)) (blkOk_by (own := [("_law_place", 5)]) (N := N__law_moves_alike) (sc := defScope s__law_moves_alike) (by decide +kernel)) (fun _ _ _ _ _ => pg_name (i := 5) sc__law_moves_alike.nd rfl (Or.inl rfl)) (fun _ _ _ _ _ => pts_nil) (fun _ _ _ _ _ => (pe_m (pv 2) T.cl_Stretch T.mt_Stretch_to (PromO.call G_Stretch_to (hr.mono (by decide)) (passA (E := EF))) (pa_cons (pv 3) (pa_cons (pv 5) pa_nil))))) (nomark _))) pss_nil)), ?_⟩
  exact fn_of4 (F := F__law_moves_alike) (envU := fun _ => List.replicate 6 .no) h (fun l_pen_here l_one l_other l_size => rfl) (fun p c l_pen_here l_one l_other l_size => (ss_asg (se_cl srl_sp0 (sa_cons se_var (sa_cons se_var sa_nil))) (fun l_places_here0 => (ss_ret (se_op sr_eq (se_lc (si_seq se_var) (fun l_place5 => (sc_map (se_or (isC "Program" l_one) (se_mt srl_sp0 se_var (sa_cons se_var (sa_cons se_var sa_nil))) (se_mt srl_sp0 se_var (sa_cons se_var (sa_cons se_var sa_nil))))))) (se_lc (si_seq se_var) (fun l_place16 => (sc_map (se_mt srl_sp0 se_var (sa_cons se_var (sa_cons se_var sa_nil)))))))))))
abbrev N__law_rounds_right : List Str := ["_law_pen_here", "_law_size", "_law_place", "_law_more", "_law_longer", "_law_kind", "_law_edge", "_law_is_late", "_law_half", "_law_whole"]
theorem sc__law_rounds_right : FnScope N__law_rounds_right ["_law_pen_here", "_law_size"] (defScope s__law_rounds_right) := ⟨rfl, rfl, rfl, by decide +kernel, rfl, by decide +kernel, by decide +kernel⟩
def F__law_rounds_right (l_pen_here l_size : D) : Tr D :=
  fin (bd (bd (bd (bd (.ok l_pen_here) fun v3 => (bd (bd (.ok (.int 2)) fun v1 => (bd (.ok []) fun r2 => .ok (v1 :: r2))) fun r4 => .ok (v3 :: r4))) (ul2 F_draw)) fun v23 => (bd (bd (bd (bd (.ok l_pen_here) fun v11 => (bd (bd (bd (bd (.ok (.str "front")) fun v7 => (bd (bd (.ok (.str "back")) fun v5 => (bd (.ok []) fun r6 => .ok (v5 :: r6))) fun r8 => .ok (v7 :: r8))) fun ds => if ds.length ≤ sizeLine then .ok (.lst ds) else .bad) fun v9 => (bd (.ok []) fun r10 => .ok (v9 :: r10))) fun r12 => .ok (v11 :: r12))) (ul2 F__law_pick)) fun v21 => (bd (bd (bd (bd (bd (.ok l_pen_here) fun v15 => (bd (bd (.ok (.int 2)) fun v13 => (bd (.ok []) fun r14 => .ok (v13 :: r14))) fun r16 => .ok (v15 :: r16))) (ul2 F_draw)) fun v17 => (bd (.ok (.int 0)) fun v18 => eqD v17 v18)) fun v19 => (bd (.ok []) fun r20 => .ok (v19 :: r20))) fun r22 => .ok (v21 :: r22))) fun r24 => .ok (v23 :: r24))) (ul3 fun l_kind24 l_edge24 l_is_late24 => (bd (bd (bd (bd (.ok l_kind24) fun v38 => (bd (bd (bd (bd (.ok (.int 2)) fun v30 => (bd (bd (.ok (.int 0)) fun v28 => (bd (bd (.ok (.int 1)) fun v26 => (bd (.ok []) fun r27 => .ok (v26 :: r27))) fun r29 => .ok (v28 :: r29))) fun r31 => .ok (v30 :: r31))) (fun ds => bd ((fun fs => ul3 (F_Span___init__ fs)) [] ds) fun fs => .ok (.obj "Span" fs))) fun v36 => (bd (bd (.ok l_edge24) fun v34 => (bd (bd (.ok l_is_late24) fun v32 => (bd (.ok []) fun r33 => .ok (v32 :: r33))) fun r35 => .ok (v34 :: r35))) fun r37 => .ok (v36 :: r37))) fun r39 => .ok (v38 :: r39))) (fun ds => bd ((fun fs => ul4 (F_Stretch___init__ fs)) [] ds) fun fs => .ok (.obj "Stretch" fs))) fun v56 => (bd (bd (bd (bd (.ok l_kind24) fun v52 => (bd (bd (bd (bd (.ok (.int 4)) fun v44 => (bd (bd (.ok (.int 0)) fun v42 => (bd (bd (.ok (.int 2)) fun v40 => (bd (.ok []) fun r41 => .ok (v40 :: r41))) fun r43 => .ok (v42 :: r43))) fun r45 => .ok (v44 :: r45))) (fun ds => bd ((fun fs => ul3 (F_Span___init__ fs)) [] ds) fun fs => .ok (.obj "Span" fs))) fun v50 => (bd (bd (.ok l_edge24) fun v48 => (bd (bd (.ok l_is_late24) fun v46 => (bd (.ok []) fun r47 => .ok (v46 :: r47))) fun r49 => .ok (v48 :: r49))) fun r51 => .ok (v50 :: r51))) fun r53 => .ok (v52 :: r53))) (fun ds => bd ((fun fs => ul4 (F_Stretch___init__ fs)) [] ds) fun fs => .ok (.obj "Stretch" fs))) fun v54 => (bd (.ok []) fun r55 => .ok (v54 :: r55))) fun r57 => .ok (v56 :: r57))) (ul2 fun l_half57 l_whole57 => (bdF (bd (bd (bd (bd (.ok l_pen_here) fun v61 => (bd (bd (.ok l_size) fun v59 => (bd (.ok []) fun r60 => .ok (v59 :: r60))) fun r62 => .ok (v61 :: r62))) (ul2 F__law_places)) itD) fun ds => forF (fun (d64 : D) (w63 : Unit) => (bdF (W' := Unit) (bd (bd (bd (bd (bd (.ok l_half57) fun o70 => (isO "Stretch" o70 fun fs => if fs.lookup ("to" : Str) = none then bd (bd (.ok l_size) fun v68 => (bd (bd (.ok d64) fun v66 => (bd (.ok []) fun r67 => .ok (v66 :: r67))) fun r69 => .ok (v68 :: r69))) fun ds => (ul3 F_Stretch_to) (o70 :: ds) else .bad)) fun v75 => (bd (bd (bd (.ok l_size) fun v71 => (bd (.ok (.int 1)) fun v72 => subD v71 v72)) fun v73 => (bd (.ok d64) fun v74 => subD v73 v74)) fun v76 => neD v75 v76)) asB) fun k => if k = true then .ok true else (bd (bd (bd (.ok l_whole57) fun o81 => (isO "Stretch" o81 fun fs => if fs.lookup ("to" : Str) = none then bd (bd (.ok l_size) fun v79 => (bd (bd (.ok d64) fun v77 => (bd (.ok []) fun r78 => .ok (v77 :: r78))) fun r80 => .ok (v79 :: r80))) fun ds => (ul3 F_Stretch_to) (o81 :: ds) else .bad)) fun v82 => (bd (.ok d64) fun v83 => neD v82 v83)) asB)) fun k => if k = true then (bd (.ok (.bl false)) fun d => .ok (.rt d)) else (.ok (.nx ()))) fun (w84 : Unit) => (.ok (.nx ())))) ds ()) fun (w63 : Unit) => (bd (bd (bd (.ok l_pen_here) fun v88 => (bd (bd (.ok (.int 30)) fun v86 => (bd (.ok []) fun r87 => .ok (v86 :: r87))) fun r89 => .ok (v88 :: r89))) (ul2 F_draw)) fun l_more84 => (bd (bd (bd (.ok l_kind24) fun v103 => (bd (bd (bd (bd (.ok (.int 4)) fun v95 => (bd (bd (.ok l_more84) fun v93 => (bd (bd (.ok (.int 2)) fun v91 => (bd (.ok []) fun r92 => .ok (v91 :: r92))) fun r94 => .ok (v93 :: r94))) fun r96 => .ok (v95 :: r96))) (fun ds => bd ((fun fs => ul3 (F_Span___init__ fs)) [] ds) fun fs => .ok (.obj "Span" fs))) fun v101 => (bd (bd (.ok l_edge24) fun v99 => (bd (bd (.ok l_is_late24) fun v97 => (bd (.ok []) fun r98 => .ok (v97 :: r98))) fun r100 => .ok (v99 :: r100))) fun r102 => .ok (v101 :: r102))) fun r104 => .ok (v103 :: r104))) (fun ds => bd ((fun fs => ul4 (F_Stretch___init__ fs)) [] ds) fun fs => .ok (.obj "Stretch" fs))) fun l_longer89 => (bd (bd (bd (.ok l_pen_here) fun v123 => (bd (bd (.ok l_longer89) fun v121 => (bd (bd (bd (bd (.ok l_kind24) fun v115 => (bd (bd (bd (bd (.ok (.int 0)) fun v107 => (bd (bd (.ok l_more84) fun v105 => (bd (.ok []) fun r106 => .ok (v105 :: r106))) fun r108 => .ok (v107 :: r108))) (fun ds => bd ((fun fs => ul3 (F_Span___init__ fs)) [] (ds ++ [.int 0])) fun fs => .ok (.obj "Span" fs))) fun v113 => (bd (bd (.ok l_edge24) fun v111 => (bd (bd (.ok l_is_late24) fun v109 => (bd (.ok []) fun r110 => .ok (v109 :: r110))) fun r112 => .ok (v111 :: r112))) fun r114 => .ok (v113 :: r114))) fun r116 => .ok (v115 :: r116))) (fun ds => bd ((fun fs => ul4 (F_Stretch___init__ fs)) [] ds) fun fs => .ok (.obj "Stretch" fs))) fun v119 => (bd (bd (.ok l_size) fun v117 => (bd (.ok []) fun r118 => .ok (v117 :: r118))) fun r120 => .ok (v119 :: r120))) fun r122 => .ok (v121 :: r122))) fun r124 => .ok (v123 :: r124))) (ul4 F__law_moves_alike)) fun d => .ok (.rt d)))))))))
theorem ok__law_rounds_right (F : FnA K d__law_rounds_right fd) (T : Tx K mg) (G__law_draw : PromO P w K mg base CX0 1 (gd "_law_draw" K) [] (spF K Tb (ul2 F_draw))) (G__law_pick : PromO P w K mg base CX0 2 (gd "_law_pick" K) [] (spF K Tb (ul2 F__law_pick))) (G_Stretch___init__ : PromO P w K mg base CX0 3 (md "Stretch" "__init__" K) [] (spI K Tb "Stretch" (fun fs => ul4 (F_Stretch___init__ fs)))) (G_Span___init__ : PromO P w K mg base CX0 3 (md "Span" "__init__" K) [] (spI K Tb "Span" (fun fs => ul3 (F_Span___init__ fs)))) (G__law_places : PromO P w K mg base CX0 2 (gd "_law_places" K) [] (spF K Tb (ul2 F__law_places))) (G_Stretch_to : PromO P w K mg base CX0 7 (md "Stretch" "to" K) [] (spF K Tb (ul3 F_Stretch_to))) (G__law_moves_alike : PromO P w K mg base CX0 9 (gd "_law_moves_alike" K) [] (spF K Tb (ul4 F__law_moves_alike))) (GD_Span___init___1 : PromO P w K mg base CX0 3 (md "Span" "__init__" K) [V.int 0] (spI K Tb "Span" (fun fs => ul3 (F_Span___init__ fs)))) : FnOk P w K mg base CX0 10 (d__law_rounds_right.adr K) fd ["_law_pen_here", "_law_size"] (spF K Tb (ul2 F__law_rounds_right)) := by
  refine fnO0 F sc__law_rounds_right (fun vs H Q E h => spF_len len2 h) (fun cdv A outer s H vs Q E hr h => ?_)
  refine ⟨_, (pss_cons (ps_par3 (i := 5) (j := 6) (l := 7) (by rfl) sc__law_rounds_right.nd rfl rfl rfl (by decide) (by decide) (by decide) rfl rfl rfl (pa_cons (pe_g (PromO.call G__law_draw (hr.mono (by decide)) (passA (E := E))) (by rfl) T.g__law_draw T.k__law_draw (pa_cons (pv 0) (pa_cons pe_int pa_nil))) (pa_cons (pe_g (PromO.call G__law_pick (hr.mono (by decide)) (passA (E := E))) (by rfl) T.g__law_pick T.k__law_pick (pa_cons (pv 0) (pa_cons (pe_lst (pa_cons pe_str (pa_cons pe_str pa_nil))) pa_nil))) (pa_cons (pe_cmpR (op_eqA (K := K) rfl hr.units) (pe_g (PromO.call G__law_draw (hr.mono (by decide)) (passA (E := E))) (by rfl) T.g__law_draw T.k__law_draw (pa_cons (pv 0) (pa_cons pe_int pa_nil))) pe_int (nomark _)) pa_nil))) (by rfl))
      (pss_cons (ps_par (i := 8) (j := 9) (by rfl) sc__law_rounds_right.nd rfl rfl (by decide) rfl rfl (pa_cons (pe_g (PromO.make T.mk_Stretch G_Stretch___init__ (hr.mono (by decide)) (passA (E := E))) (by rfl) T.g_Stretch T.k_Stretch (pa_cons (pv 5) (pa_cons (pe_g (PromO.make T.mk_Span G_Span___init__ (hr.mono (by decide)) (passA (E := E))) (by rfl) T.g_Span T.k_Span (pa_cons pe_int (pa_cons pe_int (pa_cons pe_int pa_nil)))) (pa_cons (pv 6) (pa_cons (pv 7) pa_nil))))) (pa_cons (pe_g (PromO.make T.mk_Stretch G_Stretch___init__ (hr.mono (by decide)) (passA (E := E))) (by rfl) T.g_Stretch T.k_Stretch (pa_cons (pv 5) (pa_cons (pe_g (PromO.make T.mk_Span G_Span___init__ (hr.mono (by decide)) (passA (E := E))) (by rfl) T.g_Span T.k_Span (pa_cons pe_int (pa_cons pe_int (pa_cons pe_int pa_nil)))) (pa_cons (pv 6) (pa_cons (pv 7) pa_nil))))) pa_nil)) (by rfl))
      (pss_cons (ps_for PassesOwn.never rfl (pi_seq (K := K) rfl (pe_g (PromO.call G__law_places (hr.mono (by decide)) (passA (E := E))) (by rfl) T.g__law_places T.k__law_places (pa_cons (pv 0) (pa_cons (pv 1) pa_nil)))) (pg_name (i := 2) sc__law_rounds_right.nd rfl (.inl rfl))
      (pss_cons (ps_if (PW.pt (pw_or (pt_cmpR (op_neA (K := K) rfl hr.units) (pe_m (pv 8) T.cl_Stretch T.mt_Stretch_to (PromO.call G_Stretch_to (hr.mono (by decide)) (passA (E := E))) (pa_cons (pv 1) (pa_cons (pv 2) pa_nil))) (pe_op op_sub (pe_op op_sub (pv 1) pe_int) (pv 2)) (nomark _)) (pw_or1 (pt_cmpR (op_neA (K := K) rfl hr.units) (pe_m (pv 9) T.cl_Stretch T.mt_Stretch_to (PromO.call G_Stretch_to (hr.mono (by decide)) (passA (E := E))) (pa_cons (pv 1) (pa_cons (pv 2) pa_nil))) (pv 2) (nomark _)))))
      (pss_cons (ps_ret pe_bl) pss_nil) pss_nil)
      pss_nil))
      (pss_cons (ps_set (i := 3) sc__law_rounds_right.nd rfl (.inl rfl) (pe_g (PromO.call G__law_draw (hr.mono (by decide)) (passA (E := E))) (by rfl) T.g__law_draw T.k__law_draw (pa_cons (pv 0) (pa_cons pe_int pa_nil))))
      (pss_cons (ps_set (i := 4) sc__law_rounds_right.nd rfl (.inl rfl) (pe_g (PromO.make T.mk_Stretch G_Stretch___init__ (hr.mono (by decide)) (passA (E := E))) (by rfl) T.g_Stretch T.k_Stretch (pa_cons (pv 5) (pa_cons (pe_g (PromO.make T.mk_Span G_Span___init__ (hr.mono (by decide)) (passA (E := E))) (by rfl) T.g_Span T.k_Span (pa_cons pe_int (pa_cons (pv 3) (pa_cons pe_int pa_nil)))) (pa_cons (pv 6) (pa_cons (pv 7) pa_nil))))))
      (pss_cons (ps_ret (pe_g (PromO.call G__law_moves_alike (hr.mono (by decide)) (passA (E := E))) (by rfl) T.g__law_moves_alike T.k__law_moves_alike (pa_cons (pv 0) (pa_cons (pv 4) (pa_cons (pe_g (PromO.make T.mk_Stretch G_Stretch___init__ (hr.mono (by decide)) (passA (E := E))) (by rfl) T.g_Stretch T.k_Stretch (pa_cons (pv 5) (pa_cons (pe_g (PromO.make T.mk_Span GD_Span___init___1 (hr.mono (by decide)) (passA (E := E))) (by rfl) T.g_Span T.k_Span (pa_cons pe_int (pa_cons (pv 3) pa_nil))) (pa_cons (pv 6) (pa_cons (pv 7) pa_nil))))) (pa_cons (pv 1) pa_nil)))))) pss_nil)))))), ?_⟩
  exact fn_of2 (F := F__law_rounds_right) (envU := fun _ => List.replicate 10 .no) h (fun l_pen_here l_size => rfl) (fun p c l_pen_here l_size => (ss_par3 (sa_cons (se_cl srl_sp0 (sa_cons se_var (sa_cons se_int sa_nil))) (sa_cons (se_cl srl_sp0 (sa_cons se_var (sa_cons (se_lst (sa_cons (se_str (by decide)) (sa_cons (se_str (by decide)) sa_nil))) sa_nil))) (sa_cons (se_op sr_eq (se_cl srl_sp0 (sa_cons se_var (sa_cons se_int sa_nil))) se_int) sa_nil))) (fun l_kind24 l_edge24 l_is_late24 => (ss_par (sa_cons (se_cl srl_mk0 (sa_cons se_var (sa_cons (se_cl srl_mk0 (sa_cons se_int (sa_cons se_int (sa_cons se_int sa_nil)))) (sa_cons se_var (sa_cons se_var sa_nil))))) (sa_cons (se_cl srl_mk0 (sa_cons se_var (sa_cons (se_cl srl_mk0 (sa_cons se_int (sa_cons se_int (sa_cons se_int sa_nil)))) (sa_cons se_var (sa_cons se_var sa_nil))))) sa_nil)) (fun l_half57 l_whole57 => (ss_for (fun (w63 : Unit) => [.fz l_pen_here, .fz l_size, .no, .no, .no, .fz l_kind24, .fz l_edge24, .fz l_is_late24, .fz l_half57, .fz l_whole57]) (si_seq (se_cl srl_sp0 (sa_cons se_var (sa_cons se_var sa_nil)))) (.s (.s (.s (.s (.s (.s (.s (.s (.s (.s .nil)))))))))) (fun (d64 : D) (w63 : Unit) => (sx_name (ss_if (fun (w84 : Unit) => [.fz l_pen_here, .fz l_size, .fz d64, .no, .no, .fz l_kind24, .fz l_edge24, .fz l_is_late24, .fz l_half57, .fz l_whole57]) (sb_or (sb_tst (se_op sr_ne (se_mt srl_sp0 se_var (sa_cons se_var (sa_cons se_var sa_nil))) (se_op sr_sub (se_op sr_sub se_var se_int) se_var))) (sb_tst (se_op sr_ne (se_mt srl_sp0 se_var (sa_cons se_var (sa_cons se_var sa_nil))) se_var))) (ss_ret se_bl) (ss_nx (.s (.s (.s (.s (.s (.s (.s (.s (.s (.s .nil))))))))))) (fun (w84 : Unit) => (ss_nx (.s (.s (.n (.s (.s (.s (.s (.s (.s (.s .nil))))))))))))))) (fun (w63 : Unit) => (ss_asg (se_cl srl_sp0 (sa_cons se_var (sa_cons se_int sa_nil))) (fun l_more84 => (ss_asg (se_cl srl_mk0 (sa_cons se_var (sa_cons (se_cl srl_mk0 (sa_cons se_int (sa_cons se_var (sa_cons se_int sa_nil)))) (sa_cons se_var (sa_cons se_var sa_nil))))) (fun l_longer89 => (ss_ret (se_cl srl_sp0 (sa_cons se_var (sa_cons se_var (sa_cons (se_cl srl_mk0 (sa_cons se_var (sa_cons (se_cl (srl_mk fun _ _ => (.cons (.int _) .nil)) (sa_cons se_int (sa_cons se_var sa_nil))) (sa_cons se_var (sa_cons se_var sa_nil))))) (sa_cons se_var sa_nil)))))))))))))))))
abbrev N__law_late_right : List Str := ["_law_pen_here", "_law_size", "_law_lot", "_law_many", "_law_late", "_law_other", "_law_kind", "_law_edge"]
theorem sc__law_late_right : FnScope N__law_late_right ["_law_pen_here", "_law_size"] (defScope s__law_late_right) := ⟨rfl, rfl, rfl, by decide +kernel, rfl, by decide +kernel, by decide +kernel⟩
def F__law_late_right (l_pen_here l_size : D) : Tr D :=
  fin (bd (bd (bd (bd (.ok l_pen_here) fun v3 => (bd (bd (.ok (.int 2)) fun v1 => (bd (.ok []) fun r2 => .ok (v1 :: r2))) fun r4 => .ok (v3 :: r4))) (ul2 F_draw)) fun v15 => (bd (bd (bd (bd (.ok l_pen_here) fun v11 => (bd (bd (bd (bd (.ok (.str "front")) fun v7 => (bd (bd (.ok (.str "back")) fun v5 => (bd (.ok []) fun r6 => .ok (v5 :: r6))) fun r8 => .ok (v7 :: r8))) fun ds => if ds.length ≤ sizeLine then .ok (.lst ds) else .bad) fun v9 => (bd (.ok []) fun r10 => .ok (v9 :: r10))) fun r12 => .ok (v11 :: r12))) (ul2 F__law_pick)) fun v13 => (bd (.ok []) fun r14 => .ok (v13 :: r14))) fun r16 => .ok (v15 :: r16))) (ul2 fun l_kind16 l_edge16 => (bd (bd (bd (bd (bd (.ok l_pen_here) fun v21 => (bd (bd (.ok (.int 5)) fun v19 => (bd (.ok []) fun r20 => .ok (v19 :: r20))) fun r22 => .ok (v21 :: r22))) (ul2 F_draw)) fun v35 => (bd (bd (bd (bd (.ok l_pen_here) fun v25 => (bd (bd (.ok (.int 9)) fun v23 => (bd (.ok []) fun r24 => .ok (v23 :: r24))) fun r26 => .ok (v25 :: r26))) (ul2 F_draw)) fun v33 => (bd (bd (bd (bd (.ok l_pen_here) fun v29 => (bd (bd (.ok (.int 3)) fun v27 => (bd (.ok []) fun r28 => .ok (v27 :: r28))) fun r30 => .ok (v29 :: r30))) (ul2 F_draw)) fun v31 => (bd (.ok []) fun r32 => .ok (v31 :: r32))) fun r34 => .ok (v33 :: r34))) fun r36 => .ok (v35 :: r36))) (fun ds => bd ((fun fs => ul3 (F_Span___init__ fs)) [] ds) fun fs => .ok (.obj "Span" fs))) fun l_lot17 => (bd (bd (.ok l_lot17) fun o40 => (isO "Span" o40 fun _ => bd (bd (.ok l_size) fun v38 => (bd (.ok []) fun r39 => .ok (v38 :: r39))) fun ds => (ul2 F_Span___call__) (o40 :: ds))) fun l_many36 => (bd (bd (bd (.ok l_kind16) fun v48 => (bd (bd (.ok l_lot17) fun v46 => (bd (bd (.ok l_edge16) fun v44 => (bd (bd (.ok (.bl true)) fun v42 => (bd (.ok []) fun r43 => .ok (v42 :: r43))) fun r45 => .ok (v44 :: r45))) fun r47 => .ok (v46 :: r47))) fun r49 => .ok (v48 :: r49))) (fun ds => bd ((fun fs => ul4 (F_Stretch___init__ fs)) [] ds) fun fs => .ok (.obj "Stretch" fs))) fun l_late40 => (bdF (W' := Unit) (bd (bd (bd (bd (bd (.ok l_pen_here) fun v70 => (bd (bd (.ok l_late40) fun v68 => (bd (bd (bd (bd (bd (bd (bd (bd (bd (.ok l_kind16) fun v50 => (bd (.ok l_many36) fun v51 => addD v50 v51)) fun v52 => (bd (.ok (.int 1)) fun v53 => addD v52 v53)) fun v54 => (bd (.ok []) fun r55 => .ok (v54 :: r55))) (ul1 intD)) fun v56 => (bd (.ok (.int 2)) fun v57 => modD v56 v57)) fun v62 => (bd (bd (.ok l_lot17) fun v60 => (bd (bd (.ok l_edge16) fun v58 => (bd (.ok []) fun r59 => .ok (v58 :: r59))) fun r61 => .ok (v60 :: r61))) fun r63 => .ok (v62 :: r63))) (fun ds => bd ((fun fs => ul4 (F_Stretch___init__ fs)) [] (ds ++ [.bl false])) fun fs => .ok (.obj "Stretch" fs))) fun v66 => (bd (bd (.ok l_size) fun v64 => (bd (.ok []) fun r65 => .ok (v64 :: r65))) fun r67 => .ok (v66 :: r67))) fun r69 => .ok (v68 :: r69))) fun r71 => .ok (v70 :: r71))) (ul4 F__law_moves_alike)) asB) fun k => .ok (!k)) fun k => if k = true then (bd (.ok (.bl false)) fun d => .ok (.rt d)) else (.ok (.nx ()))) fun (w72 : Unit) => (bd (bd (bd (bd (bd (bd (bd (.ok l_size) fun v74 => (bd (.ok (.int 2)) fun v75 => modD v74 v75)) fun v76 => (bd (.ok (.int 0)) fun v77 => eqD v76 v77)) asB) fun k => if k = true then (.ok l_kind16) else (bd (.ok (.int 1)) fun v78 => (bd (.ok l_kind16) fun v79 => subD v78 v79))) fun v96 => (bd (bd (.ok l_lot17) fun v94 => (bd (bd (bd (bd (bd (.ok (.str "front")) fun v82 => (bd (bd (.ok (.str "back")) fun v80 => (bd (.ok []) fun r81 => .ok (v80 :: r81))) fun r83 => .ok (v82 :: r83))) fun ds => if ds.length ≤ sizeLine then .ok (.lst ds) else .bad) fun v84 => (bd (bd (bd (bd (.ok l_edge16) fun v86 => (bd (.ok (.str "front")) fun v87 => eqD v86 v87)) fun v88 => (bd (.ok []) fun r89 => .ok (v88 :: r89))) (ul1 intD)) fun v85 => ixD v84 v85)) fun v92 => (bd (bd (.ok (.bl false)) fun v90 => (bd (.ok []) fun r91 => .ok (v90 :: r91))) fun r93 => .ok (v92 :: r93))) fun r95 => .ok (v94 :: r95))) fun r97 => .ok (v96 :: r97))) (fun ds => bd ((fun fs => ul4 (F_Stretch___init__ fs)) [] ds) fun fs => .ok (.obj "Stretch" fs))) fun l_other72 => (bd (bd (bd (.ok l_pen_here) fun v110 => (bd (bd (bd (bd (.ok l_kind16) fun v102 => (bd (bd (.ok l_lot17) fun v100 => (bd (bd (.ok l_edge16) fun v98 => (bd (.ok []) fun r99 => .ok (v98 :: r99))) fun r101 => .ok (v100 :: r101))) fun r103 => .ok (v102 :: r103))) (fun ds => bd ((fun fs => ul4 (F_Stretch___init__ fs)) [] (ds ++ [.bl false])) fun fs => .ok (.obj "Stretch" fs))) fun v108 => (bd (bd (.ok l_other72) fun v106 => (bd (bd (.ok l_size) fun v104 => (bd (.ok []) fun r105 => .ok (v104 :: r105))) fun r107 => .ok (v106 :: r107))) fun r109 => .ok (v108 :: r109))) fun r111 => .ok (v110 :: r111))) (ul4 F__law_moves_alike)) fun d => .ok (.rt d)))))))))
theorem ok__law_late_right (F : FnA K d__law_late_right fd) (T : Tx K mg) (G__law_draw : PromO P w K mg base CX0 1 (gd "_law_draw" K) [] (spF K Tb (ul2 F_draw))) (G__law_pick : PromO P w K mg base CX0 2 (gd "_law_pick" K) [] (spF K Tb (ul2 F__law_pick))) (G_Span___init__ : PromO P w K mg base CX0 3 (md "Span" "__init__" K) [] (spI K Tb "Span" (fun fs => ul3 (F_Span___init__ fs)))) (G_Span___call__ : PromO P w K mg base CX0 5 (md "Span" "__call__" K) [] (spF K Tb (ul2 F_Span___call__))) (G_Stretch___init__ : PromO P w K mg base CX0 3 (md "Stretch" "__init__" K) [] (spI K Tb "Stretch" (fun fs => ul4 (F_Stretch___init__ fs)))) (G__law_moves_alike : PromO P w K mg base CX0 9 (gd "_law_moves_alike" K) [] (spF K Tb (ul4 F__law_moves_alike))) (GD_Stretch___init___1 : PromO P w K mg base CX0 3 (md "Stretch" "__init__" K) [V.bl false] (spI K Tb "Stretch" (fun fs => ul4 (F_Stretch___init__ fs)))) : FnOk P w K mg base CX0 10 (d__law_late_right.adr K) fd ["_law_pen_here", "_law_size"] (spF K Tb (ul2 F__law_late_right)) := by
  refine fnO0 F sc__law_late_right (fun vs H Q E h => spF_len len2 h) (fun cdv A outer s H vs Q E hr h => ?_)
  refine ⟨_, (pss_cons (ps_par (i := 6) (j := 7) (by rfl) sc__law_late_right.nd rfl rfl (by decide) rfl rfl (pa_cons (pe_g (PromO.call G__law_draw (hr.mono (by decide)) (passA (E := E))) (by rfl) T.g__law_draw T.k__law_draw (pa_cons (pv 0) (pa_cons pe_int pa_nil))) (pa_cons (pe_g (PromO.call G__law_pick (hr.mono (by decide)) (passA (E := E))) (by rfl) T.g__law_pick T.k__law_pick (pa_cons (pv 0) (pa_cons (pe_lst (pa_cons pe_str (pa_cons pe_str pa_nil))) pa_nil))) pa_nil)) (by rfl))
      (pss_cons (ps_set (i := 2) sc__law_late_right.nd rfl (.inl rfl) (pe_g (PromO.make T.mk_Span G_Span___init__ (hr.mono (by decide)) (passA (E := E))) (by rfl) T.g_Span T.k_Span (pa_cons (pe_g (PromO.call G__law_draw (hr.mono (by decide)) (passA (E := E))) (by rfl) T.g__law_draw T.k__law_draw (pa_cons (pv 0) (pa_cons pe_int pa_nil))) (pa_cons (pe_g (PromO.call G__law_draw (hr.mono (by decide)) (passA (E := E))) (by rfl) T.g__law_draw T.k__law_draw (pa_cons (pv 0) (pa_cons pe_int pa_nil))) (pa_cons (pe_g (PromO.call G__law_draw (hr.mono (by decide)) (passA (E := E))) (by rfl) T.g__law_draw T.k__law_draw (pa_cons (pv 0) (pa_cons pe_int pa_nil))) pa_nil)))))
      (pss_cons (ps_set (i := 3) sc__law_late_right.nd rfl (.inl rfl) (pe_callI (pv 2) T.co_Span G_Span___call__ (hr.mono (by decide)) (passA (E := E)) (pa_cons (pv 1) pa_nil)))
      (pss_cons (ps_set (i := 4) sc__law_late_right.nd rfl (.inl rfl) (pe_g (PromO.make T.mk_Stretch G_Stretch___init__ (hr.mono (by decide)) (passA (E := E))) (by rfl) T.g_Stretch T.k_Stretch (pa_cons (pv 6) (pa_cons (pv 2) (pa_cons (pv 7) (pa_cons pe_bl pa_nil))))))
      (pss_cons (ps_if (pt_not (pt_val (pe_g (PromO.call G__law_moves_alike (hr.mono (by decide)) (passA (E := E))) (by rfl) T.g__law_moves_alike T.k__law_moves_alike (pa_cons (pv 0) (pa_cons (pv 4) (pa_cons (pe_g (PromO.make T.mk_Stretch GD_Stretch___init___1 (hr.mono (by decide)) (passA (E := E))) (by rfl) T.g_Stretch T.k_Stretch (pa_cons (pe_op op_mod (pe_callTy cr_int (by rfl) T.f_int (by decide +kernel) (pa_cons (pe_op (op_addA (K := K) rfl) (pe_op (op_addA (K := K) rfl) (pv 6) (pv 3)) pe_int) pa_nil)) pe_int) (pa_cons (pv 2) (pa_cons (pv 7) pa_nil)))) (pa_cons (pv 1) pa_nil)))))))
      (pss_cons (ps_ret pe_bl) pss_nil) pss_nil)
      (pss_cons (ps_set (i := 5) sc__law_late_right.nd rfl (.inl rfl) (pe_g (PromO.make T.mk_Stretch G_Stretch___init__ (hr.mono (by decide)) (passA (E := E))) (by rfl) T.g_Stretch T.k_Stretch (pa_cons (pe_ifExp (pt_cmpR (op_eqA (K := K) rfl hr.units) (pe_op op_mod (pv 1) pe_int) pe_int (nomark _)) (pv 6) (pe_op op_sub pe_int (pv 6))) (pa_cons (pv 2) (pa_cons (pe_ix (ix_seqK (K := K) rfl) (pe_lst (pa_cons pe_str (pa_cons pe_str pa_nil))) (pe_callTy cr_int (by rfl) T.f_int (by decide +kernel) (pa_cons (pe_cmpR (op_eqA (K := K) rfl hr.units) (pv 7) pe_str (nomark _)) pa_nil)) (fun _ _ => rfl)) (pa_cons pe_bl pa_nil))))))
      (pss_cons (ps_ret (pe_g (PromO.call G__law_moves_alike (hr.mono (by decide)) (passA (E := E))) (by rfl) T.g__law_moves_alike T.k__law_moves_alike (pa_cons (pv 0) (pa_cons (pe_g (PromO.make T.mk_Stretch GD_Stretch___init___1 (hr.mono (by decide)) (passA (E := E))) (by rfl) T.g_Stretch T.k_Stretch (pa_cons (pv 6) (pa_cons (pv 2) (pa_cons (pv 7) pa_nil)))) (pa_cons (pv 5) (pa_cons (pv 1) pa_nil)))))) pss_nil))))))), ?_⟩
  exact fn_of2 (F := F__law_late_right) (envU := fun _ => List.replicate 8 .no) h (fun l_pen_here l_size => rfl) (fun p c l_pen_here l_size => (ss_par (sa_cons (se_cl srl_sp0 (sa_cons se_var (sa_cons se_int sa_nil))) (sa_cons (se_cl srl_sp0 (sa_cons se_var (sa_cons (se_lst (sa_cons (se_str (by decide)) (sa_cons (se_str (by decide)) sa_nil))) sa_nil))) sa_nil)) (fun l_kind16 l_edge16 => (ss_asg (se_cl srl_mk0 (sa_cons (se_cl srl_sp0 (sa_cons se_var (sa_cons se_int sa_nil))) (sa_cons (se_cl srl_sp0 (sa_cons se_var (sa_cons se_int sa_nil))) (sa_cons (se_cl srl_sp0 (sa_cons se_var (sa_cons se_int sa_nil))) sa_nil)))) (fun l_lot17 => (ss_asg (se_callI se_var (sa_cons se_var sa_nil)) (fun l_many36 => (ss_asg (se_cl srl_mk0 (sa_cons se_var (sa_cons se_var (sa_cons se_var (sa_cons se_bl sa_nil))))) (fun l_late40 => (ss_if (fun (w72 : Unit) => [.fz l_pen_here, .fz l_size, .fz l_lot17, .fz l_many36, .fz l_late40, .no, .fz l_kind16, .fz l_edge16]) (sb_not (sb_tb (se_cl srl_sp0 (sa_cons se_var (sa_cons se_var (sa_cons (se_cl (srl_mk fun _ _ => (.cons (.bl _) .nil)) (sa_cons (se_op sr_mod (se_cb srl_int (sa_cons (se_op sr_add (se_op sr_add se_var se_var) se_int) sa_nil)) se_int) (sa_cons se_var (sa_cons se_var sa_nil)))) (sa_cons se_var sa_nil))))))) (ss_ret se_bl) (ss_nx (.s (.s (.s (.s (.s (.s (.s (.s .nil))))))))) (fun (w72 : Unit) => (ss_asg (se_cl srl_mk0 (sa_cons (se_if (sb_tst (se_op sr_eq (se_op sr_mod se_var se_int) se_int)) se_var (se_op sr_sub se_int se_var)) (sa_cons se_var (sa_cons (se_op sr_ix (se_lst (sa_cons (se_str (by decide)) (sa_cons (se_str (by decide)) sa_nil))) (se_cb srl_int (sa_cons (se_op sr_eq se_var (se_str (by decide))) sa_nil))) (sa_cons se_bl sa_nil))))) (fun l_other72 => (ss_ret (se_cl srl_sp0 (sa_cons se_var (sa_cons (se_cl (srl_mk fun _ _ => (.cons (.bl _) .nil)) (sa_cons se_var (sa_cons se_var (sa_cons se_var sa_nil)))) (sa_cons se_var (sa_cons se_var sa_nil)))))))))))))))))))
abbrev N__law_joined_right : List Str := ["_law_pen_here", "_law_size", "_law_next_kind", "_law_both", "_law_back", "_law_some", "_law_kind", "_law_edge", "_law_one", "_law_other", "_law_place"]
theorem sc__law_joined_right : FnScope N__law_joined_right ["_law_pen_here", "_law_size"] (defScope s__law_joined_right) := ⟨rfl, rfl, rfl, by decide +kernel, rfl, by decide +kernel, by decide +kernel⟩
def F__law_joined_right (l_pen_here l_size : D) : Tr D :=
  fin (bd (bd (bd (bd (.ok l_pen_here) fun v3 => (bd (bd (.ok (.int 2)) fun v1 => (bd (.ok []) fun r2 => .ok (v1 :: r2))) fun r4 => .ok (v3 :: r4))) (ul2 F_draw)) fun v15 => (bd (bd (bd (bd (.ok l_pen_here) fun v11 => (bd (bd (bd (bd (.ok (.str "front")) fun v7 => (bd (bd (.ok (.str "back")) fun v5 => (bd (.ok []) fun r6 => .ok (v5 :: r6))) fun r8 => .ok (v7 :: r8))) fun ds => if ds.length ≤ sizeLine then .ok (.lst ds) else .bad) fun v9 => (bd (.ok []) fun r10 => .ok (v9 :: r10))) fun r12 => .ok (v11 :: r12))) (ul2 F__law_pick)) fun v13 => (bd (.ok []) fun r14 => .ok (v13 :: r14))) fun r16 => .ok (v15 :: r16))) (ul2 fun l_kind16 l_edge16 => (bd (bd (bd (bd (bd (bd (.ok l_pen_here) fun v20 => (bd (bd (.ok (.int 4)) fun v18 => (bd (.ok []) fun r19 => .ok (v18 :: r19))) fun r21 => .ok (v20 :: r21))) (ul2 F_draw)) fun v30 => (bd (bd (bd (bd (.ok l_pen_here) fun v24 => (bd (bd (.ok (.int 7)) fun v22 => (bd (.ok []) fun r23 => .ok (v22 :: r23))) fun r25 => .ok (v24 :: r25))) (ul2 F_draw)) fun v28 => (bd (bd (.ok (.int 0)) fun v26 => (bd (.ok []) fun r27 => .ok (v26 :: r27))) fun r29 => .ok (v28 :: r29))) fun r31 => .ok (v30 :: r31))) (fun ds => bd ((fun fs => ul3 (F_Span___init__ fs)) [] ds) fun fs => .ok (.obj "Span" fs))) fun v48 => (bd (bd (bd (bd (bd (bd (.ok l_pen_here) fun v34 => (bd (bd (.ok (.int 4)) fun v32 => (bd (.ok []) fun r33 => .ok (v32 :: r33))) fun r35 => .ok (v34 :: r35))) (ul2 F_draw)) fun v44 => (bd (bd (bd (bd (.ok l_pen_here) fun v38 => (bd (bd (.ok (.int 7)) fun v36 => (bd (.ok []) fun r37 => .ok (v36 :: r37))) fun r39 => .ok (v38 :: r39))) (ul2 F_draw)) fun v42 => (bd (bd (.ok (.int 1)) fun v40 => (bd (.ok []) fun r41 => .ok (v40 :: r41))) fun r43 => .ok (v42 :: r43))) fun r45 => .ok (v44 :: r45))) (fun ds => bd ((fun fs => ul3 (F_Span___init__ fs)) [] ds) fun fs => .ok (.obj "Span" fs))) fun v46 => (bd (.ok []) fun r47 => .ok (v46 :: r47))) fun r49 => .ok (v48 :: r49))) (ul2 fun l_one49 l_other49 => (bd (bd (bd (bd (bd (.ok l_kind16) fun v55 => (bd (bd (.ok l_one49) fun o54 => (isO "Span" o54 fun _ => bd (bd (.ok l_size) fun v52 => (bd (.ok []) fun r53 => .ok (v52 :: r53))) fun ds => (ul2 F_Span___call__) (o54 :: ds))) fun v56 => addD v55 v56)) fun v57 => (bd (.ok []) fun r58 => .ok (v57 :: r58))) (ul1 intD)) fun v59 => (bd (.ok (.int 2)) fun v60 => modD v59 v60)) fun l_next_kind50 => (bd (bd (bd (bd (bd (.ok l_kind16) fun v66 => (bd (bd (.ok l_one49) fun v64 => (bd (bd (.ok l_edge16) fun v62 => (bd (.ok []) fun r63 => .ok (v62 :: r63))) fun r65 => .ok (v64 :: r65))) fun r67 => .ok (v66 :: r67))) (fun ds => bd ((fun fs => ul4 (F_Stretch___init__ fs)) [] (ds ++ [.bl false])) fun fs => .ok (.obj "Stretch" fs))) fun v76 => (bd (bd (bd (bd (.ok l_next_kind50) fun v72 => (bd (bd (.ok l_other49) fun v70 => (bd (bd (.ok l_edge16) fun v68 => (bd (.ok []) fun r69 => .ok (v68 :: r69))) fun r71 => .ok (v70 :: r71))) fun r73 => .ok (v72 :: r73))) (fun ds => bd ((fun fs => ul4 (F_Stretch___init__ fs)) [] (ds ++ [.bl false])) fun fs => .ok (.obj "Stretch" fs))) fun v74 => (bd (.ok []) fun r75 => .ok (v74 :: r75))) fun r77 => .ok (v76 :: r77))) fun ds => stD 0 ds fun es => bd ((fun fs => ul1 (F_Program___init__ fs)) [] es) fun fs => .ok (.obj "Program" fs)) fun l_both60 => (bdF (W' := Unit) (bd (bd (bd (bd (bd (.ok l_pen_here) fun v94 => (bd (bd (.ok l_both60) fun v92 => (bd (bd (bd (bd (.ok l_kind16) fun v86 => (bd (bd (bd (.ok l_one49) fun v80 => (bd (.ok l_other49) fun v81 => binO "Span" (ul2 F_Span___add__) v80 v81)) fun v84 => (bd (bd (.ok l_edge16) fun v82 => (bd (.ok []) fun r83 => .ok (v82 :: r83))) fun r85 => .ok (v84 :: r85))) fun r87 => .ok (v86 :: r87))) (fun ds => bd ((fun fs => ul4 (F_Stretch___init__ fs)) [] (ds ++ [.bl false])) fun fs => .ok (.obj "Stretch" fs))) fun v90 => (bd (bd (.ok l_size) fun v88 => (bd (.ok []) fun r89 => .ok (v88 :: r89))) fun r91 => .ok (v90 :: r91))) fun r93 => .ok (v92 :: r93))) fun r95 => .ok (v94 :: r95))) (ul4 F__law_moves_alike)) asB) fun k => .ok (!k)) fun k => if k = true then (bd (.ok (.bl false)) fun d => .ok (.rt d)) else (.ok (.nx ()))) fun (w96 : Unit) => (bd (bd (bd (bd (bd (.ok l_kind16) fun v102 => (bd (bd (.ok l_one49) fun v100 => (bd (bd (.ok l_edge16) fun v98 => (bd (.ok []) fun r99 => .ok (v98 :: r99))) fun r101 => .ok (v100 :: r101))) fun r103 => .ok (v102 :: r103))) (fun ds => bd ((fun fs => ul4 (F_Stretch___init__ fs)) [] (ds ++ [.bl false])) fun fs => .ok (.obj "Stretch" fs))) fun v114 => (bd (bd (bd (bd (.ok l_kind16) fun v110 => (bd (bd (.ok l_one49) fun v108 => (bd (bd (.ok l_edge16) fun v106 => (bd (bd (.ok (.bl true)) fun v104 => (bd (.ok []) fun r105 => .ok (v104 :: r105))) fun r107 => .ok (v106 :: r107))) fun r109 => .ok (v108 :: r109))) fun r111 => .ok (v110 :: r111))) (fun ds => bd ((fun fs => ul4 (F_Stretch___init__ fs)) [] ds) fun fs => .ok (.obj "Stretch" fs))) fun v112 => (bd (.ok []) fun r113 => .ok (v112 :: r113))) fun r115 => .ok (v114 :: r115))) fun ds => stD 0 ds fun es => bd ((fun fs => ul1 (F_Program___init__ fs)) [] es) fun fs => .ok (.obj "Program" fs)) fun l_back96 => (bd (bd (bd (.ok l_pen_here) fun v119 => (bd (bd (.ok l_size) fun v117 => (bd (.ok []) fun r118 => .ok (v117 :: r118))) fun r120 => .ok (v119 :: r120))) (ul2 F__law_places)) fun l_some115 => (bd (bd (bd (bd (.ok l_some115) itD) fun ds => bd (lcF (fun l_place120 => nox (bd (bd (.ok l_back96) fun o126 => (isO "Program" o126 fun fs => if fs.lookup ("to" : Str) = none then bd (bd (.ok l_size) fun v124 => (bd (bd (.ok l_place120) fun v122 => (bd (.ok []) fun r123 => .ok (v122 :: r123))) fun r125 => .ok (v124 :: r125))) fun ds => (ul3 F_Program_to) (o126 :: ds) else .bad)) fun y => .ok (some y))) ds) fun r => .ok (.lst r)) fun v127 => (bd (.ok l_some115) fun v128 => eqD v127 v128)) fun d => .ok (.rt d)))))))))))
theorem ok__law_joined_right (F : FnA K d__law_joined_right fd) (T : Tx K mg) (G__law_draw : PromO P w K mg base CX0 1 (gd "_law_draw" K) [] (spF K Tb (ul2 F_draw))) (G__law_pick : PromO P w K mg base CX0 2 (gd "_law_pick" K) [] (spF K Tb (ul2 F__law_pick))) (G_Span___init__ : PromO P w K mg base CX0 3 (md "Span" "__init__" K) [] (spI K Tb "Span" (fun fs => ul3 (F_Span___init__ fs)))) (G_Span___call__ : PromO P w K mg base CX0 5 (md "Span" "__call__" K) [] (spF K Tb (ul2 F_Span___call__))) (G_Program___init__ : FnR P w K mg base CX0 7 (md "Program" "__init__" K) (starSp 1 (spI K Tb "Program" (fun fs => ul1 (F_Program___init__ fs))))) (GD_Stretch___init___1 : PromO P w K mg base CX0 3 (md "Stretch" "__init__" K) [V.bl false] (spI K Tb "Stretch" (fun fs => ul4 (F_Stretch___init__ fs)))) (G__law_moves_alike : PromO P w K mg base CX0 9 (gd "_law_moves_alike" K) [] (spF K Tb (ul4 F__law_moves_alike))) (G_Span___add__ : PromO P w K mg base CX0 6 (md "Span" "__add__" K) [] (spF K Tb (ul2 F_Span___add__))) (G_Stretch___init__ : PromO P w K mg base CX0 3 (md "Stretch" "__init__" K) [] (spI K Tb "Stretch" (fun fs => ul4 (F_Stretch___init__ fs)))) (G__law_places : PromO P w K mg base CX0 2 (gd "_law_places" K) [] (spF K Tb (ul2 F__law_places))) (G_Program_to : PromO P w K mg base CX0 8 (md "Program" "to" K) [] (spF K Tb (ul3 F_Program_to))) : FnOk P w K mg base CX0 10 (d__law_joined_right.adr K) fd ["_law_pen_here", "_law_size"] (spF K Tb (ul2 F__law_joined_right)) := by
  refine fnO0 F sc__law_joined_right (fun vs H Q E h => spF_len len2 h) (fun cdv A outer s H vs Q E hr h => ?_)
  refine ⟨_, (pss_cons (ps_par (i := 6) (j := 7) (by rfl) sc__law_joined_right.nd rfl rfl (by decide) rfl rfl (pa_cons (pe_g (PromO.call G__law_draw (hr.mono (by decide)) (passA (E := E))) (by rfl) T.g__law_draw T.k__law_draw (pa_cons (pv 0) (pa_cons pe_int pa_nil))) (pa_cons (pe_g (PromO.call G__law_pick (hr.mono (by decide)) (passA (E := E))) (by rfl) T.g__law_pick T.k__law_pick (pa_cons (pv 0) (pa_cons (pe_lst (pa_cons pe_str (pa_cons pe_str pa_nil))) pa_nil))) pa_nil)) (by rfl))
      (pss_cons (ps_par (i := 8) (j := 9) (by rfl) sc__law_joined_right.nd rfl rfl (by decide) rfl rfl (pa_cons (pe_g (PromO.make T.mk_Span G_Span___init__ (hr.mono (by decide)) (passA (E := E))) (by rfl) T.g_Span T.k_Span (pa_cons (pe_g (PromO.call G__law_draw (hr.mono (by decide)) (passA (E := E))) (by rfl) T.g__law_draw T.k__law_draw (pa_cons (pv 0) (pa_cons pe_int pa_nil))) (pa_cons (pe_g (PromO.call G__law_draw (hr.mono (by decide)) (passA (E := E))) (by rfl) T.g__law_draw T.k__law_draw (pa_cons (pv 0) (pa_cons pe_int pa_nil))) (pa_cons pe_int pa_nil)))) (pa_cons (pe_g (PromO.make T.mk_Span G_Span___init__ (hr.mono (by decide)) (passA (E := E))) (by rfl) T.g_Span T.k_Span (pa_cons (pe_g (PromO.call G__law_draw (hr.mono (by decide)) (passA (E := E))) (by rfl) T.g__law_draw T.k__law_draw (pa_cons (pv 0) (pa_cons pe_int pa_nil))) (pa_cons (pe_g (PromO.call G__law_draw (hr.mono (by decide)) (passA (E := E))) (by rfl) T.g__law_draw T.k__law_draw (pa_cons (pv 0) (pa_cons pe_int pa_nil))) (pa_cons pe_int pa_nil)))) pa_nil)) (by rfl))
      (pss_cons (ps_set (i := 2) sc__law_joined_right.nd rfl (.inl rfl) (pe_op op_mod (pe_callTy cr_int (by rfl) T.f_int (by decide +kernel) (pa_cons (pe_op (op_addA (K := K) rfl) (pv 6) (pe_callI (pv 8) T.co_Span G_Span___call__ (hr.mono (by decide)) (passA (E := E)) (pa_cons (pv 1) pa_nil))) pa_nil)) pe_int))
      (pss_cons (ps_set (i := 3) sc__law_joined_right.nd rfl (.inl rfl) (pe_mkR T.mk_Program G_Program___init__ (hr.mono (by decide)) (by rfl) T.g_Program (passA (E := E)) (pa_cons (pe_g (PromO.make T.mk_Stretch GD_Stretch___init___1 (hr.mono (by decide)) (passA (E := E))) (by rfl) T.g_Stretch T.k_Stretch (pa_cons (pv 6) (pa_cons (pv 8) (pa_cons (pv 7) pa_nil)))) (pa_cons (pe_g (PromO.make T.mk_Stretch GD_Stretch___init___1 (hr.mono (by decide)) (passA (E := E))) (by rfl) T.g_Stretch T.k_Stretch (pa_cons (pv 2) (pa_cons (pv 9) (pa_cons (pv 7) pa_nil)))) pa_nil))))
      (pss_cons (ps_if (pt_not (pt_val (pe_g (PromO.call G__law_moves_alike (hr.mono (by decide)) (passA (E := E))) (by rfl) T.g__law_moves_alike T.k__law_moves_alike (pa_cons (pv 0) (pa_cons (pv 3) (pa_cons (pe_g (PromO.make T.mk_Stretch GD_Stretch___init___1 (hr.mono (by decide)) (passA (E := E))) (by rfl) T.g_Stretch T.k_Stretch (pa_cons (pv 6) (pa_cons (pe_op (op_bin T.ow_Span.first T.mt_Span___add__.at_ T.mt_Span___add__.fn (PromO.call G_Span___add__ (hr.mono (by decide)) (passA (E := E)))) (pv 8) (pv 9)) (pa_cons (pv 7) pa_nil)))) (pa_cons (pv 1) pa_nil)))))))
      (pss_cons (ps_ret pe_bl) pss_nil) pss_nil)
      (pss_cons (ps_set (i := 4) sc__law_joined_right.nd rfl (.inr rfl) (pe_mkR T.mk_Program G_Program___init__ (hr.mono (by decide)) (by rfl) T.g_Program (passA (E := E)) (pa_cons (pe_g (PromO.make T.mk_Stretch GD_Stretch___init___1 (hr.mono (by decide)) (passA (E := E))) (by rfl) T.g_Stretch T.k_Stretch (pa_cons (pv 6) (pa_cons (pv 8) (pa_cons (pv 7) pa_nil)))) (pa_cons (pe_g (PromO.make T.mk_Stretch G_Stretch___init__ (hr.mono (by decide)) (passA (E := E))) (by rfl) T.g_Stretch T.k_Stretch (pa_cons (pv 6) (pa_cons (pv 8) (pa_cons (pv 7) (pa_cons pe_bl pa_nil))))) pa_nil))))
      (pss_cons (ps_set (i := 5) sc__law_joined_right.nd rfl (.inl rfl) (pe_g (PromO.call G__law_places (hr.mono (by decide)) (passA (E := E))) (by rfl) T.g__law_places T.k__law_places (pa_cons (pv 0) (pa_cons (pv 1) pa_nil))))
      (pss_cons (ps_ret (pe_cmpR (op_eqA (K := K) rfl hr.units) (pe_lc (own := [("_law_place", 10)]) (g := gName 10) (by rfl) sc__law_joined_right.nd (pi_seq (K := K) rfl (pv 5)) (blkOk_by (own := [("_law_place", 10)]) (N := N__law_joined_right) (sc := defScope s__law_joined_right) (by decide +kernel)) (fun _ _ _ _ _ => pg_name (i := 10) sc__law_joined_right.nd rfl (Or.inl rfl)) (fun _ _ _ _ _ => pts_nil) (fun _ _ _ _ _ => (pe_m (pv 4) T.cl_Program T.mt_Program_to (PromO.call G_Program_to (hr.mono (by decide)) (passA (E := EF))) (pa_cons (pv 1) (pa_cons (pv 10) pa_nil))))) (pv 5) (nomark _))) pss_nil)))))))), ?_⟩
  exact fn_of2 (F := F__law_joined_right) (envU := fun _ => List.replicate 11 .no) h (fun l_pen_here l_size => rfl) (fun p c l_pen_here l_size => (ss_par (sa_cons (se_cl srl_sp0 (sa_cons se_var (sa_cons se_int sa_nil))) (sa_cons (se_cl srl_sp0 (sa_cons se_var (sa_cons (se_lst (sa_cons (se_str (by decide)) (sa_cons (se_str (by decide)) sa_nil))) sa_nil))) sa_nil)) (fun l_kind16 l_edge16 => (ss_par (sa_cons (se_cl srl_mk0 (sa_cons (se_cl srl_sp0 (sa_cons se_var (sa_cons se_int sa_nil))) (sa_cons (se_cl srl_sp0 (sa_cons se_var (sa_cons se_int sa_nil))) (sa_cons se_int sa_nil)))) (sa_cons (se_cl srl_mk0 (sa_cons (se_cl srl_sp0 (sa_cons se_var (sa_cons se_int sa_nil))) (sa_cons (se_cl srl_sp0 (sa_cons se_var (sa_cons se_int sa_nil))) (sa_cons se_int sa_nil)))) sa_nil)) (fun l_one49 l_other49 => (ss_asg (se_op sr_mod (se_cb srl_int (sa_cons (se_op sr_add se_var (se_callI se_var (sa_cons se_var sa_nil))) sa_nil)) se_int) (fun l_next_kind50 => (ss_asg (se_cl srl_mkR (sa_cons (se_cl (srl_mk fun _ _ => (.cons (.bl _) .nil)) (sa_cons se_var (sa_cons se_var (sa_cons se_var sa_nil)))) (sa_cons (se_cl (srl_mk fun _ _ => (.cons (.bl _) .nil)) (sa_cons se_var (sa_cons se_var (sa_cons se_var sa_nil)))) sa_nil))) (fun l_both60 => (ss_if (fun (w96 : Unit) => [.fz l_pen_here, .fz l_size, .fz l_next_kind50, .fz l_both60, .no, .no, .fz l_kind16, .fz l_edge16, .fz l_one49, .fz l_other49, .no]) (sb_not (sb_tb (se_cl srl_sp0 (sa_cons se_var (sa_cons se_var (sa_cons (se_cl (srl_mk fun _ _ => (.cons (.bl _) .nil)) (sa_cons se_var (sa_cons (se_op (sr_bin srl_sp0) se_var se_var) (sa_cons se_var sa_nil)))) (sa_cons se_var sa_nil))))))) (ss_ret se_bl) (ss_nx (.s (.s (.s (.s (.s (.s (.s (.s (.s (.s (.s .nil)))))))))))) (fun (w96 : Unit) => (ss_asg (se_cl srl_mkR (sa_cons (se_cl (srl_mk fun _ _ => (.cons (.bl _) .nil)) (sa_cons se_var (sa_cons se_var (sa_cons se_var sa_nil)))) (sa_cons (se_cl srl_mk0 (sa_cons se_var (sa_cons se_var (sa_cons se_var (sa_cons se_bl sa_nil))))) sa_nil))) (fun l_back96 => (ss_asg (se_cl srl_sp0 (sa_cons se_var (sa_cons se_var sa_nil))) (fun l_some115 => (ss_ret (se_op sr_eq (se_lc (si_seq se_var) (fun l_place120 => (sc_map (se_mt srl_sp0 se_var (sa_cons se_var (sa_cons se_var sa_nil)))))) se_var)))))))))))))))))
abbrev N_law : List Str := ["_law_script", "_law_pen_here", "_law_turn", "_law_size"]
theorem sc_law : FnScope N_law ["_law_script"] (defScope s_law) := ⟨rfl, rfl, rfl, by decide +kernel, rfl, by decide +kernel, by decide +kernel⟩
def F_law : Tr D :=
  fin (bdF (bd (bd (bd (.ok (.int 6)) fun v1 => (bd (.ok []) fun r2 => .ok (v1 :: r2))) (ul1 rg1)) fun ds => forF (fun (d4 : D) (w3 : Unit) => (bd (bd (bd (.ok .pen) fun v7 => (bd (.ok []) fun r8 => .ok (v7 :: r8))) (ul1 F__law_length)) fun l_size5 => (bdF (W' := Unit) (bd (bd (bd (bd (bd (bd (.ok .pen) fun v11 => (bd (bd (.ok l_size5) fun v9 => (bd (.ok []) fun r10 => .ok (v9 :: r10))) fun r12 => .ok (v11 :: r12))) (ul2 F__law_rounds_right)) asB) fun k => .ok (!k)) fun k => if k = true then .ok true else (bd (bd (bd (bd (bd (.ok .pen) fun v15 => (bd (bd (.ok l_size5) fun v13 => (bd (.ok []) fun r14 => .ok (v13 :: r14))) fun r16 => .ok (v15 :: r16))) (ul2 F__law_late_right)) asB) fun k => .ok (!k)) fun k => if k = true then .ok true else (bd (bd (bd (bd (.ok .pen) fun v19 => (bd (bd (.ok l_size5) fun v17 => (bd (.ok []) fun r18 => .ok (v17 :: r18))) fun r20 => .ok (v19 :: r20))) (ul2 F__law_joined_right)) asB) fun k => .ok (!k)))) fun k => if k = true then (bd (.ok (.bl false)) fun d => .ok (.rt d)) else (.ok (.nx ()))) fun (w21 : Unit) => (.ok (.nx ()))))) ds ()) fun (w3 : Unit) => (bd (.ok (.bl true)) fun d => .ok (.rt d)))
theorem ok_law (F : FnA K d_law fd) (T : Tx K mg) (hyes : Yes F_law) (G__law_pen : PromO P w K mg base CX0 1 (gd "_law_pen" K) [] (spPn K)) (G__law_length : PromO P w K mg base CX0 3 (gd "_law_length" K) [] (spF K Tb (ul1 F__law_length))) (G__law_rounds_right : PromO P w K mg base CX0 10 (gd "_law_rounds_right" K) [] (spF K Tb (ul2 F__law_rounds_right))) (G__law_late_right : PromO P w K mg base CX0 10 (gd "_law_late_right" K) [] (spF K Tb (ul2 F__law_late_right))) (G__law_joined_right : PromO P w K mg base CX0 10 (gd "_law_joined_right" K) [] (spF K Tb (ul2 F__law_joined_right))) : FnOk P w K mg base CX0 11 (d_law.adr K) fd ["_law_script"] (spLaw K Tb) := by
  refine fnO0 F sc_law (fun vs H Q E h => spLaw_len h) (fun cdv A outer s H vs Q E hr h => ?_)
  refine ⟨_, pss_cons (ps_set (i := 1) sc_law.nd rfl (.inl rfl) (pe_g (PromO.call G__law_pen (hr.mono (by decide)) (passA (E := E))) (by rfl) T.g__law_pen T.k__law_pen (pa_cons (pv 0) pa_nil)))
      (pss_cons (ps_for PassesOwn.never rfl (pi_range1 (by rfl) T.f_range (pa_cons pe_int pa_nil)) (pg_name (i := 2) sc_law.nd rfl (.inl rfl))
      (pss_cons (ps_set (i := 3) sc_law.nd rfl (.inl rfl) (pe_g (PromO.call G__law_length (hr.mono (by decide)) (passA (E := EF))) (by rfl) T.g__law_length T.k__law_length (pa_cons (pv 1) pa_nil)))
      (pss_cons (ps_if (PW.pt (pw_or (pt_not (pt_val (pe_g (PromO.call G__law_rounds_right (hr.mono (by decide)) (passA (E := EF))) (by rfl) T.g__law_rounds_right T.k__law_rounds_right (pa_cons (pv 1) (pa_cons (pv 3) pa_nil))))) (pw_or (pt_not (pt_val (pe_g (PromO.call G__law_late_right (hr.mono (by decide)) (passA (E := EF))) (by rfl) T.g__law_late_right T.k__law_late_right (pa_cons (pv 1) (pa_cons (pv 3) pa_nil))))) (pw_or1 (pt_not (pt_val (pe_g (PromO.call G__law_joined_right (hr.mono (by decide)) (passA (E := EF))) (by rfl) T.g__law_joined_right T.k__law_joined_right (pa_cons (pv 1) (pa_cons (pv 3) pa_nil)))))))))
      (pss_cons (ps_ret pe_bl) pss_nil) pss_nil)
      pss_nil)))
      (pss_cons (ps_ret pe_bl) pss_nil)), ?_⟩
  exact law_of (N := N_law) (i := 1) (n := 3) (F := F_law) (envU := fun _ => List.replicate 4 .no) hyes h rfl (by decide) (by decide) rfl (fun p c => (ss_for (fun (w3 : Unit) => [.no, .fz .pen, .no, .no]) (si_rg1 (sa_cons se_int sa_nil)) (.s (.s (.s (.s .nil)))) (fun (d4 : D) (w3 : Unit) => (sx_name (ss_asg (se_cl srl_sp0 (sa_cons se_var sa_nil)) (fun l_size5 => (ss_if (fun (w21 : Unit) => [.no, .fz .pen, .fz d4, .fz l_size5]) (sb_or (sb_not (sb_tb (se_cl srl_sp0 (sa_cons se_var (sa_cons se_var sa_nil))))) (sb_or (sb_not (sb_tb (se_cl srl_sp0 (sa_cons se_var (sa_cons se_var sa_nil))))) (sb_not (sb_tb (se_cl srl_sp0 (sa_cons se_var (sa_cons se_var sa_nil))))))) (ss_ret se_bl) (ss_nx (.s (.s (.s (.s .nil))))) (fun (w21 : Unit) => (ss_nx (.s (.s (.n (.n .nil))))))))))) (fun (w3 : Unit) => (ss_ret se_bl))))
end
end Lw

set_option linter.all false
set_option maxRecDepth 100000
set_option maxHeartbeats 4000000
namespace Lw
open PySem Gp
abbrev N40 : Int := 10000000000000000000000000000000000000000
@[simp] theorem isi_int_int (i : Int) : isi_int (.int i) = some true := rfl
@[simp] theorem isi_bool_int (i : Int) : isi_bool (.int i) = some false := rfl
@[simp] theorem isi_bool_bl (i : Bool) : isi_bool (.bl i) = some true := rfl
@[simp] theorem isi_str_str (i : Str) : isi_str (.str i) = some true := rfl
theorem q_is_integer (i : Int) : F_is_integer (.int i) = .ok (.bl true) := by simp [F_is_integer]
theorem q_is_within (i a b : Int) : F_is_within (.int i) (.int a) (.int b) = .ok (.bl (decide (a ≤ i ∧ i ≤ b))) := by
  simp only [F_is_within, s_bd, s_ul1, q_is_integer, s_asB, if_true, s_le, s_finr]
  by_cases h : a ≤ i <;> simp [h]
theorem q_need_length {n : Int} (h : 1 ≤ n ∧ n ≤ N40) : F_need_length (.int n) = .ok .non := by
  simp [F_need_length, F_is_length, q_is_within, h]
theorem q_need_place {n p : Int} (h : 1 ≤ n ∧ n ≤ N40) (hp : 0 ≤ p ∧ p < n) : F_need_place (.int n) (.int p) = .ok .non := by
  have e : 0 ≤ p ∧ p ≤ n - 1 := by omega
  simp [F_need_place, q_need_length h, q_is_within, e]
theorem q_seat_at {n p : Int} (h : 1 ≤ n) : F_seat_at (.int n) (.int p) = .ok (.int (seatZ n p)) := by
  have e : 0 < n := by omega
  simp only [F_seat_at, s_bd, s_mod2, s_eq, s_asB, s_div2, s_add, s_sub, s_mod e]
  unfold seatZ
  by_cases hp : p % 2 = 0 <;> simp [hp]
theorem q_place_at {n s : Int} (h0 : 0 ≤ s) (h1 : s < n) : F_place_at (.int n) (.int s) = .ok (.int (placeZ n s)) := by
  simp only [F_place_at, s_bd, s_mul (i := 2) (.inl (by decide)), s_lt, s_asB, s_sub]
  unfold placeZ
  by_cases hp : 2 * s < n <;> simp [hp]
theorem q_seat_behind {n k c s : Int} (h : 1 ≤ n) : F_seat_behind (.int n) (.int k) (.int c) (.int s) = .ok (.int (behZ n k c s)) := by
  have e : 0 < n := by omega
  simp only [F_seat_behind, s_bd, s_mod2, s_eq, s_asB, s_div2, s_add, s_sub, s_mod e, s_neg]
  unfold behZ
  by_cases hc : c % 2 = 0 <;> by_cases hk : k = 0 <;> simp [hc, hk]
/-! spans -/
def spanD (h m o : Int) : D := .obj "Span" [("own_parts", .tup [.int h, .int m, .int o])]
def spOk (h m o : Int) : Prop := (0 ≤ h ∧ h ≤ 8) ∧ (-60 ≤ m ∧ m ≤ 60) ∧ (-9 ≤ o ∧ o ≤ 9)
theorem q_span {h m o : Int} (k : spOk h m o) : F_Span___init__ [] (.int h) (.int m) (.int o) = .ok [("own_parts", .tup [.int h, .int m, .int o])] := by
  obtain ⟨h1, h2, h3⟩ := k
  simp [F_Span___init__, q_is_within, h1, h2, h3, sizeLine, putD]
theorem q_halves (h m o : Int) : F_Span_halves (spanD h m o) = .ok (.int h) := by simp [F_Span_halves, spanD, fldD, ixD, L2.atI, L2.ixN]
theorem q_more (h m o : Int) : F_Span_more (spanD h m o) = .ok (.int m) := by simp [F_Span_more, spanD, fldD, ixD, L2.atI, L2.ixN]
theorem q_odd (h m o : Int) : F_Span_odd (spanD h m o) = .ok (.int o) := by simp [F_Span_odd, spanD, fldD, ixD, L2.atI, L2.ixN]
def numZ (h m o n : Int) : Int := h * (n / 2) + o * (n % 2) + m
@[simp] theorem isO_span {α : Type} (h m o : Int) (k : Fs → Tr α) : isO "Span" (spanD h m o) k = k [("own_parts", .tup [.int h, .int m, .int o])] := s_isO _ _ _
theorem q_number_at {h m o n : Int} (k : spOk h m o) : F_Span_number_at (spanD h m o) (.int n) = .ok (.int (numZ h m o n)) := by
  obtain ⟨h1, h2, h3⟩ := k
  have e1 : (-(2 ^ 64) < h ∧ h < 2 ^ 64) ∨ (-(2 ^ 64) < n / 2 ∧ n / 2 < 2 ^ 64) := .inl (by omega)
  have e2 : (-(2 ^ 64) < o ∧ o < 2 ^ 64) ∨ (-(2 ^ 64) < n % 2 ∧ n % 2 < 2 ^ 64) := .inl (by omega)
  simp [F_Span_number_at, q_halves, q_more, q_odd, s_mul e1, s_mul e2, numZ]
theorem q_span_call {h m o n : Int} (k : spOk h m o) (hn : 1 ≤ n ∧ n ≤ N40) : F_Span___call__ (spanD h m o) (.int n) = .ok (.int (numZ h m o n)) := by
  have e : ([("own_parts", .tup [.int h, .int m, .int o])] : Fs).lookup ("number_at" : Str) = none := rfl
  simp [F_Span___call__, q_need_length hn, q_number_at k, e]
@[simp] theorem isi_Span_span (h m o : Int) : isi_Span (spanD h m o) = some true := rfl
theorem q_add {h m o h' m' o' : Int} (k : spOk (h + h') (m + m') (o + o')) : F_Span___add__ (spanD h m o) (spanD h' m' o') = .ok (spanD (h + h') (m + m') (o + o')) := by
  have e1 : ∀ x : Int, (-(2 ^ 64) < (1 : Int) ∧ (1 : Int) < 2 ^ 64) ∨ (-(2 ^ 64) < x ∧ x < 2 ^ 64) := fun x => .inl (by decide)
  simp [F_Span___add__, F_Span_plus, q_halves, q_more, q_odd, s_mul (e1 _), q_span k, List.lookup]
  rfl
/-! stretches -/
def stfs (f : Int) (sp : D) (sd : Str) (late : Bool) : Fs := [("side", .str sd), ("first", .int f), ("span", sp), ("late", .bl late)]
def strD (f : Int) (sp : D) (sd : Str) (late : Bool) : D := .obj "Stretch" (stfs f sp sd late)
theorem q_stretch {f h m o : Int} {sd : Str} {late : Bool} (hf : f = 0 ∨ f = 1) (hs : sd = "front" ∨ sd = "back") : F_Stretch___init__ [] (.int f) (spanD h m o) (.str sd) (.bl late) = .ok (stfs f (spanD h m o) sd late) := by
  have e : 0 ≤ f ∧ f ≤ 1 := by omega
  have e2 : notinD (.str sd) (.tup [.str "front", .str "back"]) = .ok (.bl false) := by
    rcases hs with rfl | rfl <;> rfl
  simp [F_Stretch___init__, q_is_within, e, e2, F_Sided___init___at_Stretch, stfs]
  rfl
@[simp] theorem isO_str {α : Type} (f : Int) (sp : D) (sd : Str) (late : Bool) (k : Fs → Tr α) : isO "Stretch" (strD f sp sd late) k = k (stfs f sp sd late) := s_isO _ _ _
def cntZ (h m o n : Int) : Int := if 0 < numZ h m o n then numZ h m o n else 0
theorem q_changes {f h m o n : Int} {sd : Str} {late : Bool} (k : spOk h m o) (hn : 1 ≤ n ∧ n ≤ N40) : F_Stretch_changes (strD f (spanD h m o) sd late) (.int n) = .ok (.int (cntZ h m o n)) := by
  have e : (stfs f (spanD h m o) sd late).lookup ("span" : Str) = some (spanD h m o) := rfl
  simp only [F_Stretch_changes, s_bd, s_ul1, s_ul2, q_need_length hn, isO_str, e, isO_span, q_span_call k hn, s_gt, s_asB]
  unfold cntZ
  by_cases hp : 0 < numZ h m o n <;> simp [hp]
def begZ (f c : Int) (late : Bool) : Int := if late = true ∧ c % 2 = 0 then 1 - f else f
theorem fld_late (f : Int) (sp : D) (sd : Str) (late : Bool) : fldD "Stretch" "late" (strD f sp sd late) = .ok (.bl late) := rfl
theorem fld_first (f : Int) (sp : D) (sd : Str) (late : Bool) : fldD "Stretch" "first" (strD f sp sd late) = .ok (.int f) := rfl
theorem fld_side (f : Int) (sp : D) (sd : Str) (late : Bool) : fldD "Stretch" "side" (strD f sp sd late) = .ok (.str sd) := rfl
theorem fld_span (f : Int) (sp : D) (sd : Str) (late : Bool) : fldD "Stretch" "span" (strD f sp sd late) = .ok sp := rfl
theorem q_begin {f c : Int} {sp : D} {sd : Str} {late : Bool} : F_Stretch_begin (strD f sp sd late) (.int c) = .ok (.int (begZ f c late)) := by
  simp only [F_Stretch_begin, s_bd, fld_late, fld_first, s_asB, s_mod2, s_eq, s_sub]
  unfold begZ
  cases late
  · simp
  · by_cases hc : c % 2 = 0 <;> simp [hc]
def kindZ (f c n : Int) (sd : Str) (late : Bool) : Int := if sd = "back" ∧ n % 2 = 1 then 1 - begZ f c late else begZ f c late
def toZ (f h m o : Int) (sd : Str) (late : Bool) (n p : Int) : Int := placeZ n (behZ n (kindZ f (cntZ h m o n) n sd late) (cntZ h m o n) (seatZ n p))
theorem q_to {f h m o n p : Int} {sd : Str} {late : Bool} (k : spOk h m o) (hn : 1 ≤ n ∧ n ≤ N40) (hp : 0 ≤ p ∧ p < n) : F_Stretch_to (strD f (spanD h m o) sd late) (.int n) (.int p) = .ok (.int (toZ f h m o sd late n p)) := by
  have e1 : (stfs f (spanD h m o) sd late).lookup ("changes" : Str) = none := rfl
  have e2 : (stfs f (spanD h m o) sd late).lookup ("begin" : Str) = none := rfl
  have e3 : ∀ kind c s, F_place_at (.int n) (.int (behZ n kind c s)) = .ok (.int (placeZ n (behZ n kind c s))) := fun kind c s => q_place_at (behZ_rng (by omega)).1 (behZ_rng (by omega)).2
  simp only [F_Stretch_to, s_bd, s_ul1, s_ul2, s_ul3, s_ul4, q_need_place hn hp, isO_str, e1, e2, if_true, q_changes k hn, q_begin, fld_side, s_eqs, s_asB, s_mod2, s_eq, s_sub, q_seat_at hn.1]
  unfold toZ kindZ
  by_cases h1 : sd = "back" <;> by_cases h2 : n % 2 = 1 <;> simp [h1, h2, q_seat_behind hn.1, e3]
theorem toZ_rng {f h m o n p : Int} {sd : Str} {late : Bool} (hn : 1 ≤ n) : 0 ≤ toZ f h m o sd late n p ∧ toZ f h m o sd late n p < n :=
  placeZ_rng (behZ_rng (by omega)).1 (behZ_rng (by omega)).2
end Lw

set_option linter.all false
set_option maxRecDepth 100000
set_option maxHeartbeats 400000
namespace Lw
open PySem Gp
/-! programs of two stretches -/
def wtZ (h m o : Int) : Int := 1 + h + (if m < 0 then -m else m) + (if o < 0 then -o else o)
theorem q_weight {f h m o : Int} {sd : Str} {late : Bool} : F_Stretch_weight (strD f (spanD h m o) sd late) = .ok (.int (wtZ h m o)) := by
  simp [F_Stretch_weight, fld_span, q_halves, q_more, q_odd, wtZ]
def progD (steps : List D) : D := .obj "Program" [("steps", .tup steps)]
def isStr (d : D) : Prop := ∃ f h m o sd late, d = strD f (spanD h m o) sd late
theorem isi_Step_str (f : Int) (sp : D) (sd : Str) (late : Bool) : isi_Step (strD f sp sd late) = some true := rfl
theorem isi_Span_span' (h m o : Int) : isi_Span (spanD h m o) = some true := rfl
section
variable {f1 h1 m1 o1 f2 h2 m2 o2 : Int} {sd1 sd2 : Str} {l1 l2 : Bool}
theorem q_need_steps : F_need_steps (.tup [strD f1 (spanD h1 m1 o1) sd1 l1, strD f2 (spanD h2 m2 o2) sd2 l2]) = .ok .non := by
  simp [F_need_steps, enD, forF_cons, forF_nil, un2, isi_Step_str]
theorem fld_steps (ss : List D) : fldD "Program" "steps" (progD ss) = .ok (.tup ss) := rfl
theorem fld_steps' (ss : List D) : fldD "Program" "steps" (.obj "Program" [("steps", .tup ss)]) = .ok (.tup ss) := rfl
theorem q_prog (w : wtZ h1 m1 o1 + wtZ h2 m2 o2 ≤ 80) : F_Program___init__ [] (.tup [strD f1 (spanD h1 m1 o1) sd1 l1, strD f2 (spanD h2 m2 o2) sd2 l2]) = .ok [("steps", .tup [strD f1 (spanD h1 m1 o1) sd1 l1, strD f2 (spanD h2 m2 o2) sd2 l2])] := by
  have e : ¬ 80 < wtZ h1 m1 o1 + wtZ h2 m2 o2 := by omega
  simp [F_Program___init__, q_need_steps, F_Holder___init___at_Program, putD, F_Program_said, F_Program_done, F_Program_weight, F_Program_deep, F_deepest, fld_steps', lcF_cons, lcF_nil, F_Step_said_at_Stretch, F_Step_done_at_Stretch, F_Step_deep_at_Stretch, q_weight, forF_cons, forF_nil, F_need_size, sumD, lsI, intsD, plD, e]
theorem q_prog_to {n p : Int} (k1 : spOk h1 m1 o1) (k2 : spOk h2 m2 o2) (hn : 1 ≤ n ∧ n ≤ N40) (hp : 0 ≤ p ∧ p < n) :
    F_Program_to (progD [strD f1 (spanD h1 m1 o1) sd1 l1, strD f2 (spanD h2 m2 o2) sd2 l2]) (.int n) (.int p) = .ok (.int (toZ f2 h2 m2 o2 sd2 l2 n (toZ f1 h1 m1 o1 sd1 l1 n p))) := by
  have e1 : ∀ f sp sd late, (stfs f sp sd late).lookup ("to" : Str) = none := fun _ _ _ _ => rfl
  simp [F_Program_to, q_need_place hn hp, fld_steps, forF_cons, forF_nil, e1, q_to k1 hn hp, q_to k2 hn (toZ_rng hn.1)]
end
/-! the law's own -/
@[simp] theorem s_draw (m : Int) : F_draw .pen (.int m) = .draw m fun d => .ok (.int d) := rfl
theorem q_pick (ds : List D) : F__law_pick .pen (.lst ds) = .draw ds.length fun i => ixD (.lst ds) (.int i) := by
  simp [F__law_pick]
theorem b_pick {P : D → Prop} {ds : List D} (h0 : 0 < ds.length) (h1 : ds.length ≤ 100000) (h : ∀ d ∈ ds, P d) : Bo P (F__law_pick .pen (.lst ds)) 1 := by
  rw [q_pick]
  exact bo_pick h0 h1 h
theorem s_lst (ds : List D) (h : ds.length ≤ sizeLine) : (if ds.length ≤ sizeLine then Tr.ok (D.lst ds) else .bad) = .ok (.lst ds) := if_pos h
theorem b_length : Bo (fun d => ∃ n : Int, d = .int n ∧ 1 ≤ n ∧ n ≤ N40) (F__law_length .pen) 4 := by
  simp only [F__law_length, s_bd, s_ul2, s_draw, s_bdd, s_sub, s_find]
  refine bo_draw (by decide) (by decide) fun d1 a1 c1 => bo_draw (by decide) (by decide) fun d2 a2 c2 => bo_draw (by decide) (by decide) fun d3 a3 c3 => ?_
  simp only [s_lst _ (show ([.int d1, .int d2, .int d3, .int (10000000000000000000000000000000000000000 - 1)] : List D).length ≤ sizeLine by simp [sizeLine]), s_bd, s_ul2]
  rw [s_fin_id]
  refine Bo.bd (a := 1) (b := 0) (P := fun d => ∃ n : Int, d = .int n ∧ 0 ≤ n ∧ n < N40) (b_pick (by simp) (by simp) fun d hd => ?_) fun x hx => ?_
  · simp only [List.mem_cons, List.mem_nil_iff, or_false] at hd
    rcases hd with rfl | rfl | rfl | rfl
    · exact ⟨_, rfl, by omega, by simp only [N40]; omega⟩
    · exact ⟨_, rfl, by omega, by simp only [N40]; omega⟩
    · exact ⟨_, rfl, by omega, by simp only [N40]; omega⟩
    · exact ⟨_, rfl, by decide, by decide⟩
  · obtain ⟨n, rfl, h0, h1⟩ := hx
    exact ⟨1 + n, rfl, by omega, by omega⟩
theorem b_places {n : Int} (hn : 1 ≤ n ∧ n ≤ N40) : Bo (fun d => ∃ ps : List Int, d = .lst (ps.map .int) ∧ ∀ p ∈ ps, 0 ≤ p ∧ p < n) (F__law_places .pen (.int n)) 2 := by
  by_cases h : n ≤ 12
  · have e : rgOk 0 n := by unfold rgOk; omega
    simp only [F__law_places, s_bd, s_le, s_asB, h, decide_true, if_true, rgA1, e, s_bdFr, s_finr, rgD_map]
    refine ⟨_, rfl, fun p hp => ?_⟩
    obtain ⟨i, hi, rfl⟩ := List.mem_map.mp hp
    have := List.mem_range.mp hi
    omega
  · simp only [F__law_places, s_bd, s_le, s_asB, h, decide_false, Bool.false_eq_true, if_false, s_bdF, s_ul2, s_draw, s_bdd, s_sub, s_div2, s_add, s_find]
    have hN : n ≤ 10000000000000000000000000000000000000000 := hn.2
    refine bo_draw (by decide) (by decide) fun d1 a1 c1 => bo_draw (by omega) (by omega) fun d2 a2 c2 => ?_
    simp only [s_lst _ (show ([.int d1, .int (n - 1 - d1), .int (n / 2 + d1 - 3), .int d2] : List D).length ≤ sizeLine by simp [sizeLine]), s_bd, s_finr]
    refine ⟨[d1, n - 1 - d1, n / 2 + d1 - 3, d2], rfl, fun p hp => ?_⟩
    simp only [List.mem_cons, List.mem_nil_iff, or_false] at hp
    rcases hp with rfl | rfl | rfl | rfl <;> omega
theorem lc_to {f : D → Tr (Option D)} {g : Int → Int} : ∀ {ps : List Int}, (∀ p ∈ ps, f (.int p) = .ok (some (.int (g p)))) → lcF f (ps.map D.int) = .ok ((ps.map g).map D.int)
  | [], _ => rfl
  | p :: r, h => by
    rw [List.map_cons, lcF_cons, h p List.mem_cons_self, s_bd, lc_to fun x hx => h x (List.mem_cons_of_mem _ hx)]
    rfl
theorem b_alike {one : D} {f h m o n : Int} {sd : Str} {late : Bool} {g : Int → Int} (k : spOk h m o) (hn : 1 ≤ n ∧ n ≤ N40)
    (h1 : (∃ ss, one = progD ss ∧ ∀ p, 0 ≤ p → p < n → F_Program_to one (.int n) (.int p) = .ok (.int (g p))) ∨ (∃ f sp sd late, one = strD f sp sd late ∧ ∀ p, 0 ≤ p → p < n → F_Stretch_to one (.int n) (.int p) = .ok (.int (g p))))
    (h2 : ∀ p, 0 ≤ p → p < n → g p = toZ f h m o sd late n p) : Bo (fun d => d = .bl true) (F__law_moves_alike .pen one (strD f (spanD h m o) sd late) (.int n)) 2 := by
  unfold F__law_moves_alike
  simp only [s_bd, s_ul2, s_finbd, s_bdbd]
  have e2 : (stfs f (spanD h m o) sd late).lookup ("to" : Str) = none := rfl
  refine Bo.bd (a := 2) (b := 0) (b_places hn) fun x hx => ?_
  obtain ⟨ps, rfl, hps⟩ := hx
  simp only [s_itl, s_bd, isO_str, e2, if_true, s_ul3]
  have a2 : lcF (fun d => nox (bd (F_Stretch_to (strD f (spanD h m o) sd late) (.int n) d) fun y => .ok (some y))) (ps.map D.int) = .ok ((ps.map g).map D.int) := lc_to fun p hp => by
    rw [q_to k hn (hps p hp), ← h2 p (hps p hp).1 (hps p hp).2]; rfl
  rw [a2]
  rcases h1 with ⟨ss, rfl, hF⟩ | ⟨f', sp', sd', late', rfl, hF⟩
  · have a1 : lcF (fun d => nox (bd (F_Program_to (progD ss) (.int n) d) fun y => .ok (some y))) (ps.map D.int) = .ok ((ps.map g).map D.int) := lc_to fun p hp => by
      rw [hF p (hps p hp).1 (hps p hp).2]; rfl
    have e3 : ∀ k : Fs → Tr D, isO "Program" (progD ss) k = k [("steps", .tup ss)] := fun k => s_isO _ _ _
    have e4 : ([("steps", .tup ss)] : Fs).lookup ("to" : Str) = none := rfl
    have e5 : isC "Program" (progD ss) = true := rfl
    simp only [e5, if_true, e3, e4, a1, s_bd, s_eq_ints, s_finr]
    exact bo_ok (by simp)
  · have a1 : lcF (fun d => nox (bd (F_Stretch_to (strD f' sp' sd' late') (.int n) d) fun y => .ok (some y))) (ps.map D.int) = .ok ((ps.map g).map D.int) := lc_to fun p hp => by
      rw [hF p (hps p hp).1 (hps p hp).2]; rfl
    have e5 : isC "Program" (strD f' sp' sd' late') = false := rfl
    have e4 : (stfs f' sp' sd' late').lookup ("to" : Str) = none := rfl
    simp only [e5, Bool.false_eq_true, if_false, isO_str, e4, if_true, a1, s_bd, s_eq_ints, s_finr]
    exact bo_ok (by simp)
theorem fold_span (h m o : Int) : D.obj "Span" [("own_parts", .tup [.int h, .int m, .int o])] = spanD h m o := rfl
theorem fold_str (f : Int) (sp : D) (sd : Str) (late : Bool) : D.obj "Stretch" (stfs f sp sd late) = strD f sp sd late := rfl
theorem kind01 {f c n : Int} {sd : Str} {late : Bool} (hf : f = 0 ∨ f = 1) : kindZ f c n sd late = 0 ∨ kindZ f c n sd late = 1 := by
  unfold kindZ begZ
  split <;> split <;> omega
theorem cnt_half {n : Int} (hn : 1 ≤ n) : cntZ 2 0 1 n = n := by
  unfold cntZ numZ
  split <;> omega
theorem cnt_whole {n : Int} (hn : 1 ≤ n) : cntZ 4 0 2 n = 2 * n := by
  unfold cntZ numZ
  split <;> omega
theorem half_to {f n p : Int} {sd : Str} {late : Bool} (hn : 1 ≤ n) (p0 : 0 ≤ p) (p1 : p < n) (hf : f = 0 ∨ f = 1) : toZ f 2 0 1 sd late n p = n - 1 - p := by
  unfold toZ
  rw [cnt_half hn, beh_half p0 p1 (kind01 hf), place_seat (by omega) (by omega)]
theorem whole_to {f n p : Int} {sd : Str} {late : Bool} (hn : 1 ≤ n) (p0 : 0 ≤ p) (p1 : p < n) : toZ f 4 0 2 sd late n p = p := by
  have := seatZ_rng p0 p1
  unfold toZ
  rw [cnt_whole hn, beh_whole this.1 this.2, place_seat p0 p1]
theorem b_side : Bo (fun d => ∃ sd : Str, d = .str sd ∧ (sd = "front" ∨ sd = "back")) (F__law_pick .pen (.lst [.str "front", .str "back"])) 1 :=
  b_pick (by simp) (by simp) fun d hd => by
    simp only [List.mem_cons, List.mem_nil_iff, or_false] at hd
    rcases hd with rfl | rfl
    · exact ⟨_, rfl, .inl rfl⟩
    · exact ⟨_, rfl, .inr rfl⟩
theorem b_rounds {n : Int} (hn : 1 ≤ n ∧ n ≤ N40) : Bo (fun d => d = .bl true) (F__law_rounds_right .pen (.int n)) 10 := by
  have hN : n ≤ 10000000000000000000000000000000000000000 := hn.2
  unfold F__law_rounds_right
  simp only [s_bd, s_ul2, s_ul3, s_ul4, s_draw, s_bdd, s_find, s_finbd, s_bdbd, s_bdFbd, s_bdFd, s_eq]
  refine bo_draw (n := 9) (by decide) (by decide) fun f f0 f1 => ?_
  have hf : f = 0 ∨ f = 1 := by omega
  simp only [s_lst _ (show ([.str "front", .str "back"] : List D).length ≤ sizeLine by simp [sizeLine]), s_bd, s_ul2]
  refine Bo.bd (a := 1) (b := 8) b_side fun x hx => ?_
  obtain ⟨sd, rfl, hs⟩ := hx
  refine bo_draw (n := 7) (by decide) (by decide) fun l l0 l1 => ?_
  generalize hl : decide (l = 0) = late
  have k1 : spOk 2 0 1 := by unfold spOk; omega
  have k2 : spOk 4 0 2 := by unfold spOk; omega
  simp only [s_bd, q_span k1, q_span k2, fold_span, q_stretch hf hs, fold_str]
  refine Bo.bd (a := 2) (b := 5) (b_places hn) fun x hx => ?_
  obtain ⟨ps, rfl, hps⟩ := hx
  simp only [s_itl, s_bd, s_finbd, bdF, s_bdbd]
  have e1 : ∀ f sp sd late, (stfs f sp sd late).lookup ("to" : Str) = none := fun _ _ _ _ => rfl
  have h1 : ∀ p, 0 ≤ p → p < n → toZ f 2 0 1 sd late n p = n - 1 - p := fun p p0 p1 => half_to hn.1 p0 p1 hf
  have h2 : ∀ p, 0 ≤ p → p < n → toZ f 4 0 2 sd late n p = p := fun p p0 p1 => whole_to hn.1 p0 p1
  rw [forF_unit (fun d hd => ?_)]
  · simp only [s_bdd, s_bd]
    refine bo_draw (n := 4) (by decide) (by decide) fun m m0 m1 => ?_
    have k3 : spOk 4 m 2 := by unfold spOk; omega
    have k4 : spOk 0 m 0 := by unfold spOk; omega
    simp only [s_bd, q_span k3, fold_span, q_stretch hf hs, fold_str, List.cons_append, List.nil_append, s_ul3, q_span k4]
    simp only [s_bdbd]
    refine Bo.bd (a := 2) (b := 2) (b_alike (g := toZ f 4 m 2 sd late n) k4 hn (.inr ⟨_, _, _, _, rfl, fun p p0 p1 => q_to k3 hn ⟨p0, p1⟩⟩) fun p p0 p1 => ?_) fun x hx => by subst hx; exact bo_ok rfl
    have e : cntZ 4 m 2 n = 2 * n + cntZ 0 m 0 n := by
      unfold cntZ numZ
      split <;> split <;> omega
    have e2 : ∀ x : Int, (2 * n + x) % 2 = x % 2 := fun x => by omega
    unfold toZ kindZ begZ
    rw [e, beh_more, e2]
  · obtain ⟨q, hq, rfl⟩ := List.mem_map.mp hd
    have hq0 := hps q hq
    simp only [isO_str, e1, if_true, q_to k1 hn hq0, q_to k2 hn hq0, s_bd, s_sub, s_ne, h1 q hq0.1 hq0.2, h2 q hq0.1 hq0.2, s_asB, decide_true, Bool.not_true, Bool.false_eq_true, if_false]
theorem b_late {n : Int} (hn : 1 ≤ n ∧ n ≤ N40) : Bo (fun d => d = .bl true) (F__law_late_right .pen (.int n)) 10 := by
  unfold F__law_late_right
  simp only [s_bd, s_ul2, s_ul3, s_ul4, s_draw, s_bdd, s_find, s_finbd, s_bdbd, s_bdFbd, s_bdFd, s_eq]
  refine bo_draw (n := 9) (by decide) (by decide) fun f f0 f1 => ?_
  have hf : f = 0 ∨ f = 1 := by omega
  simp only [s_lst _ (show ([.str "front", .str "back"] : List D).length ≤ sizeLine by simp [sizeLine]), s_bd, s_ul2]
  refine Bo.bd (a := 1) (b := 8) b_side fun x hx => ?_
  obtain ⟨sd, rfl, hs⟩ := hx
  refine bo_draw (n := 7) (by decide) (by decide) fun h h0 h1 => bo_draw (n := 6) (by decide) (by decide) fun m m0 m1 => bo_draw (n := 5) (by decide) (by decide) fun o o0 o1 => ?_
  have k1 : spOk h m o := by unfold spOk; omega
  simp only [s_bd, q_span k1, fold_span, isO_span, q_span_call k1 hn, q_stretch hf hs, fold_str]
  have m2 : (f + numZ h m o n + 1) % 2 = 0 ∨ (f + numZ h m o n + 1) % 2 = 1 := by omega
  have cn : 0 ≤ numZ h m o n := by
    have e : 0 ≤ h * (n / 2) := Int.mul_nonneg h0 (by omega)
    have e2 : 0 ≤ o * (n % 2) := Int.mul_nonneg o0 (by omega)
    unfold numZ
    omega
  have cc : cntZ h m o n = numZ h m o n := by
    unfold cntZ
    split <;> omega
  simp only [s_add, s_bd, s_ul1, s_int, s_mod2, List.cons_append, List.nil_append, s_ul4, q_stretch m2 hs, fold_str]
  refine Bo.bd (a := 2) (b := 3) (b_alike (g := toZ f h m o sd true n) k1 hn (.inr ⟨_, _, _, _, rfl, fun p p0 p1 => q_to k1 hn ⟨p0, p1⟩⟩) fun p p0 p1 => ?_) fun x hx => ?_
  · have e : begZ f (numZ h m o n) true = begZ ((f + numZ h m o n + 1) % 2) (numZ h m o n) false := by
      by_cases hh : numZ h m o n % 2 = 0 <;> simp [begZ, hh] <;> omega
    unfold toZ kindZ
    rw [cc, e]
  · subst hx
    simp only [s_asB, s_bd, Bool.not_true, Bool.false_eq_true, if_false, s_bdF, s_eq, s_sub, s_finbd, s_eqs, s_bdbd]
    generalize hd2 : (if n % 2 = 0 then f else 1 - f) = f2
    have hf2 : f2 = 0 ∨ f2 = 1 := by
      rw [← hd2]
      split <;> omega
    generalize hs2 : (if sd = "front" then ("back" : Str) else "front") = sd2
    have hs3 : sd2 = "front" ∨ sd2 = "back" := by
      rw [← hs2]
      split
      · exact .inr rfl
      · exact .inl rfl
    have e3 : (if decide (n % 2 = 0) = true then Tr.ok (D.int f) else .ok (.int (1 - f))) = .ok (.int f2) := by
      rw [← hd2]
      by_cases hh : n % 2 = 0 <;> simp [hh]
    have e4 : ∀ k : D → Tr D, bd (intD (.bl (decide (sd = "front")))) (fun a => bd (ixD (.lst [.str "front", .str "back"]) a) k) = k (.str sd2) := fun k => by
      rw [← hs2]
      rcases hs with rfl | rfl <;> rfl
    rw [e3]
    simp only [s_bd, e4, q_stretch hf2 hs3, q_stretch hf hs, fold_str, s_finr]
    rw [s_bdok]
    refine Bo.mono (n := 2) (fun _ z => z) (by decide) (b_alike (g := toZ f h m o sd false n) k1 hn (.inr ⟨_, _, _, _, rfl, fun p p0 p1 => q_to k1 hn ⟨p0, p1⟩⟩) fun p p0 p1 => ?_)
    have e : kindZ f (cntZ h m o n) n sd false = kindZ f2 (cntZ h m o n) n sd2 false := by
      have nb : ("front" : Str) ≠ "back" := by decide
      rcases hs with rfl | rfl
      · rw [if_pos rfl] at hs2
        subst hs2
        by_cases hh : n % 2 = 0 <;> simp [kindZ, begZ, nb, hh, ← hd2] <;> omega
      · rw [if_neg nb.symm] at hs2
        subst hs2
        by_cases hh : n % 2 = 0 <;> simp [kindZ, begZ, nb, hh, ← hd2] <;> omega
    unfold toZ
    rw [e]
theorem b_joined {n : Int} (hn : 1 ≤ n ∧ n ≤ N40) : Bo (fun d => d = .bl true) (F__law_joined_right .pen (.int n)) 10 := by
  unfold F__law_joined_right
  simp only [s_bd, s_ul2, s_ul3, s_ul4, s_draw, s_bdd, s_find, s_finbd, s_bdbd, s_bdFbd, s_bdFd, s_eq]
  refine bo_draw (n := 9) (by decide) (by decide) fun f f0 f1 => ?_
  have hf : f = 0 ∨ f = 1 := by omega
  simp only [s_lst _ (show ([.str "front", .str "back"] : List D).length ≤ sizeLine by simp [sizeLine]), s_bd, s_ul2]
  refine Bo.bd (a := 1) (b := 8) b_side fun x hx => ?_
  obtain ⟨sd, rfl, hs⟩ := hx
  refine bo_draw (n := 7) (by decide) (by decide) fun h h0 h1 => bo_draw (n := 6) (by decide) (by decide) fun m m0 m1 => ?_
  have k1 : spOk h m 0 := by unfold spOk; omega
  simp only [s_bd, q_span k1, fold_span]
  refine bo_draw (n := 5) (by decide) (by decide) fun h' h0' h1' => bo_draw (n := 4) (by decide) (by decide) fun m' m0' m1' => ?_
  have k2 : spOk h' m' 1 := by unfold spOk; omega
  simp only [s_bd, q_span k2, fold_span, s_ul2, isO_span, q_span_call k1 hn]
  have m2 : (f + numZ h m 0 n) % 2 = 0 ∨ (f + numZ h m 0 n) % 2 = 1 := by omega
  have c0 : ∀ {h m o : Int}, 0 ≤ h → 0 ≤ m → 0 ≤ o → cntZ h m o n = numZ h m o n := fun {h m o} h0 m0 o0 => by
    have e : 0 ≤ h * (n / 2) := Int.mul_nonneg h0 (by omega)
    have e2 : 0 ≤ o * (n % 2) := Int.mul_nonneg o0 (by omega)
    unfold cntZ numZ
    split <;> omega
  have k3 : spOk (h + h') (m + m') (0 + 1) := by unfold spOk; omega
  have w1 : wtZ h m 0 + wtZ h' m' 1 ≤ 80 := by unfold wtZ; repeat' split <;> omega
  have w2 : wtZ h m 0 + wtZ h m 0 ≤ 80 := by unfold wtZ; repeat' split <;> omega
  have e0 : ∀ (x y : D) (k : List D → Tr D), stD 0 [x, y] k = k [.tup [x, y]] := fun x y k => if_pos ⟨Nat.zero_le _, by simp [sizeLine]⟩
  have fp : ∀ ss, D.obj "Program" [("steps", .tup ss)] = progD ss := fun _ => rfl
  have eb : binO "Span" (ul2 F_Span___add__) (spanD h m 0) (spanD h' m' 1) = .ok (spanD (h + h') (m + m') (0 + 1)) := by
    simp only [binO, isO_span, s_ul2, q_add k3]
  have e1 : ∀ ss, ([("steps", .tup ss)] : Fs).lookup ("to" : Str) = none := fun _ => rfl
  have e3 : ∀ (ss : List D) (k : Fs → Tr D), isO "Program" (progD ss) k = k [("steps", .tup ss)] := fun ss k => s_isO _ _ _
  simp only [s_add, s_bd, s_ul1, s_int, s_mod2, List.cons_append, List.nil_append, s_ul4, q_stretch hf hs, q_stretch m2 hs, fold_str, e0, q_prog w1, fp, eb]
  have n3 : numZ (h + h') (m + m') (0 + 1) n = numZ h m 0 n + numZ h' m' 1 n := by
    unfold numZ
    rw [Int.add_mul]
    omega
  have cd : cntZ (h + h') (m + m') (0 + 1) n = cntZ h m 0 n + cntZ h' m' 1 n := by
    rw [c0 (by omega) (by omega) (by omega), c0 h0 m0 (by decide), c0 h0' m0' (by decide), n3]
  have ca : numZ h m 0 n = cntZ h m 0 n := (c0 h0 m0 (by decide)).symm
  refine Bo.bd (a := 2) (b := 2) (b_alike (g := fun p => toZ ((f + numZ h m 0 n) % 2) h' m' 1 sd false n (toZ f h m 0 sd false n p)) k3 hn (.inl ⟨_, rfl, fun p p0 p1 => q_prog_to k1 k2 hn ⟨p0, p1⟩⟩) fun p p0 p1 => ?_) fun x hx => ?_
  · show toZ ((f + numZ h m 0 n) % 2) h' m' 1 sd false n (toZ f h m 0 sd false n p) = toZ f (h + h') (m + m') (0 + 1) sd false n p
    have eb : ∀ f c, begZ f c false = f := fun f c => by simp [begZ]
    unfold toZ
    rw [seat_place (behZ_rng (by omega)).1 (behZ_rng (by omega)).2, cd, ca]
    have ek : kindZ ((f + cntZ h m 0 n) % 2) (cntZ h' m' 1 n) n sd false = (kindZ f (cntZ h m 0 n) n sd false + cntZ h m 0 n) % 2 := by
      unfold kindZ
      rw [eb, eb]
      split <;> omega
    have ek2 : kindZ f (cntZ h m 0 n + cntZ h' m' 1 n) n sd false = kindZ f (cntZ h m 0 n) n sd false := by
      unfold kindZ
      rw [eb, eb]
    rw [ek, ek2, beh_join (kind01 hf)]
  · subst hx
    simp only [s_asB, s_bd, Bool.not_true, Bool.false_eq_true, if_false, s_bdF, s_ul4, q_stretch hf hs, fold_str, e0, s_ul1, q_prog w2, fp, s_finbd, s_bdbd]
    refine Bo.bd (a := 2) (b := 0) (b_places hn) fun x hx => ?_
    obtain ⟨ps, rfl, hps⟩ := hx
    have a1 : lcF (fun d => nox (bd (F_Program_to (progD [strD f (spanD h m 0) sd false, strD f (spanD h m 0) sd true]) (.int n) d) fun y => .ok (some y))) (ps.map D.int) = .ok ((ps.map id).map D.int) := lc_to fun p hp => by
      have hp := hps p hp
      rw [q_prog_to k1 k1 hn hp]
      have e : toZ f h m 0 sd true n (toZ f h m 0 sd false n p) = p := by
        have eb : ∀ f c, begZ f c false = f := fun f c => by simp [begZ]
        have sr := seatZ_rng hp.1 hp.2
        unfold toZ
        rw [seat_place (behZ_rng (by omega)).1 (behZ_rng (by omega)).2]
        have ek : kindZ f (cntZ h m 0 n) n sd true = (kindZ f (cntZ h m 0 n) n sd false + cntZ h m 0 n + 1) % 2 := by
          unfold kindZ
          rw [eb]
          have e2 : begZ f (cntZ h m 0 n) true = (f + cntZ h m 0 n + 1) % 2 := by
            by_cases hh : cntZ h m 0 n % 2 = 0 <;> simp [begZ, hh] <;> omega
          rw [e2]
          split <;> omega
        rw [ek, beh_back (kind01 hf) sr.1 sr.2, place_seat hp.1 hp.2]
      rw [e]
      rfl
    simp only [s_itl, s_bd, e3, e1, if_true, a1, List.map_id, s_eq_ints, s_finr]
    exact bo_ok (by simp)
theorem law_yes : Yes F_law := by
  have e : rg1 (.int 6) = .ok ((List.range 6).map fun i : Nat => D.int (0 + (i : Int))) := rfl
  have one : ∀ {α : Type} (P : α → Prop) (k : α), P k → Bo P (.ok k) 0 := fun P k h => h
  unfold F_law
  simp only [s_bd, s_ul1, s_ul2, e]
  refine Bo.yes (n := 34 * 6) (by decide) ?_
  unfold fin bdF
  rw [bd_bd]
  refine Bo.bd (a := 34 * 6) (b := 0) (P := fun r => r = .nx ()) (bo_for (c := 34) (fun _ _ => True) _ _ trivial (fun w _ => rfl) fun d ds w _ => ?_) fun r hr => by subst hr; exact bo_ok rfl
  refine Bo.bd (a := 4) (b := 30) b_length fun x hx => ?_
  obtain ⟨n, rfl, hn⟩ := hx
  simp only [s_bdbd, s_bd]
  refine Bo.bd (a := 10) (b := 20) (b_rounds hn) fun x hx => ?_
  subst hx
  simp only [s_asB, s_bd, Bool.not_true, Bool.false_eq_true, if_false, s_bdbd]
  refine Bo.bd (a := 10) (b := 10) (b_late hn) fun x hx => ?_
  subst hx
  simp only [s_asB, s_bd, Bool.not_true, Bool.false_eq_true, if_false, s_bdbd]
  refine Bo.bd (a := 10) (b := 0) (b_joined hn) fun x hx => ?_
  subst hx
  simp only [s_asB, s_bd, Bool.not_true, Bool.false_eq_true, if_false]
  exact bo_ok trivial
end Lw

set_option Elab.async false
set_option linter.all false
set_option maxRecDepth 100000
set_option maxHeartbeats 4000000
set_option pp.maxSteps 600
namespace Lw
open PySem PySem.Spec PyProof.Rows L2 Gh Gp
theorem pm_PromO {P : Program} {w : World} {K : PySem.W.Frag} {mg : Str → Option Value} {base : Heap} {CX : CXT} {k : Nat} {f : Addr} {fd : FuncData} {ps : List Str} {sp : Sp} (G : FnOk P w K mg base CX k f fd ps sp) (b : Binds K fd ps []) : PromO P w K mg base CX k f [] sp := ⟨fd, ps, [], G, b, .nil⟩
theorem pm_Prom {P : Program} {w : World} {K : PySem.W.Frag} {mg : Str → Option Value} {base : Heap} {CX : CXT} {k : Nat} {f : Addr} {fd : FuncData} {ps : List Str} {sp : Sp} (G : FnG P w K mg base CX k f fd ps sp) (b : Binds K fd ps []) : Prom P w K mg base CX k f [] sp := ⟨fd, ps, [], G, b, .nil⟩
theorem facts {P : Program} {w : World} {K : PySem.W.Frag} {h : Heap} {mg : Str → Option Value} {f : Addr} (X : K.In h) (G : h.Ns mainGlobals mg) (hfa : mg ("law" : Str) = some (.ref f)) (c2 : Gp.SaysS exs fns tfs sds pfile h K) (gl : (He.Fa.glo "law").ok K = true) (hP : ((P.main.file : Str) == pfile) = true ∧ (P.main.scope.names.lookup ("super" : Str)).isSome = false) :
    ∃ fd : FuncData, (∀ (s : Shared) (v : Value), BindsTo s fd ⟨[v], []⟩ [("_law_script", v)]) ∧ ∀ base : Heap, K.In base → base.Ns mainGlobals mg → FnG P w K mg base CX0 11 f fd ["_law_script"] (spLaw K []) := by
  have c := c2.s.t
  have T : Tx K mg := tx_of X G c
  have e := hfa.symm.trans (He.glo_ok X G gl)
  cases e
  obtain ⟨f0, F0⟩ := c.def_ 0 (d := d__law_pen) rfl
  obtain ⟨f1, F1⟩ := c.def_ 1 (d := d__law_draw) rfl
  obtain ⟨f2, F2⟩ := c.def_ 2 (d := d_is_integer) rfl
  obtain ⟨f3, F3⟩ := c.def_ 3 (d := d_is_within) rfl
  obtain ⟨f4, F4⟩ := c.def_ 4 (d := d_is_length) rfl
  obtain ⟨f5, F5⟩ := c.def_ 5 (d := d_need_length) rfl
  obtain ⟨f6, F6⟩ := c.def_ 6 (d := d_need_place) rfl
  obtain ⟨f7, F7⟩ := c.def_ 7 (d := d_seat_at) rfl
  obtain ⟨f8, F8⟩ := c.def_ 8 (d := d_place_at) rfl
  obtain ⟨f9, F9⟩ := c.def_ 9 (d := d_seat_behind) rfl
  obtain ⟨f10, F10⟩ := c.def_ 10 (d := d_Span___init__) rfl
  obtain ⟨f11, F11⟩ := c.def_ 11 (d := d_Span_halves) rfl
  obtain ⟨f12, F12⟩ := c.def_ 12 (d := d_Span_more) rfl
  obtain ⟨f13, F13⟩ := c.def_ 13 (d := d_Span_odd) rfl
  obtain ⟨f14, F14⟩ := c.def_ 14 (d := d_Span_number_at) rfl
  obtain ⟨f15, F15⟩ := c.def_ 15 (d := d_Span___call__) rfl
  obtain ⟨f16, F16⟩ := c.def_ 16 (d := d_Span_plus) rfl
  obtain ⟨f17, F17⟩ := c.def_ 17 (d := d_Span___add__) rfl
  obtain ⟨f18, F18⟩ := c.def_ 18 (d := d_Sided___init___at_Stretch) rfl
  obtain ⟨f19, F19⟩ := c2.sup_ 0 (d := ds_Stretch___init__) rfl
  obtain ⟨f20, F20⟩ := c.def_ 19 (d := d_Stretch_changes) rfl
  obtain ⟨f21, F21⟩ := c.def_ 20 (d := d_Stretch_begin) rfl
  obtain ⟨f22, F22⟩ := c.def_ 21 (d := d_Stretch_to) rfl
  obtain ⟨f23, F23⟩ := c.def_ 22 (d := d_Step_said_at_Stretch) rfl
  obtain ⟨f24, F24⟩ := c.def_ 23 (d := d_Step_done_at_Stretch) rfl
  obtain ⟨f25, F25⟩ := c.def_ 24 (d := d_Step_deep_at_Stretch) rfl
  obtain ⟨f26, F26⟩ := c.def_ 25 (d := d_Stretch_weight) rfl
  obtain ⟨f27, F27⟩ := c.def_ 26 (d := d_deepest) rfl
  obtain ⟨f28, F28⟩ := c.def_ 27 (d := d_Program_said) rfl
  obtain ⟨f29, F29⟩ := c.def_ 28 (d := d_Program_done) rfl
  obtain ⟨f30, F30⟩ := c.def_ 29 (d := d_Program_weight) rfl
  obtain ⟨f31, F31⟩ := c.def_ 30 (d := d_Program_deep) rfl
  obtain ⟨f32, F32⟩ := c.def_ 31 (d := d_need_steps) rfl
  obtain ⟨f33, F33⟩ := c.def_ 32 (d := d_need_size) rfl
  obtain ⟨f34, F34⟩ := c.def_ 33 (d := d_Holder___init___at_Program) rfl
  obtain ⟨f35, F35⟩ := c2.sup_ 1 (d := ds_Program___init__) rfl
  obtain ⟨f36, F36⟩ := c.def_ 34 (d := d_Program_to) rfl
  obtain ⟨f37, F37⟩ := c.def_ 35 (d := d__law_pick) rfl
  obtain ⟨f38, F38⟩ := c.def_ 36 (d := d__law_length) rfl
  obtain ⟨f39, F39⟩ := c.def_ 37 (d := d__law_places) rfl
  obtain ⟨f40, F40⟩ := c.def_ 38 (d := d__law_moves_alike) rfl
  obtain ⟨f41, F41⟩ := c.def_ 39 (d := d__law_rounds_right) rfl
  obtain ⟨f42, F42⟩ := c.def_ 40 (d := d__law_late_right) rfl
  obtain ⟨f43, F43⟩ := c.def_ 41 (d := d__law_joined_right) rfl
  obtain ⟨f44, F44⟩ := c.def_ 42 (d := d_law) rfl
  have b44 := FunD.bindsA (ps := ["_law_script"]) F44 fun _ _ _ _ _ _ us hl => match us, hl with | [_], _ => rfl
  refine ⟨f44, fun s v => b44 s [v] rfl, fun base _ _ => ?_⟩
  have p0 : PromO P w K mg base CX0 1 (gd "_law_pen" K) [] (spPn K) := pm_PromO (ok__law_pen F0 T ) (F0.bindsN fun _ _ _ _ _ _ us hl => match us, hl with | [_], _ => rfl)
  have p1 : PromO P w K mg base CX0 1 (gd "_law_draw" K) [] (spF K [] (ul2 F_draw)) := pm_PromO (ok__law_draw (Tb := []) F1 T ) (F1.bindsN fun _ _ _ _ _ _ us hl => match us, hl with | [_, _], _ => rfl)
  have p2 : PromO P w K mg base CX0 1 (gd "is_integer" K) [] (spF K [] (ul1 F_is_integer)) := pm_PromO (ok_is_integer (Tb := []) F2 T ) (F2.bindsN fun _ _ _ _ _ _ us hl => match us, hl with | [_], _ => rfl)
  have p3 : PromO P w K mg base CX0 2 (gd "is_within" K) [] (spF K [] (ul3 F_is_within)) := pm_PromO (ok_is_within (Tb := []) F3 T p2) (F3.bindsN fun _ _ _ _ _ _ us hl => match us, hl with | [_, _, _], _ => rfl)
  have p4 : PromO P w K mg base CX0 3 (gd "is_length" K) [] (spF K [] (ul1 F_is_length)) := pm_PromO (ok_is_length (Tb := []) F4 T p3) (F4.bindsN fun _ _ _ _ _ _ us hl => match us, hl with | [_], _ => rfl)
  have p5 : PromO P w K mg base CX0 4 (gd "need_length" K) [] (spF K [] (ul1 F_need_length)) := pm_PromO (ok_need_length (Tb := []) F5 T p4) (F5.bindsN fun _ _ _ _ _ _ us hl => match us, hl with | [_], _ => rfl)
  have p6 : PromO P w K mg base CX0 5 (gd "need_place" K) [] (spF K [] (ul2 F_need_place)) := pm_PromO (ok_need_place (Tb := []) F6 T p5 p3) (F6.bindsN fun _ _ _ _ _ _ us hl => match us, hl with | [_, _], _ => rfl)
  have p7 : PromO P w K mg base CX0 1 (gd "seat_at" K) [] (spF K [] (ul2 F_seat_at)) := pm_PromO (ok_seat_at (Tb := []) F7 T ) (F7.bindsN fun _ _ _ _ _ _ us hl => match us, hl with | [_, _], _ => rfl)
  have p8 : PromO P w K mg base CX0 1 (gd "place_at" K) [] (spF K [] (ul2 F_place_at)) := pm_PromO (ok_place_at (Tb := []) F8 T ) (F8.bindsN fun _ _ _ _ _ _ us hl => match us, hl with | [_, _], _ => rfl)
  have p9 : PromO P w K mg base CX0 1 (gd "seat_behind" K) [] (spF K [] (ul4 F_seat_behind)) := pm_PromO (ok_seat_behind (Tb := []) F9 T ) (F9.bindsN fun _ _ _ _ _ _ us hl => match us, hl with | [_, _, _, _], _ => rfl)
  have p10 : PromO P w K mg base CX0 3 (md "Span" "__init__" K) [] (spI K [] "Span" (fun fs => ul3 (F_Span___init__ fs))) := by
    obtain ⟨ds, hv, hb⟩ := FunD.binds1 (ps := ["self", "halves", "more", "odd"]) F10 4 2 (by intro z; cases z) rfl fun _ _ _ _ _ _ _ us its hu hi => match us, hu, its, hi with | [_, _, _, _], _, [_, _], _ => ⟨_, rfl, rfl⟩
    cases hv
    exact pm_PromO (ok_Span___init__ (Tb := []) F10 T p3) hb
  have pd10_1 : PromO P w K mg base CX0 3 (md "Span" "__init__" K) [V.int 0] (spI K [] "Span" (fun fs => ul3 (F_Span___init__ fs))) := by
    obtain ⟨ds, hv, hb⟩ := FunD.binds1 (ps := ["self", "halves", "more", "odd"]) F10 3 1 (by intro z; cases z) rfl fun _ _ _ _ _ _ _ us its hu hi => match us, hu, its, hi with | [_, _, _], _, [_, _], _ => ⟨_, rfl, rfl⟩
    exact ⟨_, _, ds, (ok_Span___init__ (Tb := []) F10 T p3), hb, hv⟩
  have p11 : PromO P w K mg base CX0 1 (propG "Span" "halves" K) [] (spF K [] (ul1 F_Span_halves)) := pm_PromO (ok_Span_halves (Tb := []) F11 T ) (F11.bindsN fun _ _ _ _ _ _ us hl => match us, hl with | [_], _ => rfl)
  have p12 : PromO P w K mg base CX0 1 (propG "Span" "more" K) [] (spF K [] (ul1 F_Span_more)) := pm_PromO (ok_Span_more (Tb := []) F12 T ) (F12.bindsN fun _ _ _ _ _ _ us hl => match us, hl with | [_], _ => rfl)
  have p13 : PromO P w K mg base CX0 1 (propG "Span" "odd" K) [] (spF K [] (ul1 F_Span_odd)) := pm_PromO (ok_Span_odd (Tb := []) F13 T ) (F13.bindsN fun _ _ _ _ _ _ us hl => match us, hl with | [_], _ => rfl)
  have p14 : PromO P w K mg base CX0 3 (md "Span" "number_at" K) [] (spF K [] (ul2 F_Span_number_at)) := pm_PromO (ok_Span_number_at (Tb := []) F14 T p11 p13 p12) (F14.bindsN fun _ _ _ _ _ _ us hl => match us, hl with | [_, _], _ => rfl)
  have p15 : PromO P w K mg base CX0 5 (md "Span" "__call__" K) [] (spF K [] (ul2 F_Span___call__)) := pm_PromO (ok_Span___call__ (Tb := []) F15 T p5 p14) (F15.bindsN fun _ _ _ _ _ _ us hl => match us, hl with | [_, _], _ => rfl)
  have p16 : PromO P w K mg base CX0 5 (md "Span" "plus" K) [] (spF K [] (ul3 F_Span_plus)) := pm_PromO (ok_Span_plus (Tb := []) F16 T p10 p11 p12 p13) (F16.bindsN fun _ _ _ _ _ _ us hl => match us, hl with | [_, _, _], _ => rfl)
  have p17 : PromO P w K mg base CX0 6 (md "Span" "__add__" K) [] (spF K [] (ul2 F_Span___add__)) := pm_PromO (ok_Span___add__ (Tb := []) F17 T p16) (F17.bindsN fun _ _ _ _ _ _ us hl => match us, hl with | [_, _], _ => rfl)
  have p18 : PromO P w K mg base CX0 1 (md "Sided" "__init__" K) [] (spI K [] "Stretch" (fun fs => ul1 (F_Sided___init___at_Stretch fs))) := pm_PromO (ok_Sided___init___at_Stretch (Tb := []) F18 T ) (F18.bindsN fun _ _ _ _ _ _ us hl => match us, hl with | [_, _], _ => rfl)
  have p19 : PromO P w K mg base CX0 3 (md "Stretch" "__init__" K) [] (spI K [] "Stretch" (fun fs => ul4 (F_Stretch___init__ fs))) := by
    obtain ⟨ds, hv, hb⟩ := SupF.binds1 (ps := ["self", "first", "span", "side", "late"]) F19 5 2 (by intro z; cases z) rfl fun _ _ _ _ _ _ _ _ us its hu hi => match us, hu, its, hi with | [_, _, _, _, _], _, [_, _], _ => ⟨_, rfl, rfl⟩
    cases hv
    exact pm_PromO (ok_Stretch___init__ (Tb := []) F19 T hP p3 p18) hb
  have pd19_1 : PromO P w K mg base CX0 3 (md "Stretch" "__init__" K) [V.bl false] (spI K [] "Stretch" (fun fs => ul4 (F_Stretch___init__ fs))) := by
    obtain ⟨ds, hv, hb⟩ := SupF.binds1 (ps := ["self", "first", "span", "side", "late"]) F19 4 1 (by intro z; cases z) rfl fun _ _ _ _ _ _ _ _ us its hu hi => match us, hu, its, hi with | [_, _, _, _], _, [_, _], _ => ⟨_, rfl, rfl⟩
    exact ⟨_, _, ds, (ok_Stretch___init__ (Tb := []) F19 T hP p3 p18), hb, hv⟩
  have p20 : PromO P w K mg base CX0 6 (md "Stretch" "changes" K) [] (spF K [] (ul2 F_Stretch_changes)) := pm_PromO (ok_Stretch_changes (Tb := []) F20 T p5 p15) (F20.bindsN fun _ _ _ _ _ _ us hl => match us, hl with | [_, _], _ => rfl)
  have p21 : PromO P w K mg base CX0 1 (md "Stretch" "begin" K) [] (spF K [] (ul2 F_Stretch_begin)) := pm_PromO (ok_Stretch_begin (Tb := []) F21 T ) (F21.bindsN fun _ _ _ _ _ _ us hl => match us, hl with | [_, _], _ => rfl)
  have p22 : PromO P w K mg base CX0 7 (md "Stretch" "to" K) [] (spF K [] (ul3 F_Stretch_to)) := pm_PromO (ok_Stretch_to (Tb := []) F22 T p6 p20 p21 p8 p9 p7) (F22.bindsN fun _ _ _ _ _ _ us hl => match us, hl with | [_, _, _], _ => rfl)
  have p23 : PromO P w K mg base CX0 1 (propG "Stretch" "said" K) [] (spF K [] (ul1 F_Step_said_at_Stretch)) := pm_PromO (ok_Step_said_at_Stretch (Tb := []) F23 T ) (F23.bindsN fun _ _ _ _ _ _ us hl => match us, hl with | [_], _ => rfl)
  have p24 : PromO P w K mg base CX0 1 (propG "Stretch" "done" K) [] (spF K [] (ul1 F_Step_done_at_Stretch)) := pm_PromO (ok_Step_done_at_Stretch (Tb := []) F24 T ) (F24.bindsN fun _ _ _ _ _ _ us hl => match us, hl with | [_], _ => rfl)
  have p25 : PromO P w K mg base CX0 1 (propG "Stretch" "deep" K) [] (spF K [] (ul1 F_Step_deep_at_Stretch)) := pm_PromO (ok_Step_deep_at_Stretch (Tb := []) F25 T ) (F25.bindsN fun _ _ _ _ _ _ us hl => match us, hl with | [_], _ => rfl)
  have p26 : PromO P w K mg base CX0 3 (propG "Stretch" "weight" K) [] (spF K [] (ul1 F_Stretch_weight)) := pm_PromO (ok_Stretch_weight (Tb := []) F26 T p11 p12 p13) (F26.bindsN fun _ _ _ _ _ _ us hl => match us, hl with | [_], _ => rfl)
  have p27 : PromO P w K mg base CX0 3 (gd "deepest" K) [] (spF K [] (ul1 F_deepest)) := pm_PromO (ok_deepest (Tb := []) F27 T p25) (F27.bindsN fun _ _ _ _ _ _ us hl => match us, hl with | [_], _ => rfl)
  have p28 : PromO P w K mg base CX0 3 (propG "Program" "said" K) [] (spF K [] (ul1 F_Program_said)) := pm_PromO (ok_Program_said (Tb := []) F28 T p23) (F28.bindsN fun _ _ _ _ _ _ us hl => match us, hl with | [_], _ => rfl)
  have p29 : PromO P w K mg base CX0 3 (propG "Program" "done" K) [] (spF K [] (ul1 F_Program_done)) := pm_PromO (ok_Program_done (Tb := []) F29 T p24) (F29.bindsN fun _ _ _ _ _ _ us hl => match us, hl with | [_], _ => rfl)
  have p30 : PromO P w K mg base CX0 5 (propG "Program" "weight" K) [] (spF K [] (ul1 F_Program_weight)) := pm_PromO (ok_Program_weight (Tb := []) F30 T p26) (F30.bindsN fun _ _ _ _ _ _ us hl => match us, hl with | [_], _ => rfl)
  have p31 : PromO P w K mg base CX0 4 (propG "Program" "deep" K) [] (spF K [] (ul1 F_Program_deep)) := pm_PromO (ok_Program_deep (Tb := []) F31 T p27) (F31.bindsN fun _ _ _ _ _ _ us hl => match us, hl with | [_], _ => rfl)
  have p32 : PromO P w K mg base CX0 1 (gd "need_steps" K) [] (spF K [] (ul1 F_need_steps)) := pm_PromO (ok_need_steps (Tb := []) F32 T ) (F32.bindsN fun _ _ _ _ _ _ us hl => match us, hl with | [_], _ => rfl)
  have p33 : PromO P w K mg base CX0 1 (gd "need_size" K) [] (spF K [] (ul4 F_need_size)) := pm_PromO (ok_need_size (Tb := []) F33 T ) (F33.bindsN fun _ _ _ _ _ _ us hl => match us, hl with | [_, _, _, _], _ => rfl)
  have p34 : PromO P w K mg base CX0 1 (md "Holder" "__init__" K) [] (spI K [] "Program" (fun fs => ul1 (F_Holder___init___at_Program fs))) := pm_PromO (ok_Holder___init___at_Program (Tb := []) F34 T ) (F34.bindsN fun _ _ _ _ _ _ us hl => match us, hl with | [_, _], _ => rfl)
  have p35 : FnR P w K mg base CX0 7 (md "Program" "__init__" K) (starSp 1 (spI K [] "Program" (fun fs => ul1 (F_Program___init__ fs)))) := (ok_Program___init__ (Tb := []) F35 T hP p32 p34 p33 p28 p29 p30 p31)
  have p36 : PromO P w K mg base CX0 8 (md "Program" "to" K) [] (spF K [] (ul3 F_Program_to)) := pm_PromO (ok_Program_to (Tb := []) F36 T p6 p22) (F36.bindsN fun _ _ _ _ _ _ us hl => match us, hl with | [_, _, _], _ => rfl)
  have p37 : PromO P w K mg base CX0 2 (gd "_law_pick" K) [] (spF K [] (ul2 F__law_pick)) := pm_PromO (ok__law_pick (Tb := []) F37 T p1) (F37.bindsN fun _ _ _ _ _ _ us hl => match us, hl with | [_, _], _ => rfl)
  have p38 : PromO P w K mg base CX0 3 (gd "_law_length" K) [] (spF K [] (ul1 F__law_length)) := pm_PromO (ok__law_length (Tb := []) F38 T p37 p1) (F38.bindsN fun _ _ _ _ _ _ us hl => match us, hl with | [_], _ => rfl)
  have p39 : PromO P w K mg base CX0 2 (gd "_law_places" K) [] (spF K [] (ul2 F__law_places)) := pm_PromO (ok__law_places (Tb := []) F39 T p1) (F39.bindsN fun _ _ _ _ _ _ us hl => match us, hl with | [_, _], _ => rfl)
  have p40 : PromO P w K mg base CX0 9 (gd "_law_moves_alike" K) [] (spF K [] (ul4 F__law_moves_alike)) := pm_PromO (ok__law_moves_alike (Tb := []) F40 T p39 p36 p22) (F40.bindsN fun _ _ _ _ _ _ us hl => match us, hl with | [_, _, _, _], _ => rfl)
  have p41 : PromO P w K mg base CX0 10 (gd "_law_rounds_right" K) [] (spF K [] (ul2 F__law_rounds_right)) := pm_PromO (ok__law_rounds_right (Tb := []) F41 T p1 p37 p19 p10 p39 p22 p40 pd10_1) (F41.bindsN fun _ _ _ _ _ _ us hl => match us, hl with | [_, _], _ => rfl)
  have p42 : PromO P w K mg base CX0 10 (gd "_law_late_right" K) [] (spF K [] (ul2 F__law_late_right)) := pm_PromO (ok__law_late_right (Tb := []) F42 T p1 p37 p10 p15 p19 p40 pd19_1) (F42.bindsN fun _ _ _ _ _ _ us hl => match us, hl with | [_, _], _ => rfl)
  have p43 : PromO P w K mg base CX0 10 (gd "_law_joined_right" K) [] (spF K [] (ul2 F__law_joined_right)) := pm_PromO (ok__law_joined_right (Tb := []) F43 T p1 p37 p10 p15 p35 pd19_1 p40 p17 p19 p39 p36) (F43.bindsN fun _ _ _ _ _ _ us hl => match us, hl with | [_, _], _ => rfl)
  exact (FnOk.toG (ok_law (Tb := []) F44 T law_yes p0 p38 p41 p42 p43))
end Lw
open PySem PySem.W PySem.Calls PyProof.Rows
set_option maxRecDepth 100000 in
set_option maxHeartbeats 0 in
theorem PySem.Challenge.cw_everyhunt_k40_whole_rounds_of_plain_chan_holds : PySem.Challenge.rw_everyhunt_k40_whole_rounds_of_plain_chan.Holds := by
  w_on; o_law
  refine HandSHeadRun.head_any (r := OpenLaw.row PySem.Challenge.rw_everyhunt_k40_whole_rounds_of_plain_chan) (q := view (OpenLaw.row PySem.Challenge.rw_everyhunt_k40_whole_rounds_of_plain_chan).prog [62]) (H := Lw.hk) (ob := Lw.ob) (M := 20000) (loose := Lw.loose) (d := HandSHeadRun.topDef (OpenLaw.row PySem.Challenge.rw_everyhunt_k40_whole_rounds_of_plain_chan).prog 62) (kwd := []) Lw.ob_eq
    (by kernel_rfl) (fun s => by kernel_rfl) Lw.run (by kernel_rfl) (by kernel_rfl) (by kernel_rfl) (by rfl) (by first | assumption | decide +kernel) (by decide +kernel) ⟨rfl, rfl, rfl, rfl, rfl, by decide +kernel⟩ ?hw ?hc
  case hw => w_witness2
  case hc =>
    refine Gh.walk_ofG (l := PySem.Challenge.rw_everyhunt_k40_whole_rounds_of_plain_chan) (n := 63) (k := 11) (x := "_law_script") (CX := fun _ => L2.CX0) rfl (by decide) (by kernel_rfl) ⟨rfl, by decide, by decide⟩ ?F (fun _ _ _ _ _ z => z)
    intro w mg fa h Y G hmg0
    obtain ⟨K, KX, c⟩ := Y
    have hmg : mg ("law" : PySem.Str) = some (.ref fa) := by
      have e : (HandSHeadRun.topDef (OpenLaw.row PySem.Challenge.rw_everyhunt_k40_whole_rounds_of_plain_chan).prog 62).name = ("law" : PySem.Str) := by kernel_rfl
      rw [← e]
      exact hmg0
    obtain ⟨fd, hb, hF⟩ := Lw.facts (P := (PySem.Challenge.rw_everyhunt_k40_whole_rounds_of_plain_chan).prog) (w := w) KX G hmg c (c.s.t.fact 126 rfl) ⟨by kernel_rfl, by kernel_rfl⟩
    exact ⟨K, fd, Gp.spLaw K [], KX, hb, fun H a ns hl _ hS => ⟨a, ns, rfl, hS, hl, fun _ z => (nomatch z), fun _ => rfl⟩, hF⟩
#print axioms PySem.Challenge.cw_everyhunt_k40_whole_rounds_of_plain_chan_holds

