import PyProof.Rows.All
import Wide.All
import OpenK.AllK
import Wide.FinOn
import KE.KStateDown
import KE.KOpsOwn
import HandS.ForMost
import HandS.More
import HandS.Exc
import HandS.WordsExc
import HandS.Defaults
import HandS.Property
import HandS.IsInst
import HandS.Wide
import HandS.Head0
import HandS.Head1
import HandS.Head2
import HandS.HeadEnd
import HandS.HeadHook1
import HandS.HeadHook2
import PyProof.ReprRoads
import HandS.ExcInit
import HandS.ExcField
import HandS.ExcIs
import KE.KExcIs
import HandS.EndTab
import HandS.HeadHook4
import HandS.Star
import HandS.ClsMeth
import HandS.Lambda
import HandS.RaiseMore
import HandS.Iter
import KE.GoesMore
import PyProof.EnumMake
import HandS.MakeKw
import KE.KCallOwn
import PyProof.InstNe
import HandS.GenList
import PyProof.GenComp
import HandS.TupAny
import HandS.SortInts
import HandS.OwnEq
import HandS.Style
import HandS.Conv
import KE.KSuper
import HandS.NestedK
import HandS.SetFor
import HandS.Strs
import HandS.Zip
import HandS.TryMany
import PySem.Challenge.RW_everyhunt_k25_whole_stretches_bring_item
set_option Elab.async false
section
set_option Elab.async false
set_option linter.all false
set_option maxRecDepth 100000
namespace Gh
open PySem PySem.Spec PyProof.Rows L2
structure Df where
  adr : PySem.W.Frag → Addr
  name : Str
  qual : Str
  st : Stmt
  dfl : List He.Dv := []
def Df.val (d : Df) : He.FnW := some (d.name, d.qual, defArgs d.st, .stmts (defBody d.st), defScope d.st, mainGlobals, [], builtinsNs)
def Df.dvs (K : PySem.W.Frag) (d : Df) : List V := d.dfl.map (He.Dv.v K)
def fnAt (K : PySem.W.Frag) (a : Addr) : He.FnW := match K.lookup a with
  | some ⟨_, _, .func fd, _⟩ => some (fd.name, fd.qualname, fd.params, fd.body, fd.scope, fd.globals, fd.closure, fd.builtins)
  | _ => none
def Df.ok (K : PySem.W.Frag) (d : Df) : Bool := PySem.W.keepIn K (.ref (d.adr K)) && (match K.lookup (d.adr K) with
  | some ⟨_, _, .func fd, _⟩ => PySem.W.codeIn K fd.code d.qual && (He.dflB K fd.defaults (d.dvs K) && He.kwdB K fd.kwdefaults [])
  | _ => false)
abbrev Al : Type := Bool × List He.FnW
def obs (ex : List (PySem.W.Frag → Bool)) (fn : List Df) (K : PySem.W.Frag) : Al := ((ex.all fun f => f K) && fn.all fun d => d.ok K, fn.map fun d => fnAt K (d.adr K))
def val (fn : List Df) : Al := (true, fn.map Df.val)
def Says (ex : List (PySem.W.Frag → Bool)) (fn : List Df) (K : PySem.W.Frag) : Prop := obs ex fn K = val fn
def propG (x m : Str) (K : PySem.W.Frag) : Addr := match PySem.W.recIn K (He.ma K (He.ga K x) m) "property" with
  | some (.ref g :: _) => g
  | _ => 0
def propB (x m : Str) (K : PySem.W.Frag) : Bool := He.eqO (PySem.W.findIn K (.ref (He.ga K x)) m) (some (some (.ref (He.ma K (He.ga K x) m)))) &&
  (He.eqO (PySem.W.specialIn K (.ref (He.ma K (He.ga K x) m)) "__get__") (some (some (.builtin "property.__get__"))) &&
  (decide (PySem.W.takesIn K (.ref (He.ma K (He.ga K x) m)) = some true) && (match PySem.W.recIn K (He.ma K (He.ga K x) m) "property" with
    | some (.ref _ :: _) => true
    | _ => false)))
def gd (x : Str) : PySem.W.Frag → Addr := fun K => He.ga K x
def md (x m : Str) : PySem.W.Frag → Addr := fun K => He.ma K (He.ga K x) m
def fa (f : He.Fa) : PySem.W.Frag → Bool := fun K => f.ok K
structure InsT (K : PySem.W.Frag) (C : Addr) : Prop where
  ha : PySem.W.findIn K (.ref C) "__class__" = some (some (.builtin "object.__class__"))
  hn : PySem.W.specialIn K (.builtin "object.__class__") "__get__" = some (some (.builtin "getset_descriptor.__get__"))
  htk : PySem.W.takesIn K (.builtin "object.__class__") = some true
  hm : PySem.W.mroIn K C (.type "object") = some true
  yes : PySem.W.kitOne K (.ref C) (.ref C) = some true
  no : ∀ n ∈ (["NoneType", "bool", "int", "str", "list", "tuple", "dict"] : List String), PySem.W.kitOne K (.type n) (.ref C) = some false
  out : ∀ n ∈ (["NoneType", "bool", "int", "str", "list", "tuple", "dict"] : List String), PySem.W.kitOne K (.ref C) (.type n) = some false
def insB (x : Str) (K : PySem.W.Frag) : Bool := He.eqO (PySem.W.findIn K (.ref (gd x K)) "__class__") (some (some (.builtin "object.__class__"))) &&
  (He.eqO (PySem.W.specialIn K (.builtin "object.__class__") "__get__") (some (some (.builtin "getset_descriptor.__get__"))) &&
  (decide (PySem.W.takesIn K (.builtin "object.__class__") = some true) && (decide (PySem.W.mroIn K (gd x K) (.type "object") = some true) &&
  (decide (PySem.W.kitOne K (.ref (gd x K)) (.ref (gd x K)) = some true) && (((["NoneType", "bool", "int", "str", "list", "tuple", "dict"] : List String).all fun n => decide (PySem.W.kitOne K (.type n) (.ref (gd x K)) = some false)) &&
  ((["NoneType", "bool", "int", "str", "list", "tuple", "dict"] : List String).all fun n => decide (PySem.W.kitOne K (.ref (gd x K)) (.type n) = some false)))))))
end Gh
end
section
set_option Elab.async false
set_option linter.all false
set_option maxRecDepth 100000
set_option maxHeartbeats 4000000
namespace Gh
open PySem PySem.Spec PyProof.Rows L2
structure FnG (P : Program) (w : World) (K : PySem.W.Frag) (mg : Str → Option Value) (base : Heap) (CX : CXT) (k : Nat) (f : Addr) (fd : FuncData) (ps : List Str) (sp : Sp) : Prop where
  len : ∀ vs H Q E, sp vs H Q E → vs.length = ps.length
  run : ∀ (A : Around) (outer : List Env) (s : Shared) (H : Hp) (args : Args) (us : List Value) (vs : List V) (Q : VK) (E : XK), Room k A → A.guards = some [] → Env0 P w K mg base A outer s H → BindsTo s fd args (ps.zip us) → Vals vs us → sp vs H Q E →
    codeAny (model P w) A (.call (.ref f) args) (CR CX outer P w H s Q E) s
def Prom (P : Program) (w : World) (K : PySem.W.Frag) (mg : Str → Option Value) (base : Heap) (CX : CXT) (k : Nat) (f : Addr) (dvs : List V) (sp : Sp) : Prop :=
  ∃ (fd : FuncData) (ps : List Str) (ds : List Value), FnG P w K mg base CX k f fd ps sp ∧ Binds K fd ps ds ∧ Vals dvs ds
section
variable {P : Program} {w : World} {K : PySem.W.Frag} {mg : Str → Option Value} {base : Heap} {CX : CXT} {j k : Nat} {f : Addr} {fd : FuncData} {ps : List Str} {sp : Sp} {dvs : List V}
theorem FnG.mono (F : FnG P w K mg base CX j f fd ps sp) (h : j ≤ k) : FnG P w K mg base CX k f fd ps sp := ⟨F.len, fun A o s H a us vs Q E hr => F.run A o s H a us vs Q E (hr.mono h)⟩
theorem Prom.mono (F : Prom P w K mg base CX j f dvs sp) (h : j ≤ k) : Prom P w K mg base CX k f dvs sp := by
  obtain ⟨fd, ps, ds, G, b, v⟩ := F
  exact ⟨fd, ps, ds, G.mono h, b, v⟩
end
section
variable {X : Cx} {CX : CXT} {k : Nat} {f g C : Addr} {sp : Sp} {dvs : List V} {E : XK} {x m : Str} {p pos apos : Pos} {e o : Expr} {es : List Expr} {ta tb : TE} {t : TA} {r : List V → Hp → VK → Prop}
abbrev PromX (X : Cx) (CX : CXT) (k : Nat) (f : Addr) (dvs : List V) (sp : Sp) : Prop := Prom X.prog X.w X.K X.mg X.base CX k f dvs sp
def rSp (sp : Sp) (dvs : List V) (E : XK) : List V → Hp → VK → Prop := fun xs H Q => sp (xs ++ dvs) H Q E
theorem Prom.call (F : PromX X CX k f dvs sp) (hr : Room k X.A) (hg : X.A.guards = some []) (hx : Passes CX X E) : CallR X (.ref f) (rSp sp dvs E) := by
  intro pins s σ H xs us Q I r h
  obtain ⟨fd, ps, ds, G, b, hd⟩ := F
  have r2 : Vals (xs ++ dvs) (us ++ ds) := r.append hd
  have hl : (us ++ ds).length = ps.length := by rw [← r2.length]; exact G.len _ _ _ _ h
  refine wpAny_call (codeAny_mono (G.run X.A X.stack s H ⟨us, []⟩ (us ++ ds) (xs ++ dvs) Q E hr hg I.env0 (b s us I.kIn hl) r2 h) fun r s' hq => ?_)
  cases r with
  | error e => exact hx pins σ H s e s' I hq
  | ok fl =>
    cases fl with
    | ret u => exact I.after hq
    | next => exact False.elim hq
    | brk => exact False.elim hq
    | cont => exact False.elim hq
theorem ins_look {pins : List (Addr × Obj)} {σ : L2.St} {H : Hp} {s : Shared} {a dx : Addr} {fs : List (Str × V)} (I : Inv X pins σ H s) (h : H a = some (.ins C dx fs)) : ∃ ox od, PySem.W.InstAt s.heap a ox C od := by
  obtain ⟨mA, O, _, _, _, _⟩ := ins_get I.hok h
  obtain ⟨od, J, _⟩ := O.look
  exact ⟨_, _, J⟩
end
end Gh
end
section
set_option Elab.async false
set_option linter.all false
set_option maxRecDepth 100000
set_option maxHeartbeats 4000000
namespace Gh
open PySem PySem.Spec PyProof.Rows L2
def Keep (H H' : Hp) (p : Addr) : Prop := ∀ a o, H a = some o → a ≠ p → H' a = some o
theorem Keep.refl {H : Hp} {p : Addr} : Keep H H p := fun _ _ h _ => h
theorem Keep.trans {H H' H'' : Hp} {p : Addr} (h : Keep H H' p) (k : Keep H' H'' p) : Keep H H'' p := fun a o e n => k a o (h a o e n) n
def PenAt (H : Hp) (p : Addr) (b : Nat) : Prop := ∃ (c : Addr) (ns : List Int) (i z : Int), H p = some (.lst [.ref c, .int i, .int z]) ∧ H c = some (.lst (ns.map V.int)) ∧ ns.length ≤ 63 ∧ 0 ≤ i ∧ i + b ≤ 1000000 ∧ 0 ≤ z
theorem pen_ne {H : Hp} {p c : Addr} {ns : List Int} {i z : Int} (h : H p = some (.lst [.ref c, .int i, .int z])) (k : H c = some (.lst (ns.map V.int))) : c ≠ p := by
  refine ne_of k h fun e => ?_
  have e2 : ns.map V.int = [.ref c, .int i, .int z] := HO.lst.inj e
  cases ns with
  | nil => cases e2
  | cons n r => cases (List.cons.inj e2).1
theorem PenAt.same {H H' : Hp} {p : Addr} {b : Nat} (h : PenAt H p b) (n : L2.Same H H') : PenAt H' p b := by
  obtain ⟨c, ns, i, z, h1, h2, h3⟩ := h
  exact ⟨c, ns, i, z, n _ _ h1, n _ _ h2, h3⟩
end Gh
end
section
set_option Elab.async false
set_option linter.all false
set_option maxRecDepth 100000
set_option maxHeartbeats 4000000
namespace Gh
open PySem PySem.Spec PyProof.Rows L2
def exk (a C d : Addr) : HO := .ext fun h => ∃ (o : Obj) (vs : Array Value), h.get? a = some o ∧ o.cls = .ref C ∧ o.dict = some d ∧ o.data = .fields vs
def errB (x : Str) (K : PySem.W.Frag) : Bool := He.eqO (PySem.W.findIn K (.ref (gd x K)) "__getattribute__") (some (some (.builtin "BaseException.__getattribute__"))) &&
  (He.eqO (PySem.W.findIn K (.ref (gd x K)) "__getattr__") (some none) && (decide (PySem.W.subIn K (.ref (gd x K)) (.type "BaseException") = some true) && (PySem.W.hasDictIn K (gd x K) &&
  (He.eqO (PySem.W.findIn K (.ref (gd x K)) "__class__") (some (some (.builtin "object.__class__"))) && (He.eqO (PySem.W.specialIn K (.builtin "object.__class__") "__get__") (some (some (.builtin "getset_descriptor.__get__"))) &&
  (decide (PySem.W.takesIn K (.builtin "object.__class__") = some true) && decide (PySem.W.mroIn K (gd x K) (.type "object") = some true)))))))
section
variable {X : Cx} {e : Expr} {te : TE} {pos : Pos} {n : Str}
end
section
variable {X : Cx} {x n : Str} {c : Value} {i : Nat} {body suite : List Stmt} {b₀ : Stmt} {np pos pos' : Pos} {tb : WX → TS} {ts : Addr → Value → Option Addr → TS} {Wout : WX}
end
end Gh
end
section
set_option Elab.async false
set_option linter.all false
set_option maxRecDepth 100000
set_option maxHeartbeats 4000000
namespace Gh
open PySem PySem.Spec PyProof.Rows L2
structure SaysT (ex : List (PySem.W.Frag → Bool)) (fn : List Df) (tf : List He.Defn) (h : Heap) (K : PySem.W.Frag) : Prop where
  t : Says ex fn K
  hd : ∀ p ∈ tf, PySem.W.codeHdIn K (He.cT K p).1 (He.cT K p).2 = true
  out : ∀ p ∈ tf, K.lookup (He.cT K p).2 = none
  empty : ∀ p ∈ tf, h.get? (He.cT K p).2 = some { cls := .none, data := .fields #[] }
abbrev AlT : Type := Al × Bool
end Gh
end
section
set_option Elab.async false
set_option linter.all false
set_option maxRecDepth 100000
set_option maxHeartbeats 4000000
namespace Gh
open PySem PySem.Spec PyProof.Rows L2
def PromO (P : Program) (w : World) (K : PySem.W.Frag) (mg : Str → Option Value) (base : Heap) (CX : CXT) (k : Nat) (f : Addr) (dvs : List V) (sp : Sp) : Prop :=
  ∃ (fd : FuncData) (ps : List Str) (ds : List Value), FnOk P w K mg base CX k f fd ps sp ∧ Binds K fd ps ds ∧ Vals dvs ds
section
variable {X : Cx} {CX : CXT} {k : Nat} {f g C : Addr} {sp : Sp} {dvs : List V} {E : XK} {m : Str} {pos : Pos} {o : Expr} {ta : TE}
abbrev PromOX (X : Cx) (CX : CXT) (k : Nat) (f : Addr) (dvs : List V) (sp : Sp) : Prop := PromO X.prog X.w X.K X.mg X.base CX k f dvs sp
theorem PromO.call (F : PromOX X CX k f dvs sp) (hr : Room k X.A) (hx : Passes CX X E) : CallR X (.ref f) (rSp sp dvs E) := by
  intro pins s σ H xs us Q I r h
  obtain ⟨fd, ps, ds, G, b, hd⟩ := F
  exact run_fn G hr b hd hx I r h
end
def oexB (x : Str) (K : PySem.W.Frag) : Bool := (match K.lookup (gd x K) with
  | some ⟨.type c, _, .cls ⟨_, _, .ref m :: bm, _, _, hd, _, _, _, _, dl⟩, ⟨[_, _, _, _, some (.builtin n), _]⟩⟩ => decide (c = "type") && (decide (m = gd x K) && (PySem.HandSPX.refsVE bm && (hd && (!dl && decide (n = "ValueError.__new__")))))
  | _ => false) && (He.eqO (PySem.W.findIn K (.ref (gd x K)) "__setattr__") (some (some (.builtin "object.__setattr__"))) && (decide (PySem.W.subIn K (.ref (gd x K)) (.type "BaseException") = some true) &&
  (decide (PySem.W.typeIn K (.ref (gd x K)) = some (.type "type")) && PySem.W.keepIn K (.ref (gd x K)))))
inductive Kd (H : Hp) : V → Prop
  | non : Kd H .non
  | bl (b : Bool) : Kd H (.bl b)
  | int (i : Int) : Kd H (.int i)
  | str (x : Str) : Kd H (.str x)
  | lst {a : Addr} {xs : List V} (h : H a = some (.lst xs)) : Kd H (.ref a)
  | tup {a : Addr} {xs : List V} (h : H a = some (.tup xs)) : Kd H (.ref a)
  | dK {a : Addr} {kvs : List (Key × V)} (h : H a = some (.dK kvs)) : Kd H (.ref a)
theorem Kd.ty {K : PySem.W.Frag} {H : Hp} {v : V} (k : Kd H v) : ∃ n : String, TyX K H v (.type n) ∧ ((∃ i, v = .int i) ∧ n = "int" ∨ (∃ b, v = .bl b) ∧ n = "bool" ∨ (∀ i, v ≠ .int i) ∧ (∀ b, v ≠ .bl b) ∧ n ∈ (["NoneType", "str", "list", "tuple", "dict"] : List String)) := by
  cases k with
  | non => exact ⟨_, .base .non, .inr (.inr ⟨fun _ => nofun, fun _ => nofun, by decide⟩)⟩
  | bl b => exact ⟨_, .base (.bl b), .inr (.inl ⟨⟨b, rfl⟩, rfl⟩)⟩
  | int i => exact ⟨_, .base (.int i), .inl ⟨⟨i, rfl⟩, rfl⟩⟩
  | str x => exact ⟨_, .base (.str x), .inr (.inr ⟨fun _ => nofun, fun _ => nofun, by decide⟩)⟩
  | lst h => exact ⟨_, .base (.lst h), .inr (.inr ⟨fun _ => nofun, fun _ => nofun, by decide⟩)⟩
  | tup h => exact ⟨_, .base (.tup h), .inr (.inr ⟨fun _ => nofun, fun _ => nofun, by decide⟩)⟩
  | dK h => exact ⟨_, .base (.dK h), .inr (.inr ⟨fun _ => nofun, fun _ => nofun, by decide⟩)⟩
theorem Kd.same {H H' : Hp} {v : V} (k : Kd H v) (s : L2.Same H H') : Kd H' v := by
  cases k with
  | non => exact .non
  | bl b => exact .bl b
  | int i => exact .int i
  | str x => exact .str x
  | lst h => exact .lst (s _ _ h)
  | tup h => exact .tup (s _ _ h)
  | dK h => exact .dK (s _ _ h)
end Gh
end
section
set_option Elab.async false
set_option linter.all false
set_option maxRecDepth 100000
set_option maxHeartbeats 4000000
namespace Gh
open PySem PySem.Spec PyProof.Rows L2
inductive Shw (K : PySem.W.Frag) (H : Hp) : V → Str → Prop
  | non : Shw K H .non "None"
  | bl (b : Bool) : Shw K H (.bl b) (if b then "True" else "False")
  | int (i : Int) : i.natAbs.log2 < 1920 → Shw K H (.int i) (toString i)
  | str (x : Str) : (reprText x).length ≤ sizeLine → Shw K H (.str x) (reprText x)
  | dp {a : Addr} {d : PyData} : Dp K H (.ref a) d → d.showable = true → d.hasDict = false → d.depth ≤ 100 → d.shown.length ≤ sizeLine → Shw K H (.ref a) d.shown
theorem sqL_same {K : PySem.W.Frag} {H H' : Hp} {a : Addr} {xs : List V} (h : SqL K H a xs) (s : L2.Same H H') : SqL K H' a xs := by
  rcases h with (h | ⟨o, h⟩) | h
  · exact .inl (.inl (s _ _ h))
  · exact .inl (.inr ⟨o, s _ _ h⟩)
  · exact .inr h
theorem sqT_same {K : PySem.W.Frag} {H H' : Hp} {a : Addr} {xs : List V} (h : SqT K H a xs) (s : L2.Same H H') : SqT K H' a xs := by
  rcases h with (h | ⟨o, h⟩) | h
  · exact .inl (.inl (s _ _ h))
  · exact .inl (.inr ⟨o, s _ _ h⟩)
  · exact .inr h
mutual
theorem dp_same {K : PySem.W.Frag} {H H' : Hp} (s : L2.Same H H') : ∀ {v : V} {d : PyData}, Dp K H v d → Dp K H' v d
  | _, _, .non => .non
  | _, _, .bl b => .bl b
  | _, _, .int i => .int i
  | _, _, .str x => .str x
  | _, _, .lst h a => .lst (sqL_same h s) (dpAll_same s a)
  | _, _, .tup h a => .tup (sqT_same h s) (dpAll_same s a)
theorem dpAll_same {K : PySem.W.Frag} {H H' : Hp} (s : L2.Same H H') : ∀ {vs : List V} {ds : List PyData}, DpAll K H vs ds → DpAll K H' vs ds
  | _, _, .nil => .nil
  | _, _, .cons a r => .cons (dp_same s a) (dpAll_same s r)
end
theorem Shw.same {K : PySem.W.Frag} {H H' : Hp} {v : V} {t : Str} (h : Shw K H v t) (s : L2.Same H H') : Shw K H' v t := by
  cases h with
  | non => exact .non
  | bl b => exact .bl b
  | int i h => exact .int i h
  | str x h => exact .str x h
  | dp a b c d e => exact .dp (dp_same s a) b c d e
section
variable {X : Cx} {K : PySem.W.Frag}
variable {CX : CXT} {x : Str} {C fI : Addr} {k : Nat} {sp : Sp} {dvs : List V} {e : Expr} {es : List Expr} {ta : TA} {p pos : Pos}
end
def iniB (x : Str) (K : PySem.W.Frag) : Bool := He.eqO (PySem.W.findIn K (.ref (gd x K)) "__init__") (some (some (.ref (md x "__init__" K)))) && decide (PySem.W.typeIn K (.ref (md x "__init__" K)) = some (.type "function"))
def coB (x : Str) (K : PySem.W.Frag) : Bool := He.eqO (PySem.W.findIn K (.ref (gd x K)) "__call__") (some (some (.ref (md x "__call__" K)))) && (PySem.W.isFn K (.ref (md x "__call__" K)) && PySem.W.fnIn K (md x "__call__" K))
end Gh
end
section
set_option Elab.async false
set_option linter.all false
set_option maxRecDepth 100000
set_option maxHeartbeats 4000000
namespace Gh
open PySem PySem.Spec PyProof.Rows L2
structure Nw (H H' : Hp) (p : Addr) (o : HO) : Prop where
  no : H p = none
  same : L2.Same H H'
  at_ : H' p = some o
structure Mu (H H' : Hp) (p : Addr) (o : HO) : Prop where
  keep : Keep H H' p
  at_ : H' p = some o
section
variable {H H' : Hp} {p a l : Addr} {o u : HO}
theorem Nw.up (n : Nw H H' p o) (h : H a = some u) : H' a = some u := n.same _ _ h
theorem Mu.up (n : Mu H H' p o) (e : a ≠ p) (h : H a = some u) : H' a = some u := n.keep _ _ h e
theorem Mu.free (n : Mu H H' p o) (h : H' a = none) : H a = none := by
  cases e : H a with
  | none => rfl
  | some u =>
    by_cases q : a = p
    · subst q
      rw [n.at_] at h
      cases h
    · rw [n.up q e] at h
      cases h
end
def Pen (H : Hp) (p c : Addr) (b : Nat) : Prop := ∃ (ns : List Int) (i z : Int), H p = some (.lst [.ref c, .int i, .int z]) ∧ H c = some (.lst (ns.map V.int)) ∧ ns.length ≤ 63 ∧ 0 ≤ i ∧ i + b ≤ 1000000 ∧ 0 ≤ z
section
variable {H H' : Hp} {p c a l : Addr} {o u : HO} {b k : Nat} {xs : List V} {C dx : Addr} {fs : List (Str × V)}
theorem Pen.same (n : L2.Same H H') (h : Pen H p c b) : Pen H' p c b := by
  obtain ⟨ns, i, z, h1, h2, h3⟩ := h
  exact ⟨ns, i, z, n _ _ h1, n _ _ h2, h3⟩
theorem Pen.keep (n : Keep H H' l) (e1 : l ≠ p) (e2 : l ≠ c) (h : Pen H p c b) : Pen H' p c b := by
  obtain ⟨ns, i, z, h1, h2, h3⟩ := h
  exact ⟨ns, i, z, n _ _ h1 e1.symm, n _ _ h2 e2.symm, h3⟩
theorem Pen.cells (h : Pen H p c b) : c ≠ p := by
  obtain ⟨ns, i, z, h1, h2, h3⟩ := h
  exact pen_ne h1 h2
end
section
variable {H H' : Hp} {a t l : Addr} {o u : HO} {xs ys : List V} {C dx : Addr} {fs : List (Str × V)}
end
section
variable {H : Hp} {E : XK} {Q : VK} {p c l : Addr} {b : Nat} {m : Int} {xs : List V}
end
section
variable {X : Cx} {K : PySem.W.Frag}
end
section
variable {K : PySem.W.Frag} {H : Hp} {σ : L2.St} {Q : VK} {D : Ends} {i j n : Int} {x y v : V} {ta tb tc te tf : TE} {t u : TS} {c d : TT} {k : Bool} {a l p C dx : Addr} {xs ys : List V} {A B : Prop}
end
end Gh
end
section
set_option Elab.async false
set_option linter.all false
set_option maxRecDepth 100000
set_option maxHeartbeats 4000000
namespace Gh
open PySem PySem.Spec PyProof.Rows L2
section
variable {X : Cx} {a b c d : Expr} {ta tb tc td : TE} {pos : Pos}
end
def CallK (X : Cx) (u : Value) (ks : List Str) (r : List V → List V → Hp → VK → Prop) : Prop := ∀ (pins : List (Addr × Obj)) (s : Shared) (σ : L2.St) (H : Hp) (vs zs : List V) (us ws : List Value) (Q : VK), Inv X pins σ H s → Vals vs us → Vals zs ws → r vs zs H Q → wpAny (model X.prog X.w) X.A (call u us (ks.zip ws)) (EP X pins σ Q) X.xe s
def PromK (P : Program) (w : World) (K : PySem.W.Frag) (mg : Str → Option Value) (base : Heap) (CX : CXT) (k : Nat) (f : Addr) (n : Nat) (ks : List Str) (gV : List V → List V → List V) (sp : Sp) : Prop :=
  ∃ (fd : FuncData) (ps : List Str) (g : List Value → List Value → List Value), FnOk P w K mg base CX k f fd ps sp ∧ KBn K fd ps n ks g gV
section
variable {K : PySem.W.Frag} {x qual : Str} {params : Arguments} {body : List Stmt} {scope : Scope} {dvs : List V} {kws : List (Str × V)} {f : Addr} {fd : FuncData} {ps : List Str}
end
section
variable {X : Cx} {CX : CXT} {k n : Nat} {f C : Addr} {ks : List Str} {sp : Sp} {E : XK} {x m : Str} {p pos apos : Pos} {e o : Expr} {es : List Expr} {kws : List Keyword} {t tk : TA} {ta : TE} {gV : List V → List V → List V} {r : List V → List V → Hp → VK → Prop}
def rSpK (n m : Nat) (gV : List V → List V → List V) (sp : Sp) (E : XK) : List V → List V → Hp → VK → Prop := fun vs zs H Q => vs.length = n ∧ zs.length = m ∧ sp (gV vs zs) H Q E
theorem PromK.call (F : PromK X.prog X.w X.K X.mg X.base CX k f n ks gV sp) (hr : Room k X.A) (hx : Passes CX X E) : CallK X (.ref f) ks (rSpK n ks.length gV sp E) := by
  intro pins s σ H vs zs us ws Q I rv rz ⟨l1, l2, h⟩
  obtain ⟨fd, ps, g, G, b⟩ := F
  exact run_fnN G hr b hx I rv rz l1 l2 h
end
section
variable {H : Hp} {σ : L2.St} {Q : VK} {ta : TE} {t tk : TA} {r : List V → List V → Hp → VK → Prop} {C : Addr} {m : Str} {n k : Nat} {gV : List V → List V → List V} {sp : Sp} {E : XK} {vs zs : List V}
end
end Gh
end
section
set_option Elab.async false
set_option linter.all false
set_option maxRecDepth 100000
set_option maxHeartbeats 4000000
namespace Gh
open PySem PySem.Spec PyProof.Rows L2
structure Fn (d : PyData) (n b : Nat) : Prop where
  cl : d.canLay0 = true
  sh : d.showable = true
  nd : d.hasDict = false
  ls : d.leavesShort 200 = true
  dp : d.depth ≤ n
  bk : d.bulk ≤ b
structure FnAll (ds : List PyData) (n b : Nat) : Prop where
  cl : PyData.canLayAll0 ds = true
  sh : PyData.showableAll ds = true
  nd : PyData.hasDictAll ds = false
  ls : PyData.leavesShortAll 200 ds = true
  dp : PyData.depthAll ds ≤ n
  bk : PyData.bulkAll ds ≤ b
theorem log_lt100 {i : Int} (h1 : -(10 ^ 100) < i) (h2 : i < 10 ^ 100) : i.natAbs.log2 < 1920 := by
  have h : i.natAbs < 2 ^ 1920 := Nat.lt_of_lt_of_le (show i.natAbs < 10 ^ 100 by omega) (by decide)
  by_cases h0 : i.natAbs = 0
  · rw [h0]
    decide
  · exact (Nat.log2_lt h0).mpr h
theorem Fn.int {i : Int} (h1 : -(10 ^ 100) < i) (h2 : i < 10 ^ 100) : Fn (.int i) 0 0 := by
  refine ⟨rfl, decide_eq_true (log_lt100 h1 h2), rfl, ?_, Nat.le_refl _, Nat.le_refl _⟩
  have e := int_text_length_le10 (a := i) (k := 100) (by decide) (by omega)
  refine decide_eq_true ?_
  show (Str.ofString (toString i)).length ≤ 200
  rw [PySem.ofString_length]
  omega
theorem Fn.bool (b : Bool) : Fn (.bool b) 0 0 := ⟨rfl, rfl, rfl, rfl, Nat.le_refl _, Nat.le_refl _⟩
theorem Fn.none : Fn .none 0 0 := ⟨rfl, rfl, rfl, rfl, Nat.le_refl _, Nat.le_refl _⟩
theorem Fn.str {x : Str} (h0 : (PyData.str x).canLay0 = true) (h : (x.cps.toList.all fun c => decide (c < 16 ^ 8)) = true) : Fn (.str x) 0 x.cps.size := ⟨h0, rfl, rfl, h, Nat.le_refl _, Nat.le_refl _⟩
theorem FnAll.nil {n b : Nat} : FnAll [] n b := ⟨rfl, rfl, rfl, rfl, Nat.zero_le _, Nat.zero_le _⟩
theorem FnAll.cons {d : PyData} {ds : List PyData} {n b c : Nat} (h : Fn d n b) (k : FnAll ds n c) : FnAll (d :: ds) n (b + 1 + c) := by
  refine ⟨?_, ?_, ?_, ?_, ?_, ?_⟩
  · show (d.canLay0 && _) = true
    rw [h.cl, k.cl] <;> rfl
  · show (d.showable && _) = true
    rw [h.sh, k.sh] <;> rfl
  · show (d.hasDict || _) = false
    rw [h.nd, k.nd] <;> rfl
  · show (d.leavesShort 200 && _) = true
    rw [h.ls, k.ls] <;> rfl
  · show max _ _ ≤ n
    exact Nat.max_le.mpr ⟨h.dp, k.dp⟩
  · show d.bulk + 1 + _ ≤ _
    have := h.bk
    have := k.bk
    omega
theorem Fn.list {ds : List PyData} {n b : Nat} (h : FnAll ds n b) : Fn (.list ds) (n + 1) b := ⟨h.cl, h.sh, h.nd, h.ls, Nat.succ_le_succ h.dp, h.bk⟩
theorem Fn.tuple {ds : List PyData} {n b : Nat} (h : FnAll ds n b) : Fn (.tuple ds) (n + 1) b := ⟨h.cl, h.sh, h.nd, h.ls, Nat.succ_le_succ h.dp, h.bk⟩
section
variable {K : PySem.W.Frag} {H : Hp} {a : Addr} {ns : List Int}
end
section
variable {H H' : Hp} {a l p c : Addr} {u : HO} {b : Nat}
end
section
variable {K : PySem.W.Frag} {H : Hp} {σ : L2.St} {Q : VK} {m : Nat} {tt : TT} {te tl : TE} {vs : List Nat} {t : TA} {a : Addr} {xs : List V}
end
section
variable {H H' : Hp} {a l p c : Addr} {u : HO} {b : Nat}
end
section
variable {K : PySem.W.Frag} {H : Hp} {σ : L2.St} {D : Ends} {m : Nat} {g : TG} {tb : TS} {tl : TE} {t : TA} {a : Addr} {xs : List V}
end
section
end
end Gh
end
section
set_option Elab.async false
set_option linter.all false
set_option maxRecDepth 100000
set_option maxHeartbeats 4000000
namespace Gh
open PySem PySem.Spec PyProof.Rows L2
section
variable {H H' : Hp} {a l p c t : Addr} {o u : HO} {b : Nat} {xs : List V} {T : List (Addr × Str)} {C dx : Addr} {fs : List (Str × V)}
def Fr (H H' : Hp) (p : Addr) : Prop := ∀ a o, H a = some o → a ≠ p → (∀ ps, o ≠ .tbl ps) → H' a = some o
theorem Fr.refl : Fr H H p := fun _ _ h _ _ => h
theorem Fr.trans {H1 : Hp} (n : Fr H H1 p) (k : Fr H1 H' p) : Fr H H' p := fun a o h e z => k a o (n a o h e z) e z
end
section
variable {X : Cx} {H : Hp} {σ : L2.St} {Q : VK} {T : List (Addr × Str)} {TT : (XK → Hp → VK → Prop) → Hp → VK → Prop} {t : XK → TE}
end
end Gh
end
section
set_option Elab.async false
set_option linter.all false
set_option maxRecDepth 100000
set_option maxHeartbeats 4000000
namespace Gh
open PySem PySem.Spec PyProof.Rows L2
section
variable {X : Cx} {CX : CXT} {k : Nat} {C f : Addr} {sp : Sp} {E : XK} {r : List V → Hp → VK → Prop}
theorem InsT.ty {K : PySem.W.Frag} {H : Hp} {a C dx : Addr} {fs : List (Str × V)} (t : InsT K C) (c : Cls K C) (h : H a = some (.ins C dx fs)) : TyX K H (.ref a) (.ref C) := .base (.ins h c t.ha t.hn t.htk t.hm)
end
end Gh
end
section
set_option Elab.async false
set_option linter.all false
set_option maxRecDepth 100000
set_option maxHeartbeats 4000000
namespace Gp
open PySem PySem.Spec PyProof.Rows L2 Gh
inductive D where
  | non | bl (b : Bool) | int (i : Int) | str (x : Str) | tup (ds : List D) | lst (ds : List D)
  | obj (c : Str) (fs : List (Str × D)) | err (c : Str) (fs : List (Str × D)) | pen
  | cls (c : Str) | dct
abbrev Fs := List (Str × D)
inductive Tr (α : Type) where
  | ok (a : α) | ex (c : Str) (fs : Fs) | bad | draw (m : Int) (k : Int → Tr α)
section
variable {α β γ : Type}
def bd : Tr α → (α → Tr β) → Tr β
  | .ok a, k => k a
  | .ex c fs, _ => .ex c fs
  | .bad, _ => .bad
  | .draw m f, k => .draw m fun d => bd (f d) k
def Al (P : α → Nat → Prop) (E : Str → Fs → Nat → Prop) : Tr α → Nat → Prop
  | .ok a, b => P a b
  | .ex c fs, b => E c fs b
  | .bad, _ => False
  | .draw m k, b => ∃ b', b = b' + 1 ∧ 0 < m ∧ m < 10 ^ 100 ∧ ∀ d, 0 ≤ d → d < m → Al P E (k d) b'
theorem Al.mono {P P' : α → Nat → Prop} {E E' : Str → Fs → Nat → Prop} (hP : ∀ a b, P a b → P' a b) (hE : ∀ c fs b, E c fs b → E' c fs b) {m : Tr α} {b : Nat} (h : Al P E m b) : Al P' E' m b := by
  induction m generalizing b with
  | ok a => exact hP _ _ h
  | ex c fs => exact hE _ _ _ h
  | bad => exact h
  | draw m f ih =>
    obtain ⟨b', e, h1, h2, h3⟩ := h
    exact ⟨b', e, h1, h2, fun d d0 d1 => ih d (h3 d d0 d1)⟩
end
structure Gw where
  K : PySem.W.Frag
  T : List (Addr × Str)
  p : Addr
  c : Addr
mutual
inductive Den (g : Gw) (U : Addr → Prop) (H : Hp) : V → D → Prop
  | non : Den g U H .non .non
  | bl (b : Bool) : Den g U H (.bl b) (.bl b)
  | int (i : Int) : Den g U H (.int i) (.int i)
  | str (x : Str) : x.length ≤ sizeLine → Den g U H (.str x) (.str x)
  | tup {a : Addr} {vs : List V} {ds : List D} : H a = some (.tup vs) → ¬ U a → vs.length ≤ sizeLine → DenL g U H vs ds → Den g U H (.ref a) (.tup ds)
  | tupW {a : Addr} {vs : List V} {ds : List D} : (∀ H', SqT g.K H' a vs) → vs.length ≤ sizeLine → DenL g U H vs ds → Den g U H (.ref a) (.tup ds)
  | lst {a : Addr} {vs : List V} {ds : List D} : H a = some (.lst vs) → ¬ U a → vs.length ≤ sizeLine → DenL g U H vs ds → Den g U H (.ref a) (.lst ds)
  | obj {a dx : Addr} {c : Str} {fvs : List (Str × V)} {fs : List (Str × D)} : H a = some (.ins (gd c g.K) dx fvs) → ¬ U a → DenF g U H fvs fs → Den g U H (.ref a) (.obj c fs)
  | err {a d : Addr} {c : Str} {fvs : List (Str × V)} {fs : List (Str × D)} : H a = some (exk a (gd c g.K) d) → ¬ U a → H d = some (.xd fvs) → ¬ U d → DenF g U H fvs fs → Den g U H (.ref a) (.err c fs)
  | pen : Den g U H (.ref g.p) .pen
  | cls (c : Str) : Den g U H (.ref (gd c g.K)) (.cls c)
  | dct {a : Addr} : H a = some (.dK []) → ¬ U a → Den g U H (.ref a) .dct
inductive DenL (g : Gw) (U : Addr → Prop) (H : Hp) : List V → List D → Prop
  | nil : DenL g U H [] []
  | cons {v : V} {vs : List V} {d : D} {ds : List D} : Den g U H v d → DenL g U H vs ds → DenL g U H (v :: vs) (d :: ds)
inductive DenF (g : Gw) (U : Addr → Prop) (H : Hp) : List (Str × V) → List (Str × D) → Prop
  | nil : DenF g U H [] []
  | cons {n : Str} {v : V} {vs : List (Str × V)} {d : D} {ds : List (Str × D)} : Den g U H v d → DenF g U H vs ds → DenF g U H ((n, v) :: vs) ((n, d) :: ds)
end
section
variable {g : Gw} {U U' : Addr → Prop} {H H' : Hp}
def ExtU (U : Addr → Prop) (H H' : Hp) : Prop := ∀ a o, H a = some o → ¬ U a → (∀ ps, o ≠ .tbl ps) → H' a = some o
mutual
theorem Den.ext (e : ExtU U H H') : ∀ {v : V} {d : D}, Den g U H v d → Den g U H' v d
  | _, _, .non => .non
  | _, _, .bl b => .bl b
  | _, _, .int i => .int i
  | _, _, .str x h => .str x h
  | _, _, .tup h n l k => .tup (e _ _ h n (fun _ z => by cases z)) n l (DenL.ext e k)
  | _, _, .tupW h l k => .tupW h l (DenL.ext e k)
  | _, _, .lst h n l k => .lst (e _ _ h n (fun _ z => by cases z)) n l (DenL.ext e k)
  | _, _, .obj h n k => .obj (e _ _ h n (fun _ z => by cases z)) n (DenF.ext e k)
  | _, _, .err h n h2 n2 k => .err (e _ _ h n (fun _ z => by unfold exk at z; cases z)) n (e _ _ h2 n2 (fun _ z => by cases z)) n2 (DenF.ext e k)
  | _, _, .pen => .pen
  | _, _, .cls c => .cls c
  | _, _, .dct h n => .dct (e _ _ h n (fun _ z => by cases z)) n
theorem DenL.ext (e : ExtU U H H') : ∀ {vs : List V} {ds : List D}, DenL g U H vs ds → DenL g U H' vs ds
  | _, _, .nil => .nil
  | _, _, .cons a r => .cons (Den.ext e a) (DenL.ext e r)
theorem DenF.ext (e : ExtU U H H') : ∀ {vs : List (Str × V)} {ds : List (Str × D)}, DenF g U H vs ds → DenF g U H' vs ds
  | _, _, .nil => .nil
  | _, _, .cons a r => .cons (Den.ext e a) (DenF.ext e r)
end
mutual
theorem Den.sub (e : ∀ a, (∃ o, H a = some o) → U' a → U a) : ∀ {v : V} {d : D}, Den g U H v d → Den g U' H v d
  | _, _, .non => .non
  | _, _, .bl b => .bl b
  | _, _, .int i => .int i
  | _, _, .str x h => .str x h
  | _, _, .tup h n l k => .tup h (fun z => n (e _ ⟨_, h⟩ z)) l (DenL.sub e k)
  | _, _, .tupW h l k => .tupW h l (DenL.sub e k)
  | _, _, .lst h n l k => .lst h (fun z => n (e _ ⟨_, h⟩ z)) l (DenL.sub e k)
  | _, _, .obj h n k => .obj h (fun z => n (e _ ⟨_, h⟩ z)) (DenF.sub e k)
  | _, _, .err h n h2 n2 k => .err h (fun z => n (e _ ⟨_, h⟩ z)) h2 (fun z => n2 (e _ ⟨_, h2⟩ z)) (DenF.sub e k)
  | _, _, .pen => .pen
  | _, _, .cls c => .cls c
  | _, _, .dct h n => .dct h (fun z => n (e _ ⟨_, h⟩ z))
theorem DenL.sub (e : ∀ a, (∃ o, H a = some o) → U' a → U a) : ∀ {vs : List V} {ds : List D}, DenL g U H vs ds → DenL g U' H vs ds
  | _, _, .nil => .nil
  | _, _, .cons a r => .cons (Den.sub e a) (DenL.sub e r)
theorem DenF.sub (e : ∀ a, (∃ o, H a = some o) → U' a → U a) : ∀ {vs : List (Str × V)} {ds : List (Str × D)}, DenF g U H vs ds → DenF g U' H vs ds
  | _, _, .nil => .nil
  | _, _, .cons a r => .cons (Den.sub e a) (DenF.sub e r)
end
theorem DenL.length : ∀ {vs : List V} {ds : List D}, DenL g U H vs ds → vs.length = ds.length
  | _, _, .nil => rfl
  | _, _, .cons _ r => congrArg (· + 1) (DenL.length r)
theorem DenL.append : ∀ {vs ws : List V} {ds es : List D}, DenL g U H vs ds → DenL g U H ws es → DenL g U H (vs ++ ws) (ds ++ es)
  | _, _, _, _, .nil, k => k
  | _, _, _, _, .cons a r, k => .cons a (DenL.append r k)
theorem DenL.getD : ∀ {vs : List V} {ds : List D} {i : Nat} {d : D}, DenL g U H vs ds → ds[i]? = some d → ∃ v, vs[i]? = some v ∧ Den g U H v d
  | _, _, i, v, .nil, e => by simp at e
  | _, _, 0, v, .cons a r, e => by simp at e; subst e; exact ⟨_, rfl, a⟩
  | _, _, i + 1, v, .cons a r, e => by
    obtain ⟨d, h1, h2⟩ := DenL.getD (i := i) (d := v) r (by simpa using e)
    exact ⟨d, by simpa using h1, h2⟩
theorem DenF.look : ∀ {vs : List (Str × V)} {ds : List (Str × D)} {n : Str} {d : D}, DenF g U H vs ds → ds.lookup n = some d → ∃ v, vs.lookup n = some v ∧ Den g U H v d
  | _, _, _, _, .nil, e => by cases e
  | _, _, n, d, .cons (n := m) a r, e => by
    simp only [List.lookup] at e ⊢
    cases q : (n == m) with
    | true => rw [q] at e; cases e; exact ⟨_, rfl, a⟩
    | false => rw [q] at e; exact DenF.look r e
theorem DenF.length : ∀ {vs : List (Str × V)} {ds : List (Str × D)}, DenF g U H vs ds → vs.length = ds.length
  | _, _, .nil => rfl
  | _, _, .cons _ r => congrArg (· + 1) (DenF.length r)
end
structure Wd (g : Gw) (H : Hp) (b : Nat) : Prop where
  pen : Pen H g.p g.c b
  tabs : LamX.Tabs g.T H
structure UOk (g : Gw) (U : Addr → Prop) (H : Hp) : Prop where
  p : U g.p
  c : U g.c
  al : ∀ a, U a → ∃ o, H a = some o ∧ ∀ ps, o ≠ .tbl ps
section
variable {g : Gw} {U U' : Addr → Prop} {H H' H1 H2 : Hp} {b : Nat}
theorem Wd.same (w : Wd g H b) (s : L2.Same H H') : Wd g H' b := ⟨w.pen.same s, w.tabs.ext s⟩
end
inductive Sl where
  | no | fz (d : D) | ow (ds : List D) | oi (c : Str) (fs : Fs)
abbrev Env := List Sl
def SlR (g : Gw) (U : Addr → Prop) (H : Hp) (o : Option V) : Sl → Prop
  | .no => True
  | .fz d => ∃ v, o = some v ∧ Den g U H v d
  | .ow ds => ∃ a vs, o = some (.ref a) ∧ H a = some (.lst vs) ∧ vs.length ≤ sizeLine ∧ DenL g U H vs ds ∧ U a ∧ a ≠ g.p ∧ a ≠ g.c
  | .oi c fs => ∃ a dx fvs, o = some (.ref a) ∧ H a = some (.ins (gd c g.K) dx fvs) ∧ DenF g U H fvs fs ∧ U a ∧ a ≠ g.p ∧ a ≠ g.c
def OwnAt (σ : L2.St) (ε : Env) (i : Nat) (a : Addr) : Prop := σ[i]? = some (some (.ref a)) ∧ ((∃ ds, ε[i]? = some (.ow ds)) ∨ ∃ c fs, ε[i]? = some (.oi c fs))
structure Rel (g : Gw) (U : Addr → Prop) (H : Hp) (σ : L2.St) (ε : Env) : Prop where
  len : σ.length = ε.length
  at_ : ∀ (i : Nat) (s : Sl), ε[i]? = some s → ∃ o, σ[i]? = some o ∧ SlR g U H o s
  apart : ∀ (i j : Nat) (a : Addr), i ≠ j → OwnAt σ ε i a → OwnAt σ ε j a → False
section
variable {g : Gw} {U U' : Addr → Prop} {H H' H1 H2 : Hp} {b : Nat} {σ : L2.St} {ε : Env}
def okP (g : Gw) (U : Addr → Prop) (H : Hp) (Q : VK) : D → Nat → Prop := fun d b => ∀ v H', Den g U H' v d → Wd g H' b → Fr H H' g.p → Q v H'
def exP (g : Gw) (U : Addr → Prop) (E : XK) (H : Hp) : Str → Fs → Nat → Prop := fun c fs b => ∀ dd fvs H', H' dd = some (.xd fvs) → ¬ U dd → DenF g U H' fvs fs → Wd g H' b → Fr H H' g.p → E (.ref (gd c g.K)) (some dd) H'
theorem okP.here {Q : VK} {d : D} {v : V} (h : okP g U H Q d b) (w : Wd g H b) (dn : Den g U H v d) : Q v H := h v H dn w Fr.refl
variable {E : XK} {ta tb tc : TE} {ma mb : Tr D}
end
end Gp
end
section
set_option Elab.async false
set_option linter.all false
set_option maxRecDepth 100000
set_option maxHeartbeats 4000000
namespace Gp
open PySem PySem.Spec PyProof.Rows L2 Gh
inductive Fl (W L : Type) where
  | nx (w : W) | rt (d : D) | bk (l : L) | ct (l : L)
def FrM (g : Gw) (Mt : Addr → Prop) (H H' : Hp) : Prop := ∀ a o, H a = some o → a ≠ g.p → ¬ Mt a → (∀ ps, o ≠ .tbl ps) → H' a = some o
structure Stt (g : Gw) (Mt U0 : Addr → Prop) (H0 : Hp) (U : Addr → Prop) (σ : L2.St) (H : Hp) (b : Nat) (ε : Env) : Prop where
  rel : Rel g U H σ ε
  wd : Wd g H b
  uok : UOk g U H
  sub : ∀ a, U0 a → U a
  own : ∀ i a, OwnAt σ ε i a → Mt a ∨ ∀ o, H0 a = some o → ∃ ps, o = .tbl ps
  ext : FrM g Mt H0 H
  nu0 : ∀ (i : Nat) (ds : List D) (a : Addr), ε[i]? = some (.ow ds) → σ[i]? = some (some (.ref a)) → ¬ U0 a
  oim : ∀ (i : Nat) (c : Str) (fs : Fs) (a : Addr), ε[i]? = some (.oi c fs) → σ[i]? = some (some (.ref a)) → Mt a
section
variable {g : Gw} {Mt U0 U U' : Addr → Prop} {H0 H H' H1 H2 : Hp} {b b1 : Nat} {σ : L2.St} {ε ε' : Env} {E : XK} {W L W' : Type}
structure Ev (U : Addr → Prop) (H : Hp) (U' : Addr → Prop) (H' : Hp) : Prop where
  keep : ∀ a o, H a = some o → ¬ U a → (∀ ps, o ≠ .tbl ps) → H' a = some o
  out : ∀ a o, H a = some o → ¬ U a → (∀ ps, o ≠ .tbl ps) → ¬ U' a
theorem Ev.refl : Ev U H U H := ⟨fun _ _ h _ _ => h, fun _ _ _ n _ => n⟩
theorem Ev.trans {U1 : Addr → Prop} {H1 : Hp} (h : Ev U H U1 H1) (k : Ev U1 H1 U' H') : Ev U H U' H' := ⟨fun a o e n t => k.keep a o (h.keep a o e n t) (h.out a o e n t) t, fun a o e n t => k.out a o (h.keep a o e n t) (h.out a o e n t) t⟩
theorem FrM.trans (h : FrM g Mt H0 H) (f : Fr H H' g.p) : FrM g Mt H0 H' := fun a o e n1 n2 n3 => f a o (h a o e n1 n2 n3) n1 n3
def flP (g : Gw) (Mt U0 : Addr → Prop) (H0 : Hp) (U : Addr → Prop) (H : Hp) (D : Ends) (env : W → Env) (envL : L → Env) : Fl W L → Nat → Prop
  | .nx w, b => ∀ U' σ' H', Ev U H U' H' → Stt g Mt U0 H0 U' σ' H' b (env w) → D.nx σ' H'
  | .rt d, b => ∀ v H, Den g U0 H v d → Wd g H b → FrM g Mt H0 H → D.rt v H
  | .bk w, b => ∀ U' σ' H', Ev U H U' H' → Stt g Mt U0 H0 U' σ' H' b (envL w) → D.bk σ' H'
  | .ct w, b => ∀ U' σ' H', Ev U H U' H' → Stt g Mt U0 H0 U' σ' H' b (envL w) → D.ct σ' H'
def exS (g : Gw) (Mt U0 : Addr → Prop) (H0 : Hp) (E : XK) : Str → Fs → Nat → Prop := fun c fs b => ∀ dd fvs H, H dd = some (.xd fvs) → ¬ U0 dd → DenF g U0 H fvs fs → Wd g H b → FrM g Mt H0 H → E (.ref (gd c g.K)) (some dd) H
theorem exS.exP (s : Stt g Mt U0 H0 U σ H b ε) {c : Str} {fs : Fs} (h : exS g Mt U0 H0 E c fs b1) : exP g U E H c fs b1 := fun dd fvs H' h1 h2 h3 h4 h5 =>
  h dd fvs H' h1 (fun z => h2 (s.sub _ z)) (h3.sub fun a _ z => s.sub a z) h4 (s.ext.trans h5)
inductive Le : Env → Env → Prop
  | nil : Le [] []
  | s {x : Sl} {a b : Env} : Le a b → Le (x :: a) (x :: b)
  | n {x : Sl} {a b : Env} : Le a b → Le (.no :: a) (x :: b)
theorem Le.refl : ∀ ε : Env, Le ε ε
  | [] => .nil
  | _ :: r => .s (Le.refl r)
theorem Le.len : ∀ {a b : Env}, Le a b → a.length = b.length
  | _, _, .nil => rfl
  | _, _, .s h => congrArg (· + 1) h.len
  | _, _, .n h => congrArg (· + 1) h.len
variable {env : W → Env} {envL : L → Env} {env' : W' → Env} {u ta tb : TS} {te : TE} {me : Tr D}
section
variable {α : Type} {P : α → Nat → Prop} {X : Str → Fs → Nat → Prop} {ds : List D}
end
def SX (g : Gw) (E : XK) (ε : Env) (d : D) (gt : TG) (tb : TS) (env : W → Env) (envL : L → Env) (m : Tr (Fl W L)) : Prop := ∀ Mt U0 H0 U D σ H b v, Stt g Mt U0 H0 U σ H b ε → Den g U H v d → Al (flP g Mt U0 H0 U H D env envL) (exS g Mt U0 H0 E) m b → gt v σ H fun σ2 H2 => tb D σ2 H2
end
end Gp
end
section
set_option Elab.async false
set_option linter.all false
set_option maxRecDepth 100000
set_option maxHeartbeats 4000000
namespace Gp
open PySem PySem.Spec PyProof.Rows L2 Gh
section
variable {g : Gw} {Mt U0 U U' : Addr → Prop} {H0 H H' H1 H2 : Hp} {b b1 : Nat} {σ : L2.St} {ε ε' : Env} {E : XK} {W L W' : Type}
variable {env : W → Env} {envL : L → Env} {env' : W' → Env} {u ta tb : TS} {te : TE} {me : Tr D}
abbrev EF : XK := fun _ _ _ => False
theorem exP.F {c : Str} {fs : Fs} (h : False) : exP g U EF H c fs b := h.elim
end
end Gp
end
section
set_option Elab.async false
set_option linter.all false
set_option maxRecDepth 100000
set_option maxHeartbeats 4000000
namespace Gp
open PySem PySem.Spec PyProof.Rows L2 Gh
section
variable {g : Gw} {Mt U0 U U' : Addr → Prop} {H0 H H' H1 H2 : Hp} {b b1 : Nat} {σ : L2.St} {ε ε' : Env} {E : XK} {W L W' : Type}
variable {env : W → Env} {envL : L → Env} {env' : W' → Env} {u ta tb : TS} {te : TE} {me : Tr D}
def fin (m : Tr (Fl Unit Empty)) : Tr D := bd m fun f => match f with
  | .nx _ => .ok .non
  | .rt d => .ok d
  | .bk e => nomatch e
  | .ct e => nomatch e
def isO {α : Type} (c : Str) (o : D) (k : Fs → Tr α) : Tr α := match o with
  | .obj c' fs => if c' = c then k fs else .bad
  | _ => .bad
end
end Gp
end
section
set_option Elab.async false
set_option linter.all false
set_option maxRecDepth 100000
set_option maxHeartbeats 4000000
namespace Gp
open PySem PySem.Spec PyProof.Rows L2 Gh
mutual
def toPy : D → Option PyData
  | .non => some .none
  | .bl b => some (.bool b)
  | .int i => some (.int i)
  | .str x => some (.str x)
  | .tup ds => (toPyL ds).map .tuple
  | .lst ds => (toPyL ds).map .list
  | .obj _ _ => none
  | .err _ _ => none
  | .pen => none
  | .cls _ => none
  | .dct => none
def toPyL : List D → Option (List PyData)
  | [] => some []
  | d :: ds => match toPy d, toPyL ds with
    | some e, some es => some (e :: es)
    | _, _ => none
end
section
variable {g : Gw} {U : Addr → Prop} {H H' H1 : Hp} {b : Nat} {E : XK} {Q : VK}
end
end Gp
end
section
set_option Elab.async false
set_option linter.all false
set_option maxRecDepth 100000
set_option maxHeartbeats 4000000
namespace Gp
open PySem PySem.Spec PyProof.Rows L2 Gh
section
variable {g : Gw} {Mt U0 U U' : Addr → Prop} {H0 H H' H1 H2 : Hp} {b b1 : Nat} {σ : L2.St} {ε ε' : Env} {E : XK} {Q : VK} {W L W' : Type}
variable {env : W → Env} {envL : L → Env} {env' : W' → Env} {u ta tb : TS} {te : TE} {me : Tr D}
def shwD (d : D) : Option Str := match d with
  | .non => some "None"
  | .bl b => some (if b then "True" else "False")
  | .int i => if i.natAbs.log2 < 1920 then some (toString i) else none
  | .str x => if (reprText x).length ≤ sizeLine then some (reprText x) else none
  | d => match toPy d with
    | some e => if e.showable = true ∧ e.hasDict = false ∧ e.depth ≤ 100 ∧ e.shown.length ≤ sizeLine then some e.shown else none
    | none => none
def reprD (d : D) : Tr D := match shwD d with
  | some x => if x.length ≤ sizeLine then .ok (.str x) else .bad
  | none => .bad
end
end Gp
end
section
set_option Elab.async false
set_option linter.all false
set_option maxRecDepth 100000
set_option maxHeartbeats 4000000
namespace Gp
open PySem PySem.Spec PyProof.Rows L2 Gh
section
variable {g : Gw} {Mt U0 U U' : Addr → Prop} {H0 H H' H1 H2 : Hp} {b b1 : Nat} {σ : L2.St} {ε ε' : Env} {E : XK} {Q : VK} {W L W' : Type}
variable {env : W → Env} {envL : L → Env} {env' : W' → Env} {u ta tb : TS} {te : TE} {me : Tr D}
theorem look_cons {α : Type} {a c : Str} {x k : α} {r : List (Str × α)} (h : ((a, x) :: r).lookup c = some k) : (c = a ∧ k = x) ∨ r.lookup c = some k := by
  simp only [List.lookup] at h
  split at h
  · rename_i z
    cases h
    exact .inl ⟨beq_iff_eq.mp z, rfl⟩
  · exact .inr h
section
variable {K : PySem.W.Frag} {T : List (Addr × Str)} {N : List Str} {cn : Str} {vs : List V} {t : TS} {envI : Fs → Env}
end
def Yes (F : Tr D) : Prop := Al (fun d _ => d = .bl true) (fun _ _ _ => False) F 1000000
def eqO (c : Str) (f : D → Bool) (F : List D → Tr D) (x y : D) : Tr D := isO c x fun _ => if f y = true then F [x, y] else .bad
end
end Gp
namespace Gp
open PySem PySem.Spec PyProof.Rows L2 Gh
section
variable {g : Gw}
end
end Gp
namespace Gp
open PySem PySem.Spec PyProof.Rows L2 Gh
end Gp
end
section
set_option Elab.async false
set_option linter.all false
set_option maxRecDepth 100000
set_option maxHeartbeats 4000000
namespace Gp
open PySem PySem.Spec PyProof.Rows L2 Gh
structure SupX (X : Cx) (D f cda cc : Addr) (ar : Str) : Prop where
  fu : X.env.func = some f
  co : X.env.code = .ref cda
  lkf : ∃ oc od fd osl a, X.K.lookup f = some ⟨oc, od, .func fd, osl⟩ ∧ (fd.params.posonlyargs ++ fd.params.args).head? = some a ∧ a.arg = ar
  lkc : ∃ ccl cdd vs ccs file tf, X.K.lookup cda = some ⟨ccl, cdd, .fields vs, ccs⟩ ∧ vs[2]? = some (.str file tf) ∧ ((X.prog.main.file : Str) == file) = true
  top : (X.prog.main.scope.names.lookup ("super" : Str)).isSome = false
  ks : X.env.kindOf "super" = some .globalImplicit
  kc : X.env.kindOf "__class__" = some .free
  cell : X.env.cells.lookup ("__class__" : Str) = some cc
  lkl : ∃ cl cld csl, X.K.lookup cc = some ⟨cl, cld, .cell (some (.ref D)), csl⟩
  cD : ∃ cd, PySem.W.clsIn X.K D = some cd
  mg : X.mg "super" = none
  st : PySem.W.nsIn X.K cStatics "thirdparty.any" = some none
  n0 : X.N[0]? = some ar
  ka : X.env.kindOf ar = some .local
structure SupC (K : PySem.W.Frag) (C D : Addr) (m : Str) (f2 : Addr) : Prop where
  sub : PySem.W.mroIn K C (.ref D) = some true
  sup : PySem.W.ks_superIn K C D m = some (some (.ref f2))
  ty : PySem.W.typeIn K (.ref f2) = some (.type "function")
  fn : PySem.W.fnIn K f2 = true
theorem sup_run {X : Cx} {D f cda cc f2 : Addr} {ar m : Str} {body : List Stmt} {p0 p1 apos pos epos : Pos} {e : Expr} {es : List Expr} {ta : TA} {CX : CXT} {k : Nat} {dvs : List V} {sp : Sp} {E : XK} {pl : Sem Bool} {pins : List (Addr × Obj)} {s : Shared} {σ : L2.St} {H : Hp} {Dn : L2.St → Hp → Prop}
    (S : SupX X D f cda cc ar) (hm : (m == ("__class__" : Str)) = false) (ha : PA X (e :: es) ta) (G : PromOX X CX k f2 dvs sp) (hr : Room k X.A) (hx : Passes CX X E) (I : Inv X pins σ H s)
    (h : ∃ a C dx fs, σ[0]? = some (some (.ref a)) ∧ H a = some (.ins C dx fs) ∧ SupC X.K C D m f2 ∧ ta σ H fun vs H1 => sp (.ref a :: (vs ++ dvs)) H1 (fun _ H2 => Dn σ H2) E)
    (hst : starEach (e :: es) X.env = (false, eval e X.env) :: starEach es X.env := by rfl) (hpl : (backTo pos (starEach es X.env)).any (·.1) = false := by rfl)
    (he : eval (.Call (.Attribute (.Call (.Name "super" p0) [] [] p1) m apos) (e :: es) [] pos) X.env = (do
      let ov ← attributeBase (.Call (.Name "super" p0) [] [] p1) m X.env (eval (.Call (.Name "super" p0) [] [] p1) X.env)
      standAt apos.atName
      let (f, first) ← holding [ov] (getMethod ov m pl)
      callWith pos f first (backTo pos (starEach (e :: es) X.env)) []) := by rfl)
    (hsw : swapsWith (.Call (.Attribute (.Call (.Name "super" p0) [] [] p1) m apos) (e :: es) [] pos) none epos.line X.env = pure false := by rfl) :
    _root_.PySem.wpAt (model X.prog X.w) X.A (.func body X.env) (exec (.Expr (.Call (.Attribute (.Call (.Name "super" p0) [] [] p1) m apos) (e :: es) [] pos) epos) X.env) (fun fl s' => fl = .next ∧ ∃ H', Inv X pins σ H' s' ∧ Dn σ H') X.xe s := by
  obtain ⟨a, C, dx, fs, h0, hi, sc, q⟩ := h
  have KX := I.kIn
  obtain ⟨oc, od, fd, osl, ag, lkf, hp, rfl⟩ := S.lkf
  obtain ⟨ccl, cdd, vs, ccs, file, tf, lkc, hvs, hfile⟩ := S.lkc
  obtain ⟨cl, cld, csl, lkl⟩ := S.lkl
  obtain ⟨cdD, hD⟩ := S.cD
  obtain ⟨ox, od', J⟩ := ins_look I hi
  obtain ⟨oD, hD1, hD2⟩ : ∃ oD, s.heap.get? D = some oD ∧ oD.data = .cls cdD := by
    unfold PySem.W.clsIn at hD
    split at hD
    · rename_i ho
      cases hD
      exact ⟨_, KX _ _ ho, rfl⟩
    · cases hD
  have nc : ∀ c, ox.data ≠ .cls c := fun c e => by
    have := J.no
    unfold PySem.W.notCls at this
    rw [e] at this
    exact Bool.noConfusion this
  refine ks_wpAt_Expr_any (ks_wpAt_MethodCall (pl := pl) (ks_wpAt_super_base S.ks S.kc hm S.fu (KX _ _ lkf) rfl hp S.co (KX _ _ lkc) rfl hvs hfile S.top ?_) he) I.quiet hsw
  obtain ⟨mb, b1, b2⟩ := I.mod.blt
  refine PySem.W.ks_loadName_global I.ok.kind S.ks (Calls.loadGlobal_builtin (by rw [I.ok.glob]; exact I.mod.glob.keeps I.bk) S.mg (by rw [I.ok.blt]; exact b1.keeps I.bk) ((b2 "super" (by decide)).trans (show bootBuiltins "super" = some (.type "super") by decide +kernel)) ⟨rfl, ?_⟩)
  refine wpAny_loadName_free I.ok.kind S.kc S.cell ⟨_, KX _ _ lkl, rfl⟩ ?_
  obtain ⟨mm, hn, hl⟩ := I.loc
  obtain ⟨u, ru, hu⟩ := hl 0 ag.arg (.ref a) S.n0 h0 (.inl S.ka)
  have eu : u = Value.ref a := ru
  subst eu
  have hv : mm ag.arg = some (.ref a) := by
    rcases hu with z | ⟨z, _⟩
    · exact z.2
    · rcases z with z | z <;> rw [S.ka] at z <;> cases z
  refine wpAny_loadName_local I.ok.kind S.ka hn hv ?_
  obtain ⟨hh, g, d, t, os⟩ := s
  refine ks_wpAny_isType_cls hD1 hD2 ⟨rfl, ?_⟩
  refine ks_wpAny_call_super hD1 hD2 J.at_ J.cls nc (PySem.W.looks_mroIn KX sc.sub) (fun h1 e1 k1 => ?_)
  cases hcC : PySem.W.clsIn X.K C with
  | none =>
    have z := sc.sup
    unfold PySem.W.ks_superIn at z
    rw [hcC] at z
    cases z
  | some cdC =>
    have K1 : X.K.In h1 := KX.keeps k1
    obtain ⟨of, hof, hofc⟩ : ∃ of, h1.get? f2 = some of ∧ of.cls = .type "function" := by
      have ht' : (X.K.lookup f2).map (·.cls) = some (.type "function") := sc.ty
      cases z : X.K.lookup f2 with
      | none => rw [z] at ht'; cases ht'
      | some of => rw [z] at ht'; exact ⟨of, K1 _ _ z, Option.some.inj ht'⟩
    have hsup := sc.sup
    unfold PySem.W.ks_superIn at hsup
    rw [hcC] at hsup
    refine ks_wpAny_getMethod_super e1 (PySem.W.looks_opaque K1 S.st) (l₀ := cdC.mro) ?_ rfl K1 hsup hof hofc (PySem.W.ks_ne KX J hcC) hm ?_
    · exact fun A Q E s k q => wpAny_bind ((PySem.W.looks_clsIn K1 hcC) A _ E s k (wpAny_pure q))
    · have k2 : ∀ b o, hh.get? b = some o → (h1.push { cls := .type "method", data := .fields #[.ref f2, .ref a] }).get? b = some o := fun b o eb => Heap.get?_push_of_some _ (k1 b o eb)
      have I2 : Inv X pins σ H ⟨h1.push { cls := .type "method", data := .fields #[.ref f2, .ref a] }, g, d, t + 1, os⟩ := I.kept (t' := t + 1) k2
      have hsz : hh.objs.size ≤ h1.objs.size := by
        have := Heap.lt_size e1
        exact Nat.le_of_lt this
      have fp := I.fpOk (H' := H) (b := h1.objs.size) hsz (I.hok.fresh hsz)
      have hq1 : (h1.push { cls := .type "method", data := .fields #[.ref f2, .ref a] }).get? h1.objs.size = some (PySem.W.methodObj (.ref f2) (.ref a)) := Heap.get?_push_size _ rfl
      have I3 : Inv X ((h1.objs.size, PySem.W.methodObj (.ref f2) (.ref a)) :: pins) σ H ⟨h1.push { cls := .type "method", data := .fields #[.ref f2, .ref a] }, g, d, t + 1, os⟩ := I2.pins_of fun p hp => by
        rcases List.mem_cons.mp hp with rfl | hp
        · exact ⟨hq1, fp.1, fp.2.1, fp.2.2.1, fun v z => by cases z⟩
        · exact I2.pin p (List.mem_append_right _ hp)
      show wpAny _ _ (callWith pos (.ref h1.objs.size) [] (backTo pos (starEach (e :: es) X.env)) []) _ _ _
      rw [hst]
      refine PySem.W.callWith_of (P := PySem.W.MethP X.K h1.objs.size f2 (.ref a)) (by show ((false || (backTo pos (starEach es X.env)).any (·.1)) || false) = false; rw [hpl]; rfl) (PySem.W.keeps_M sc.fn) (PySem.Calls.evalArgs_plain ?_)
      show wpAny _ _ (spliced (backTo pos ((false, eval e X.env) :: starEach es X.env))) _ _ _
      rw [← hst]
      refine thn (ha.run pos _ _ σ H _ I3 q) fun us s3 ⟨ws, H1, I4, rv, q2⟩ => ?_
      have pq := (I4.pin (h1.objs.size, PySem.W.methodObj (.ref f2) (.ref a)) (List.mem_append_right _ List.mem_cons_self)).1
      refine ⟨⟨pq, I4.kIn⟩, ?_⟩
      have I5 : Inv X pins σ H1 s3 := I4.pins_of fun p hp => I4.pin p (List.mem_append_right _ (List.mem_cons_of_mem _ hp))
      obtain ⟨fd2, ps2, ds2, G2, b2', hd2⟩ := G
      have r2 : Vals (.ref a :: (ws ++ dvs)) (.ref a :: (us ++ ds2)) := .cons rfl (rv.append hd2)
      have hl2 : ((Value.ref a :: us) ++ ds2).length = ps2.length := by
        rw [← G2.len _ _ _ _ q2]
        exact r2.length.symm
      refine wpAny_call (ks_codeAny_call_bound pq (codeAny_mono (G2.run X.A X.stack s3 H1 ⟨.ref a :: us, []⟩ (.ref a :: (us ++ ds2)) (.ref a :: (ws ++ dvs)) _ E hr I5.env0 (b2' s3 (.ref a :: us) I5.kIn hl2) r2 q2) fun r s' hq => ?_))
      cases r with
      | error er => exact hx pins σ H1 s3 er s' I5 hq
      | ok fl =>
        cases fl with
        | ret u =>
          obtain ⟨v, H', I6, _, q3⟩ := I5.after hq
          exact ⟨rfl, H', I6, q3⟩
        | next => exact False.elim hq
        | brk => exact False.elim hq
        | cont => exact False.elim hq
end Gp
end
section
set_option Elab.async false
set_option linter.all false
set_option maxRecDepth 100000
set_option maxHeartbeats 4000000
namespace Gp
open PySem PySem.Spec PyProof.Rows L2 Gh
theorem execs_app (env : PySem.Env) (rest : List Stmt) : ∀ pre : List Stmt, execs (pre ++ rest) env = (execs pre env >>= fun f => match f with
  | .next => execs rest env
  | f => pure f)
  | [] => by
    show execs rest env = (pure Flow.next >>= _)
    rw [pure_bind]
  | st :: pre => by
    show execs (st :: (pre ++ rest)) env = _
    rw [execs_cons, execs_cons, bind_assoc]
    congr 1
    funext f
    cases f with
    | next => exact execs_app env rest pre
    | _ => rw [pure_bind]
theorem wpAt_app {M : Model} {A : Around} {c : Code} {env : PySem.Env} {pre rest : List Stmt} {Q : Flow → Shared → Prop} {E : Value → Shared → Prop} {s : Shared}
    (h : wpAny M A (execs pre env) (fun f s' => match f with
      | .next => _root_.PySem.wpAt M A c (execs rest env) Q E s'
      | f => Q f s') E s) : _root_.PySem.wpAt M A c (execs (pre ++ rest) env) Q E s := by
  rw [execs_app]
  refine _root_.PySem.wpAt_bind (_root_.PySem.wpAt_of_wpAny (wpAny_mono h (fun f s' hf => ?_) fun _ _ z => z))
  cases f with
  | next => exact hf
  | _ => exact _root_.PySem.wpAt_of_wpAny (wpAny_pure hf)
structure SupF (K : PySem.W.Frag) (x qual : Str) (params : Arguments) (body : List Stmt) (scope : Scope) (dvs : List V) (f D : Addr) (file : Str) (fd : FuncData) : Prop where
  ex : ∃ (oc : Value) (od : Option Addr) (dV kV doc pm : Value) (an : Option Addr) (cda : Addr) (ct : Value) (osl : Array (Option Value)) (cc : Addr),
    fd = PySem.W.fnX x qual params body scope [("__class__", cc)] dV kV doc pm an (.ref cda) ct ∧ K.lookup f = some ⟨oc, od, .func fd, osl⟩ ∧ PySem.W.codeIn K (.ref cda) qual = true ∧ DflV K dV dvs ∧
    (∃ cl cld csl, K.lookup cc = some ⟨cl, cld, .cell (some (.ref D)), csl⟩) ∧ ∃ ccl cdd vs ccs tf, K.lookup cda = some ⟨ccl, cdd, .fields vs, ccs⟩ ∧ vs[2]? = some (.str file tf)
  kp : PySem.W.keepIn K (.ref f) = true
structure SupT (K : PySem.W.Frag) (mg : Str → Option Value) (D : Addr) : Prop where
  cD : ∃ cd, PySem.W.clsIn K D = some cd
  mg : mg "super" = none
  st : PySem.W.nsIn K cStatics "thirdparty.any" = some none
section
variable {P : Program} {w : World} {K : PySem.W.Frag} {mg : Str → Option Value} {base : Heap} {CX : CXT} {k : Nat} {x qual file m ar : Str} {params : Arguments} {body : List Stmt} {scope : Scope} {dvs : List V} {f D : Addr} {fd : FuncData} {N ps : List Str} {sp : Sp}
abbrev scx (CX : CXT) (P : Program) (w : World) (K : PySem.W.Frag) (mg : Str → Option Value) (base : Heap) (N : List Str) (x qual : Str) (params : Arguments) (body : List Stmt) (scope : Scope) (cc cda f : Addr) (A : Around) (outer : List PySem.Env) (s : Shared) (H : Hp) (E : XK) : Cx :=
  NdefX.ncx CX P w K mg base N ⟨x, qual, params, body, scope, [("__class__", cc)], cda⟩ f A outer s H E
theorem SupF.ok {pre post : List Stmt} {p0 p1 apos pos epos : Pos} {e : Expr} {es : List Expr} (eb : body = pre ++ .Expr (.Call (.Attribute (.Call (.Name "super" p0) [] [] p1) m apos) (e :: es) [] pos) epos :: post) (F : SupF K x qual params body scope dvs f D file fd) (T : SupT K mg D) (S : NdefX.NScope N ps ["__class__"] scope)
    (len : ∀ vs H Q E, sp vs H Q E → vs.length = ps.length) (hfile : ((P.main.file : Str) == file) = true) (htop : (P.main.scope.names.lookup ("super" : Str)).isSome = false) (hm : (m == ("__class__" : Str)) = false) (hks : scope.names.lookup ("super" : Str) = some .globalImplicit)
    (har : ((params.posonlyargs ++ params.args).head?).map (·.arg) = some ar) (hn0 : N[0]? = some ar) (hka : scope.names.lookup ar = some .local)
    (hbody : ∀ (cc cda : Addr) (A : Around) (outer : List PySem.Env) (s : Shared) (H : Hp) (vs : List V) (Q : VK) (E : XK), Room k (scx CX P w K mg base N x qual params body scope cc cda f A outer s H E).A → sp vs H Q E →
      ∃ t1 ta t2 CX2 k2 f2 dvs2 sp2 E2, PSs (scx CX P w K mg base N x qual params body scope cc cda f A outer s H E) pre t1 ∧
        PA (scx CX P w K mg base N x qual params body scope cc cda f A outer s H E) (e :: es) ta ∧
        PSs (scx CX P w K mg base N x qual params body scope cc cda f A outer s H E) post t2 ∧
        PromO P w K mg base CX2 k2 f2 dvs2 sp2 ∧ k2 ≤ k ∧ Passes CX2 (scx CX P w K mg base N x qual params body scope cc cda f A outer s H E) E2 ∧
        t1 { nx := fun σ1 H1 => ∃ a C dx fs, σ1[0]? = some (some (.ref a)) ∧ H1 a = some (.ins C dx fs) ∧ SupC K C D m f2 ∧ ta σ1 H1 fun us H2 => sp2 (.ref a :: (us ++ dvs2)) H2 (fun _ H3 => t2 { nx := fun _ H' => Q .non H', rt := Q } σ1 H3) E2, rt := Q } (L2.start N vs) H)
    (hst : ∀ env : PySem.Env, starEach (e :: es) env = (false, eval e env) :: starEach es env := by intro _; rfl) (hpl : ∀ env : PySem.Env, (backTo pos (starEach es env)).any (·.1) = false := by intro _; rfl)
    (pl : PySem.Env → Sem Bool)
    (he : ∀ env : PySem.Env, eval (.Call (.Attribute (.Call (.Name "super" p0) [] [] p1) m apos) (e :: es) [] pos) env = (do
      let ov ← attributeBase (.Call (.Name "super" p0) [] [] p1) m env (eval (.Call (.Name "super" p0) [] [] p1) env)
      standAt apos.atName
      let (f, first) ← holding [ov] (getMethod ov m (pl env))
      callWith pos f first (backTo pos (starEach (e :: es) env)) []))
    (hsw : ∀ env : PySem.Env, swapsWith (.Call (.Attribute (.Call (.Name "super" p0) [] [] p1) m apos) (e :: es) [] pos) none epos.line env = pure false := by intro _; rfl) :
    FnOk P w K mg base CX (k + 1) f fd ps sp := by
  obtain ⟨oc, od, dV, kV, doc, pm, an, cda, ct, osl, cc, rfl, lk, hcd, _, ⟨cl, cld, csl, lkl⟩, ccl, cdd, vsc, ccs, tf, lkc, hvs⟩ := F.ex
  refine ⟨len, fun A outer s H args us vs Q E hr e0 hb r hsp => ?_⟩
  have KX : K.In s.heap := e0.mod.kin.keeps fun b o e => (e0.bs b o e).1
  have lim : s.heap.NoLimit := e0.mod.nolimit.keeps fun b o e => (e0.bs b o e).1
  have hl := len _ _ _ _ hsp
  have hpl2 : ps.length + 1 ≤ N.length := by
    have q := congrArg List.length S.pre
    rw [List.length_take, List.length_append] at q
    have : (["__class__"] : List Str).length = 1 := rfl
    omega
  refine ks_codeAny_call_defAt hr.depth (KX _ _ lk) rfl lim (PySem.W.codeRec_of KX hcd) rfl hb S.nocell (fun ⟨n, _⟩ hy => S.par n (List.of_mem_zip hy).1) (fun h₁ hns kp => ?_) S.co S.gen S.kind
  obtain ⟨t1, ta, t2, CX2, k2, f2, dvs2, sp2, E2, h1, h2, h3, G, hk2, hx2, hq⟩ := hbody cc cda A outer s H vs Q E (hr.deeper _) hsp
  have C : NdefX.CellsAt [(("__class__" : Str), cc)] ["__class__"] [none] s.heap H := by
    have hc : s.heap.get? cc = some ⟨cl, cld, .cell (some (.ref D)), csl⟩ := KX _ _ lkl
    have hH : H cc = none := by
      have hb : base.get? cc = some ⟨cl, cld, .cell (some (.ref D)), csl⟩ := e0.mod.kin _ _ lkl
      exact (e0.bs _ _ hb).2
    have one : ∀ (y : Str) (c : Addr), ([(("__class__" : Str), cc)] : List (Str × Addr)).lookup y = some c → y = "__class__" ∧ c = cc := fun y c hy => by
      rcases look_cons hy with ⟨e1, e2⟩ | z
      · exact ⟨e1, e2⟩
      · cases z
    refine ⟨rfl, fun y c hy => ?_, fun x y c hx hy => (one x c hx).1.trans (one y c hy).1.symm, fun i y hy => ?_⟩
    · obtain ⟨_, rfl⟩ := one y c hy
      exact ⟨hH, _, _, hc, rfl⟩
    · have e2 : y = "__class__" := by
        cases i with
        | zero => cases hy; rfl
        | succ i => cases hy
      subst e2
      refine ⟨cc, rfl, fun v hv => ?_⟩
      cases i with
      | zero => cases hv
      | succ i => cases hv
  have I := NdefX.inv_startN (CX := CX) (P := P) (w := w) (K := K) (mg := mg) (base := base) (N := N) (F := ⟨x, qual, params, body, scope, [("__class__", cc)], cda⟩) (f := f) (E := E) (tk := s.toks + (ps.zip us).length) S hr.hd e0 hl r C hns kp
  have est : NdefX.startF N vs [none] = L2.start N vs := by
    unfold NdefX.startF L2.start
    congr 1
    rw [List.length_singleton, ← List.singleton_append]
    have : N.length - vs.length = (N.length - vs.length - 1) + 1 := by omega
    rw [this, List.replicate_succ]
    rfl
  rw [est] at I
  have SX : SupX (scx CX P w K mg base N x qual params body scope cc cda f A outer s H E) D f cda cc ar := by
    refine ⟨rfl, rfl, ?_, ⟨ccl, cdd, vsc, ccs, file, tf, lkc, hvs, hfile⟩, htop, hks, S.frk _ (List.mem_singleton.mpr rfl), rfl, ⟨cl, cld, csl, lkl⟩, T.cD, T.mg, T.st, hn0, hka⟩
    cases z : (params.posonlyargs ++ params.args).head? with
    | none => rw [z] at har; cases har
    | some a =>
      rw [z] at har
      exact ⟨_, _, _, _, a, lk, z, Option.some.inj har⟩
  have fin : ∀ {s' : Shared} {σ' : L2.St} {H' : Hp} {v : V} {u : Value}, Inv (scx CX P w K mg base N x qual params body scope cc cda f A outer s H E) [] σ' H' s' → L2.RelV v u → Q v H' → CE outer P w H s Q u s' :=
    fun {s' σ' H' v u} J rv q => ⟨v, H', J.os, J.bare, J.base, J.hok, rv, q⟩
  have eb2 : execs body (scx CX P w K mg base N x qual params body scope cc cda f A outer s H E).env = execs (pre ++ .Expr (.Call (.Attribute (.Call (.Name "super" p0) [] [] p1) m apos) (e :: es) [] pos) epos :: post) (scx CX P w K mg base N x qual params body scope cc cda f A outer s H E).env := by rw [← eb]
  show _root_.PySem.wpAt _ _ _ (execs body _) _ _ _
  refine eb2 ▸ wpAt_app (wpAny_mono (h1.run [] _ (L2.start N vs) H _ I hq) (fun fl s' hs => ?_) fun _ _ z => z)
  cases fl with
  | ret u =>
    obtain ⟨v, σ', H', J, rv, q⟩ := hs
    exact fin J rv q
  | brk =>
    obtain ⟨_, _, _, q⟩ := hs
    exact False.elim q
  | cont =>
    obtain ⟨_, _, _, q⟩ := hs
    exact False.elim q
  | next =>
    obtain ⟨σ', H', J, q⟩ := hs
    refine ks_wpAt_execs_cons (_root_.PySem.wpAt_mono (sup_run (pl := pl _) SX hm h2 G ((hr.deeper _).mono hk2) hx2 J q (hst _) (hpl _) (he _) (hsw _)) (fun fl2 s2 hq2 => ?_) fun _ _ z => z)
    obtain ⟨rfl, H2, J2, q2⟩ := hq2
    refine _root_.PySem.wpAt_of_wpAny (wpAny_mono (h3.run [] s2 σ' H2 _ J2 q2) (fun fl s' hs => ?_) fun _ _ z => z)
    cases fl with
    | ret u =>
      obtain ⟨v, σ', H', J, rv, q⟩ := hs
      exact fin J rv q
    | next =>
      obtain ⟨σ', H', J, q⟩ := hs
      exact fin (v := V.non) (u := Value.none) J rfl q
    | brk =>
      obtain ⟨_, _, _, q⟩ := hs
      exact False.elim q
    | cont =>
      obtain ⟨_, _, _, q⟩ := hs
      exact False.elim q
end
end Gp
end
section
set_option Elab.async false
set_option linter.all false
set_option maxRecDepth 100000
set_option maxHeartbeats 4000000
namespace Gp
open PySem PySem.Spec PyProof.Rows L2 Gh
structure Ds where
  d : Df
  own : PySem.W.Frag → Addr
def fnAtS (K : PySem.W.Frag) (a : Addr) : He.FnW := match K.lookup a with
  | some ⟨_, _, .func fd, _⟩ => some (fd.name, fd.qualname, fd.params, fd.body, fd.scope, fd.globals, fd.closure.map (fun q => (q.1, 0)), fd.builtins)
  | _ => none
def Ds.val (d : Ds) : He.FnW := some (d.d.name, d.d.qual, defArgs d.d.st, .stmts (defBody d.d.st), defScope d.d.st, mainGlobals, [("__class__", 0)], builtinsNs)
def fileB (K : PySem.W.Frag) (file : Str) : Value → Bool
  | .ref c => (match K.lookup c with
    | some ⟨_, _, Data.fields vs, _⟩ => (match (vs[2]? : Option Value) with
      | some (Value.str f _) => decide (f = file)
      | _ => false)
    | _ => false)
  | _ => false
def cellB (K : PySem.W.Frag) (B : Addr) : List (Str × Addr) → Bool
  | [(_, c)] => (match K.lookup c with
    | some ⟨_, _, .cell (some (.ref b)), _⟩ => decide (b = B)
    | _ => false)
  | _ => false
def Ds.ok (file : Str) (K : PySem.W.Frag) (d : Ds) : Bool := PySem.W.keepIn K (.ref (d.d.adr K)) && (match K.lookup (d.d.adr K) with
  | some ⟨_, _, .func fd, _⟩ => PySem.W.codeIn K fd.code d.d.qual && (He.dflB K fd.defaults (d.d.dvs K) && (fileB K file fd.code && cellB K (d.own K) fd.closure))
  | _ => false)
structure SaysS (ex : List (PySem.W.Frag → Bool)) (fn : List Df) (tf : List He.Defn) (fs : List Ds) (file : Str) (h : Heap) (K : PySem.W.Frag) : Prop where
  s : SaysT ex fn tf h K
  o : (fs.all fun d => d.ok file K) = true
  v : (fs.map fun d => fnAtS K (d.d.adr K)) = fs.map Ds.val
abbrev AlS : Type := AlT × Bool × List He.FnW
def supCB (c b : Str) (m : Str) (f2 : PySem.W.Frag → Addr) (K : PySem.W.Frag) : Bool := decide (PySem.W.mroIn K (gd c K) (.ref (gd b K)) = some true) && (He.eqO (PySem.W.ks_superIn K (gd c K) (gd b K) m) (some (some (.ref (f2 K)))) && (decide (PySem.W.typeIn K (.ref (f2 K)) = some (.type "function")) && PySem.W.fnIn K (f2 K)))
end Gp
end
section
set_option Elab.async false
set_option linter.all false
set_option maxRecDepth 100000
set_option maxHeartbeats 4000000
namespace Gp
open PySem PySem.Spec PyProof.Rows L2 Gh
section
variable {P : Program} {w : World} {K : PySem.W.Frag} {mg : Str → Option Value} {base : Heap} {CX : CXT} {k : Nat} {x qual file m ar : Str} {params : Arguments} {body : List Stmt} {scope : Scope} {dvs : List V} {f D : Addr} {fd : FuncData} {N ps : List Str} {sp : Sp}
theorem SupF.run {A : Around} {outer : List PySem.Env} {s : Shared} {H : Hp} {args : Args} {Q : VK} {E : XK} {G : List V → Hp → Prop} {pre post : List Stmt} {p0 p1 apos pos epos : Pos} {e : Expr} {es : List Expr} (eb : body = pre ++ .Expr (.Call (.Attribute (.Call (.Name "super" p0) [] [] p1) m apos) (e :: es) [] pos) epos :: post) (F : SupF K x qual params body scope dvs f D file fd) (T : SupT K mg D) (S : NdefX.NScope N ps ["__class__"] scope)
    (hr : Room (k + 1) A) (e0 : Env0 P w K mg base A outer s H) (hb : StX.Bnd CX P w K mg base fd args ps A outer s H E G) (hfile : ((P.main.file : Str) == file) = true) (htop : (P.main.scope.names.lookup ("super" : Str)).isSome = false) (hm : (m == ("__class__" : Str)) = false) (hks : scope.names.lookup ("super" : Str) = some .globalImplicit)
    (har : ((params.posonlyargs ++ params.args).head?).map (·.arg) = some ar) (hn0 : N[0]? = some ar) (hka : scope.names.lookup ar = some .local)
    (hbody : ∀ (cc cda : Addr) (s : Shared) (H : Hp) (vs : List V), Room k (scx CX P w K mg base N x qual params body scope cc cda f A outer s H E).A → G vs H →
      ∃ t1 ta t2 CX2 k2 f2 dvs2 sp2 E2, PSs (scx CX P w K mg base N x qual params body scope cc cda f A outer s H E) pre t1 ∧
        PA (scx CX P w K mg base N x qual params body scope cc cda f A outer s H E) (e :: es) ta ∧
        PSs (scx CX P w K mg base N x qual params body scope cc cda f A outer s H E) post t2 ∧
        PromO P w K mg base CX2 k2 f2 dvs2 sp2 ∧ k2 ≤ k ∧ Passes CX2 (scx CX P w K mg base N x qual params body scope cc cda f A outer s H E) E2 ∧
        t1 { nx := fun σ1 H1 => ∃ a C dx fs, σ1[0]? = some (some (.ref a)) ∧ H1 a = some (.ins C dx fs) ∧ SupC K C D m f2 ∧ ta σ1 H1 fun us H2 => sp2 (.ref a :: (us ++ dvs2)) H2 (fun _ H3 => t2 { nx := fun _ H' => Q .non H', rt := Q } σ1 H3) E2, rt := Q } (L2.start N vs) H)
    (hst : ∀ env : PySem.Env, starEach (e :: es) env = (false, eval e env) :: starEach es env := by intro _; rfl) (hpl : ∀ env : PySem.Env, (backTo pos (starEach es env)).any (·.1) = false := by intro _; rfl)
    (pl : PySem.Env → Sem Bool)
    (he : ∀ env : PySem.Env, eval (.Call (.Attribute (.Call (.Name "super" p0) [] [] p1) m apos) (e :: es) [] pos) env = (do
      let ov ← attributeBase (.Call (.Name "super" p0) [] [] p1) m env (eval (.Call (.Name "super" p0) [] [] p1) env)
      standAt apos.atName
      let (f, first) ← holding [ov] (getMethod ov m (pl env))
      callWith pos f first (backTo pos (starEach (e :: es) env)) []))
    (hsw : ∀ env : PySem.Env, swapsWith (.Call (.Attribute (.Call (.Name "super" p0) [] [] p1) m apos) (e :: es) [] pos) none epos.line env = pure false := by intro _; rfl) :
    codeAny (model P w) A (.call (.ref f) args) (CR CX outer P w H s Q E) s := by
  obtain ⟨oc, od, dV, kV, doc, pm, an, cda, ct, osl, cc, rfl, lk, hcd, _, ⟨cl, cld, csl, lkl⟩, ccl, cdd, vsc, ccs, tf, lkc, hvs⟩ := F.ex
  have KX0 : K.In s.heap := e0.mod.kin.keeps fun b o e => (e0.bs b o e).1
  refine codeAny_call_function hr.depth (KX0 _ _ lk) rfl S.co S.gen rfl (PySem.W.codeRec_of KX0 hcd) ?_
  refine hb _ _ _ fun s2 H2 vs us e2 un ho hxx r hl gg => ?_
  have KX : K.In s2.heap := e0.mod.kin.keeps fun b o e => (e2.bs b o e).1
  have lim : s2.heap.NoLimit := e0.mod.nolimit.keeps fun b o e => (e2.bs b o e).1
  have hpl2 : ps.length + 1 ≤ N.length := by
    have q := congrArg List.length S.pre
    rw [List.length_take, List.length_append] at q
    have : (["__class__"] : List Str).length = 1 := rfl
    omega
  refine wpAny_newFunctionEnv S.nocell (fun ⟨n, _⟩ hy => S.par n (List.of_mem_zip hy).1) (fun h₁ hns hsb => ⟨lim.fresh _ hsb, ks_codeAny_funcAt ?_⟩) S.kind
  have kp : ∀ b o, s2.heap.get? b = some o → h₁.get? b = some o := fun b o e => hsb.extBut b o (Nat.ne_of_lt (Heap.lt_size e)) (Heap.get?_push_of_some _ e)
  refine _root_.PySem.wpAt_mono (Q := fun fl s' => CR CX outer P w H s Q E (.ok (.ret (match fl with | .ret v => v | _ => .none))) s') (E := (scx CX P w K mg base N x qual params body scope cc cda f A outer s2 H2 E).xe) ?_ (fun _ _ z => z) (fun e s' hs => wpAny_mono hs (fun _ s'' z => hxx e s'' z) fun e' s'' z => hxx e' s'' z)
  obtain ⟨t1, ta, t2, CX2, k2, f2, dvs2, sp2, E2, h1, h2, h3, G, hk2, hx2, hq⟩ := hbody cc cda s2 H2 vs (hr.deeper _) gg
  have C : NdefX.CellsAt [(("__class__" : Str), cc)] ["__class__"] [none] s2.heap H2 := by
    have hc : s2.heap.get? cc = some ⟨cl, cld, .cell (some (.ref D)), csl⟩ := KX _ _ lkl
    have hH : H2 cc = none := by
      have hb : base.get? cc = some ⟨cl, cld, .cell (some (.ref D)), csl⟩ := e0.mod.kin _ _ lkl
      exact (e2.bs _ _ hb).2
    have one : ∀ (y : Str) (c : Addr), ([(("__class__" : Str), cc)] : List (Str × Addr)).lookup y = some c → y = "__class__" ∧ c = cc := fun y c hy => by
      rcases look_cons hy with ⟨e1, e2⟩ | z
      · exact ⟨e1, e2⟩
      · cases z
    refine ⟨rfl, fun y c hy => ?_, fun x y c hx hy => (one x c hx).1.trans (one y c hy).1.symm, fun i y hy => ?_⟩
    · obtain ⟨_, rfl⟩ := one y c hy
      exact ⟨hH, _, _, hc, rfl⟩
    · have e2 : y = "__class__" := by
        cases i with
        | zero => cases hy; rfl
        | succ i => cases hy
      subst e2
      refine ⟨cc, rfl, fun v hv => ?_⟩
      cases i with
      | zero => cases hv
      | succ i => cases hv
  have I := NdefX.inv_startN (CX := CX) (P := P) (w := w) (K := K) (mg := mg) (base := base) (N := N) (F := ⟨x, qual, params, body, scope, [("__class__", cc)], cda⟩) (f := f) (E := E) (tk := s2.toks + (ps.zip us).length) S hr.hd e2 hl r C hns kp
  have est : NdefX.startF N vs [none] = L2.start N vs := by
    unfold NdefX.startF L2.start
    congr 1
    rw [List.length_singleton, ← List.singleton_append]
    have : N.length - vs.length = (N.length - vs.length - 1) + 1 := by omega
    rw [this, List.replicate_succ]
    rfl
  rw [est] at I
  have SX : SupX (scx CX P w K mg base N x qual params body scope cc cda f A outer s2 H2 E) D f cda cc ar := by
    refine ⟨rfl, rfl, ?_, ⟨ccl, cdd, vsc, ccs, file, tf, lkc, hvs, hfile⟩, htop, hks, S.frk _ (List.mem_singleton.mpr rfl), rfl, ⟨cl, cld, csl, lkl⟩, T.cD, T.mg, T.st, hn0, hka⟩
    cases z : (params.posonlyargs ++ params.args).head? with
    | none => rw [z] at har; cases har
    | some a =>
      rw [z] at har
      exact ⟨_, _, _, _, a, lk, z, Option.some.inj har⟩
  have fin : ∀ {s' : Shared} {σ' : L2.St} {H' : Hp} {v : V} {u : Value}, Inv (scx CX P w K mg base N x qual params body scope cc cda f A outer s2 H2 E) [] σ' H' s' → L2.RelV v u → Q v H' → CE outer P w H s Q u s' :=
    fun {s' σ' H' v u} J rv q => ⟨v, H', J.os.trans ho, J.bare, un.trans J.base, J.hok, rv, q⟩
  have eb2 : execs body (scx CX P w K mg base N x qual params body scope cc cda f A outer s2 H2 E).env = execs (pre ++ .Expr (.Call (.Attribute (.Call (.Name "super" p0) [] [] p1) m apos) (e :: es) [] pos) epos :: post) (scx CX P w K mg base N x qual params body scope cc cda f A outer s2 H2 E).env := by rw [← eb]
  show _root_.PySem.wpAt _ _ _ (execs body _) _ _ _
  refine eb2 ▸ wpAt_app (wpAny_mono (h1.run [] _ (L2.start N vs) H2 _ I hq) (fun fl s' hs => ?_) fun _ _ z => z)
  cases fl with
  | ret u =>
    obtain ⟨v, σ', H', J, rv, q⟩ := hs
    exact fin J rv q
  | brk =>
    obtain ⟨_, _, _, q⟩ := hs
    exact False.elim q
  | cont =>
    obtain ⟨_, _, _, q⟩ := hs
    exact False.elim q
  | next =>
    obtain ⟨σ', H', J, q⟩ := hs
    refine ks_wpAt_execs_cons (_root_.PySem.wpAt_mono (sup_run (pl := pl _) SX hm h2 G ((hr.deeper _).mono hk2) hx2 J q (hst _) (hpl _) (he _) (hsw _)) (fun fl2 s3 hq2 => ?_) fun _ _ z => z)
    obtain ⟨rfl, H3, J2, q2⟩ := hq2
    refine _root_.PySem.wpAt_of_wpAny (wpAny_mono (h3.run [] s3 σ' H3 _ J2 q2) (fun fl s' hs => ?_) fun _ _ z => z)
    cases fl with
    | ret u =>
      obtain ⟨v, σ', H', J, rv, q⟩ := hs
      exact fin J rv q
    | next =>
      obtain ⟨σ', H', J, q⟩ := hs
      exact fin (v := V.non) (u := Value.none) J rfl q
    | brk =>
      obtain ⟨_, _, _, q⟩ := hs
      exact False.elim q
    | cont =>
      obtain ⟨_, _, _, q⟩ := hs
      exact False.elim q
end
section
variable {g : Gw} {Mt U0 U U' : Addr → Prop} {H0 H H' H1 H2 : Hp} {b b1 b2 : Nat} {σ : L2.St} {ε ε' : Env} {E : XK}
end
end Gp
end
section
set_option Elab.async false
set_option linter.all false
set_option maxRecDepth 100000
set_option maxHeartbeats 4000000
namespace Gp
open PySem PySem.Spec PyProof.Rows L2 Gh
def frL {α : Type} : List (Addr × Obj) → (List (Addr × Obj) → α) → α
  | [], k => k []
  | (a, o) :: r, k => frL r fun r' => k ((a, o) :: r')
theorem frL_eq {α : Type} : ∀ (l : List (Addr × Obj)) (k : List (Addr × Obj) → α), frL l k = k l
  | [], _ => rfl
  | (a, o) :: r, k => by
    show frL r (fun r' => k ((a, o) :: r')) = _
    rw [frL_eq r]
def obsK (ex : List (PySem.W.Frag → Bool)) (fn : List Df) (tf : List He.Defn) (fs : List Ds) (file : Str) (g : Addr → Option Obj) (K : PySem.W.Frag) : AlS :=
  ((obs ex fn K, He.tabsB g tf K), (fs.all fun d => d.ok file K), fs.map fun d => fnAtS K (d.d.adr K))
def obsL (as : List Addr) (ex : List (PySem.W.Frag → Bool)) (fn : List Df) (tf : List He.Defn) (fs : List Ds) (file : Str) (g : Addr → Option Obj) : AlS := frL (He.frT g as) fun K => obsK ex fn tf fs file g K
theorem saysL_of {as : List Addr} {ex : List (PySem.W.Frag → Bool)} {fn : List Df} {tf : List He.Defn} {h : Heap} (e1 : obs ex fn (He.frT h.get? as) = val fn) (e2 : He.tabsB h.get? tf (He.frT h.get? as) = true) : SaysT ex fn tf h (He.frT h.get? as) := by
  have key : ∀ p ∈ tf, PySem.W.codeHdIn (He.frT h.get? as) (He.cT (He.frT h.get? as) p).1 (He.cT (He.frT h.get? as) p).2 = true ∧ ∃ o, h.get? (He.cT (He.frT h.get? as) p).2 = some o ∧ He.emptyTab o = true := fun p hp => by
    obtain ⟨h3, h4⟩ := He.ba (List.all_eq_true.mp e2 p hp)
    refine ⟨h3, ?_⟩
    cases q : h.get? (He.cT (He.frT h.get? as) p).2 with
    | none =>
      rw [q] at h4
      cases h4
    | some o =>
      rw [q] at h4
      exact ⟨o, rfl, h4⟩
  exact ⟨e1, fun p hp => (key p hp).1, fun p hp => by
    obtain ⟨_, o, q, z⟩ := key p hp
    exact He.frT_none q z, fun p hp => by
    obtain ⟨_, o, q, z⟩ := key p hp
    rw [q, He.emptyTab_eq z]⟩
def hookL (as : List Addr) (ex : List (PySem.W.Frag → Bool)) (fn : List Df) (tf : List He.Defn) (fs : List Ds) (file : Str) : PySem.W.Hook where
  α := AlS
  obs := fun s => obsL as ex fn tf fs file s.heap.get?
  val := fun _ => ((Gh.val fn, true), true, fs.map Ds.val)
  says := fun _ h => ∃ K : PySem.W.Frag, K.In h ∧ SaysS ex fn tf fs file h K
  of := fun _ s e => by
    have e' : obsK ex fn tf fs file _ (He.frT _ as) = ((Gh.val fn, true), true, fs.map Ds.val) := (frL_eq _ _).symm.trans e
    exact ⟨_, He.frT_in, ⟨saysL_of (congrArg (fun z : AlS => z.1.1) e') (congrArg (fun z : AlS => z.1.2) e'), congrArg (fun z : AlS => z.2.1) e', congrArg (fun z : AlS => z.2.2) e'⟩⟩
  keeps := fun _ _ _ ⟨K, hK, c⟩ k => ⟨K, PySem.W.Frag.In.keeps hK k, ⟨⟨c.s.t, c.s.hd, c.s.out, fun p hp => k _ _ (c.s.empty p hp)⟩, c.o, c.v⟩⟩
end Gp
end
section
set_option Elab.async false
set_option linter.all false
set_option maxRecDepth 100000
set_option maxHeartbeats 4000000
namespace Gp
open PySem PySem.Spec PyProof.Rows L2 Gh
section
variable {g : Gw} {Mt U0 U U' : Addr → Prop} {H0 H H' H1 H2 : Hp} {b b1 : Nat} {σ : L2.St} {ε ε' : Env} {E : XK} {W L W' : Type}
variable {env : W → Env} {envL : L → Env} {env' : W' → Env} {u ta tb : TS} {te ti : TE} {me mi : Tr D}
structure Pnd (g : Gw) (Mt U0 : Addr → Prop) (H0 : Hp) (U : Addr → Prop) (σ : L2.St) (H : Hp) (ε : Env) (A : Addr) (ds : List D) : Prop where
  at_ : ∃ vs, H A = some (.lst vs) ∧ vs.length ≤ sizeLine ∧ DenL g U H vs ds
  u : U A
  np : A ≠ g.p
  nc : A ≠ g.c
  n0 : ¬ U0 A
  no : ∀ j, ¬ OwnAt σ ε j A
  mt : Mt A ∨ ∀ o, H0 A = some o → ∃ ps, o = .tbl ps
inductive QR (g : Gw) (Mt U0 : Addr → Prop) (H0 : Hp) (U : Addr → Prop) (σ : L2.St) (H : Hp) (ε : Env) : Nat → List V → List D → Prop
  | here {A : Addr} {ds : List D} {vs : List V} {xs : List D} : Pnd g Mt U0 H0 U σ H ε A ds → DenL g U H vs xs → QR g Mt U0 H0 U σ H ε 0 (.ref A :: vs) (.lst ds :: xs)
  | next {n : Nat} {v : V} {d : D} {vs : List V} {ds : List D} : Den g U H v d → QR g Mt U0 H0 U σ H ε n vs ds → QR g Mt U0 H0 U σ H ε (n + 1) (v :: vs) (d :: ds)
theorem QR.length {n : Nat} : ∀ {vs : List V} {ds : List D}, QR g Mt U0 H0 U σ H ε n vs ds → vs.length = ds.length
  | _, _, .here _ k => congrArg (· + 1) k.length
  | _, _, .next _ r => congrArg (· + 1) r.length
end
end Gp
end
section
set_option Elab.async false
set_option linter.all false
set_option maxRecDepth 100000
set_option maxHeartbeats 4000000
namespace Gp
open PySem PySem.Spec PyProof.Rows L2 Gh
inductive ItH where
  | s (x : Str) | n (i : Int) | f (x : Str)
def ItH.d (fs : Fs) : ItH → Option D
  | .s x => if x.length ≤ sizeLine then some (.str x) else none
  | .n k => some (.int k)
  | .f x => fs.lookup x
section
variable {g : Gw} {U : Addr → Prop} {H H' : Hp} {b : Nat} {σ : L2.St} {ε : Env}
def Fz (ε : Env) : Prop := ∀ s ∈ ε, (∃ d, s = .fz d) ∨ s = .no
theorem Fz.own (h : Fz ε) : ∀ i a, ¬ OwnAt σ ε i a := fun i a ⟨_, z⟩ => by
  rcases z with ⟨x, z⟩ | ⟨x, y, z⟩
  · rcases h _ (List.mem_of_getElem? z) with ⟨d, e⟩ | e <;> cases e
  · rcases h _ (List.mem_of_getElem? z) with ⟨d, e⟩ | e <;> cases e
end
end Gp
end
section
set_option Elab.async false
set_option linter.all false
set_option maxRecDepth 100000
set_option maxHeartbeats 0
namespace Lw
open PySem PySem.Spec PyProof.Rows L2 Gh Gp
def top (i : Nat) : Stmt := PySem.Challenge.pw_everyhunt_k25_whole_stretches_bring_item.main.body.getD i (.Pass ⟨0, 0, 0, 0⟩)
abbrev s_BadLength___init__ : Stmt := inClass (top 3) 0
def d_BadLength___init__ : Df := ⟨md "BadLength" "__init__", "__init__", "BadLength.__init__", s_BadLength___init__, []⟩
abbrev s_BadPlace___init__ : Stmt := inClass (top 4) 0
def d_BadPlace___init__ : Df := ⟨md "BadPlace" "__init__", "__init__", "BadPlace.__init__", s_BadPlace___init__, []⟩
abbrev s__law_pen : Stmt := top 33
def d__law_pen : Df := ⟨gd "_law_pen", "_law_pen", "_law_pen", s__law_pen, []⟩
abbrev s__law_draw : Stmt := top 34
def d__law_draw : Df := ⟨gd "_law_draw", "_law_draw", "_law_draw", s__law_draw, []⟩
abbrev s_is_integer : Stmt := top 10
def d_is_integer : Df := ⟨gd "is_integer", "is_integer", "is_integer", s_is_integer, []⟩
abbrev s_is_within : Stmt := top 11
def d_is_within : Df := ⟨gd "is_within", "is_within", "is_within", s_is_within, []⟩
abbrev s_is_length : Stmt := top 12
def d_is_length : Df := ⟨gd "is_length", "is_length", "is_length", s_is_length, []⟩
abbrev s_need_length : Stmt := top 13
def d_need_length : Df := ⟨gd "need_length", "need_length", "need_length", s_need_length, []⟩
abbrev s_need_place : Stmt := top 14
def d_need_place : Df := ⟨gd "need_place", "need_place", "need_place", s_need_place, []⟩
abbrev s_seat_at : Stmt := top 26
def d_seat_at : Df := ⟨gd "seat_at", "seat_at", "seat_at", s_seat_at, []⟩
abbrev s_place_at : Stmt := top 27
def d_place_at : Df := ⟨gd "place_at", "place_at", "place_at", s_place_at, []⟩
abbrev s_seat_behind : Stmt := top 30
def d_seat_behind : Df := ⟨gd "seat_behind", "seat_behind", "seat_behind", s_seat_behind, []⟩
abbrev s_Span___init__ : Stmt := inClass (top 22) 1
def d_Span___init__ : Df := ⟨md "Span" "__init__", "__init__", "Span.__init__", s_Span___init__, [.int 0, .int 0]⟩
abbrev s_Span_halves : Stmt := inClass (top 22) 4
def d_Span_halves : Df := ⟨propG "Span" "halves", "halves", "Span.halves", s_Span_halves, []⟩
abbrev s_Span_more : Stmt := inClass (top 22) 5
def d_Span_more : Df := ⟨propG "Span" "more", "more", "Span.more", s_Span_more, []⟩
abbrev s_Span_odd : Stmt := inClass (top 22) 6
def d_Span_odd : Df := ⟨propG "Span" "odd", "odd", "Span.odd", s_Span_odd, []⟩
abbrev s_Span_number_at : Stmt := inClass (top 22) 8
def d_Span_number_at : Df := ⟨md "Span" "number_at", "number_at", "Span.number_at", s_Span_number_at, []⟩
abbrev s_Span___call__ : Stmt := inClass (top 22) 7
def d_Span___call__ : Df := ⟨md "Span" "__call__", "__call__", "Span.__call__", s_Span___call__, []⟩
abbrev s_Sided___init___at_Stretch : Stmt := inClass (top 17) 0
def d_Sided___init___at_Stretch : Df := ⟨md "Sided" "__init__", "__init__", "Sided.__init__", s_Sided___init___at_Stretch, []⟩
abbrev s_Stretch___init__ : Stmt := inClass (top 31) 0
def ds_Stretch___init__ : Gp.Ds := ⟨⟨md "Stretch" "__init__", "__init__", "Stretch.__init__", s_Stretch___init__, [.str "front", .bl false]⟩, gd "Stretch"⟩
abbrev s_Stretch_changes : Stmt := inClass (top 31) 2
def d_Stretch_changes : Df := ⟨md "Stretch" "changes", "changes", "Stretch.changes", s_Stretch_changes, []⟩
abbrev s_Stretch_begin : Stmt := inClass (top 31) 3
def d_Stretch_begin : Df := ⟨md "Stretch" "begin", "begin", "Stretch.begin", s_Stretch_begin, []⟩
abbrev s_Stretch_to : Stmt := inClass (top 31) 5
def d_Stretch_to : Df := ⟨md "Stretch" "to", "to", "Stretch.to", s_Stretch_to, []⟩
abbrev s__law_pick : Stmt := top 35
def d__law_pick : Df := ⟨gd "_law_pick", "_law_pick", "_law_pick", s__law_pick, []⟩
abbrev s__law_changed : Stmt := top 36
def d__law_changed : Df := ⟨gd "_law_changed", "_law_changed", "_law_changed", s__law_changed, []⟩
abbrev s__law_kinds : Stmt := top 37
def d__law_kinds : Df := ⟨gd "_law_kinds", "_law_kinds", "_law_kinds", s__law_kinds, []⟩
abbrev s__law_count : Stmt := top 38
def d__law_count : Df := ⟨gd "_law_count", "_law_count", "_law_count", s__law_count, []⟩
abbrev s__law_told : Stmt := top 39
def d__law_told : Df := ⟨gd "_law_told", "_law_told", "_law_told", s__law_told, []⟩
abbrev s__law_plain : Stmt := top 40
def d__law_plain : Df := ⟨gd "_law_plain", "_law_plain", "_law_plain", s__law_plain, []⟩
abbrev s__law_played : Stmt := top 41
def d__law_played : Df := ⟨gd "_law_played", "_law_played", "_law_played", s__law_played, []⟩
abbrev s__law_moved : Stmt := top 43
def d__law_moved : Df := ⟨gd "_law_moved", "_law_moved", "_law_moved", s__law_moved, []⟩
abbrev s__law_went : Stmt := top 44
def d__law_went : Df := ⟨gd "_law_went", "_law_went", "_law_went", s__law_went, []⟩
abbrev s__law_stretch : Stmt := top 45
def d__law_stretch : Df := ⟨gd "_law_stretch", "_law_stretch", "_law_stretch", s__law_stretch, []⟩
abbrev s__law_part : Stmt := top 46
def d__law_part : Df := ⟨gd "_law_part", "_law_part", "_law_part", s__law_part, []⟩
abbrev s__law_short_right : Stmt := top 47
def d__law_short_right : Df := ⟨gd "_law_short_right", "_law_short_right", "_law_short_right", s__law_short_right, []⟩
abbrev s__law_great : Stmt := top 48
def d__law_great : Df := ⟨gd "_law_great", "_law_great", "_law_great", s__law_great, []⟩
abbrev s__law_great_right : Stmt := top 49
def d__law_great_right : Df := ⟨gd "_law_great_right", "_law_great_right", "_law_great_right", s__law_great_right, []⟩
abbrev s__law_heard : Stmt := top 50
def d__law_heard : Df := ⟨gd "_law_heard", "_law_heard", "_law_heard", s__law_heard, []⟩
abbrev s__law_refused_right : Stmt := top 51
def d__law_refused_right : Df := ⟨gd "_law_refused_right", "_law_refused_right", "_law_refused_right", s__law_refused_right, []⟩
abbrev s_law : Stmt := top 52
def d_law : Df := ⟨gd "law", "law", "law", s_law, []⟩
def fns : List Df := [d_BadLength___init__, d_BadPlace___init__, d__law_pen, d__law_draw, d_is_integer, d_is_within, d_is_length, d_need_length, d_need_place, d_seat_at, d_place_at, d_seat_behind, d_Span___init__, d_Span_halves, d_Span_more, d_Span_odd, d_Span_number_at, d_Span___call__, d_Sided___init___at_Stretch, d_Stretch_changes, d_Stretch_begin, d_Stretch_to, d__law_pick, d__law_changed, d__law_kinds, d__law_count, d__law_told, d__law_plain, d__law_played, d__law_moved, d__law_went, d__law_stretch, d__law_part, d__law_short_right, d__law_great, d__law_great_right, d__law_heard, d__law_refused_right, d_law]
def sds : List Gp.Ds := [ds_Stretch___init__]
def pfile : Str := PySem.Challenge.pw_everyhunt_k25_whole_stretches_bring_item.main.file
def exs : List (PySem.W.Frag → Bool) := [fa (.free "abs"), fa (.free "bool"), fa (.free "int"), fa (.free "isinstance"), fa (.free "len"), fa (.free "list"), fa (.free "range"), fa (.free "repr"), fa (.free "str"), fa (.free "super"), fa (.glo "_law_pen"), fa (.keep "_law_pen"), fa (.glo "_law_draw"), fa (.keep "_law_draw"), fa (.glo "is_integer"), fa (.keep "is_integer"), fa (.glo "is_within"), fa (.keep "is_within"), fa (.glo "is_length"), fa (.keep "is_length"), fa (.glo "need_length"), fa (.keep "need_length"), fa (.glo "need_place"), fa (.keep "need_place"), fa (.glo "seat_at"), fa (.keep "seat_at"), fa (.glo "place_at"), fa (.keep "place_at"), fa (.glo "seat_behind"), fa (.keep "seat_behind"),
  fa (.glo "_law_pick"), fa (.keep "_law_pick"), fa (.glo "_law_changed"), fa (.keep "_law_changed"), fa (.glo "_law_kinds"), fa (.keep "_law_kinds"), fa (.glo "_law_count"), fa (.keep "_law_count"), fa (.glo "_law_told"), fa (.keep "_law_told"), fa (.glo "_law_plain"), fa (.keep "_law_plain"), fa (.glo "_law_played"), fa (.keep "_law_played"), fa (.glo "_law_moved"), fa (.keep "_law_moved"), fa (.glo "_law_went"), fa (.keep "_law_went"), fa (.glo "_law_stretch"), fa (.keep "_law_stretch"), fa (.glo "_law_part"), fa (.keep "_law_part"), fa (.glo "_law_short_right"), fa (.keep "_law_short_right"), fa (.glo "_law_great"), fa (.keep "_law_great"), fa (.glo "_law_great_right"), fa (.keep "_law_great_right"), fa (.glo "_law_heard"), fa (.keep "_law_heard"),
  fa (.glo "_law_refused_right"), fa (.keep "_law_refused_right"), fa (.glo "BadLength"), fa (.keep "BadLength"), fa (.glo "BadPlace"), fa (.keep "BadPlace"), fa (.glo "Span"), fa (.keep "Span"), fa (.glo "Sided"), fa (.keep "Sided"), fa (.glo "Stretch"), fa (.keep "Stretch"), fa (.glo "HuntError"), fa (.keep "HuntError"), fa (.int "GREATEST_LENGTH" 10000000000000000000000000000000000000000), fa (.int "MOST_HALVES" 8), fa (.int "MOST_MORE" 60), fa (.int "MOST_ODD" 9), fa (.noat "BadLength" "value"), errB "BadLength", oexB "BadLength", iniB "BadLength", (fun K => decide (PySem.W.exmOne K (.ref (gd "BadLength" K)) (.ref (gd "HuntError" K)) = some true)), fa (.noat "BadPlace" "value"), errB "BadPlace", oexB "BadPlace", iniB "BadPlace", (fun K => decide (PySem.W.exmOne K (.ref (gd "BadPlace" K)) (.ref (gd "HuntError" K)) = some true)), fa (.cls "Span"), insB "Span",
  fa (.noat "Span" "own_parts"), fa (.mkr "Span"), propB "Span" "halves", propB "Span" "more", propB "Span" "odd", fa (.meth "Span" "number_at"), fa (.meth "Span" "__call__"), coB "Span", fa (.cls "Sided"), insB "Sided", fa (.cls "Stretch"), insB "Stretch", fa (.noat "Stretch" "side"), fa (.noat "Stretch" "first"), fa (.noat "Stretch" "span"), fa (.noat "Stretch" "late"), fa (.mkr "Stretch"), fa (.meth "Stretch" "changes"), fa (.meth "Stretch" "begin"), fa (.meth "Stretch" "to"), fa (.glo "SIDES"), (fun K => He.tupB K "SIDES" [.str "front", .str "back"]), (fun K => He.eqO (PySem.W.nsIn K cStatics "thirdparty.any") (some none)), (fun K => (PySem.W.clsIn K (gd "Stretch" K)).isSome), supCB "Stretch" "Stretch" "__init__" (md "Sided" "__init__"), (fun K => xfB K (gd "BadLength" K)), (fun K => xfB K (gd "BadPlace" K)), (fun K => decide (PySem.W.exmOne K (.ref (gd "BadLength" K)) (.ref (gd "BadLength" K)) = some true)), (fun K => decide (PySem.W.exmOne K (.ref (gd "BadPlace" K)) (.ref (gd "BadLength" K)) = some false)), (fun K => decide (PySem.W.exmOne K (.ref (gd "BadPlace" K)) (.ref (gd "BadPlace" K)) = some true)),
  (fun K => decide (PySem.W.kitOne K (.ref (gd "Stretch" K)) (.ref (gd "Span" K)) = some false)), fa (.glo "law")]
def loose0 : List Str := ["_wall", "__name__", "HuntError", "BadLength", "BadPlace", "BadSpan", "BadStep", "BadText", "GREATEST_LENGTH", "is_integer", "is_within", "is_length"]
def loose1 : List Str := ["need_length", "need_place", "Step", "Sided", "MOST_HALVES", "MOST_MORE", "MOST_ODD", "Span", "number_in", "are_parts", "seat_at", "place_at"]
def loose2 : List Str := ["SIDES", "seat_behind", "Stretch", "_law_pen", "_law_draw", "_law_pick", "_law_changed", "_law_kinds", "_law_count", "_law_told", "_law_plain", "_law_played"]
def loose3 : List Str := ["_law_behind", "_law_moved", "_law_went", "_law_stretch", "_law_part", "_law_short_right", "_law_great", "_law_great_right", "_law_heard", "_law_refused_right"]
def loose : List Str := loose0 ++ loose1 ++ loose2 ++ loose3
abbrev R : PySem.W.OpenRow := PySem.W.OpenLaw.row PySem.Challenge.rw_everyhunt_k25_whole_stretches_bring_item
def tfs : List He.Defn := [("_law_refused_right", none)]
def adrs : List Addr := [3, 31, 51, 70, 136, 143, 150, 157, 164, 198, 219, 394, 417, 424, 425, 432, 509, 518, 525, 532, 539, 544, 551, 556, 563, 570, 584, 591, 598, 605, 610, 617, 624, 631, 638, 645, 30, 50, 69, 135, 142, 149, 156, 163, 197, 218, 393, 416, 423, 431, 508, 517, 524, 531, 538, 543, 550, 555, 562, 569, 583, 590, 597, 604, 609, 616, 623, 630, 637, 644, 48, 67, 216, 236, 263, 271, 279, 286, 293, 449, 464, 471, 485, 47, 66, 215, 235, 229, 262, 270, 278, 285, 292, 448, 441, 436, 463, 470, 484, 261, 269, 277, 2]
abbrev hk : PySem.W.Hook := Gp.hookL adrs exs fns tfs sds pfile
def ob (s : PySem.W.SharedT) : Gp.AlS := Gp.obsL adrs exs fns tfs sds pfile (HandSHeadRun.getT s)
theorem run (w : World) : HandSHeadRun.RunEq R (PySem.W.view R.prog [52]) hk ob 20000 loose w := by
  intro os
  kernel_rfl
section
variable {K : PySem.W.Frag} {mg : Str → Option Value} {Tb : List (Addr × Str)} {p c : Addr}
end
end Lw
end
section
set_option Elab.async false
set_option linter.all false
set_option maxRecDepth 100000
namespace Gh
open PySem PySem.Spec PyProof.Rows L2
abbrev FnA (K : PySem.W.Frag) (d : Df) (fd : FuncData) : Prop := FunD K d.name d.qual (defArgs d.st) (defBody d.st) (defScope d.st) (d.dvs K) [] (d.adr K) fd
theorem Df.funD {K : PySem.W.Frag} {d : Df} (e : fnAt K (d.adr K) = d.val) (c : d.ok K = true) : ∃ fd, FnA K d fd := by
  obtain ⟨kp, c2⟩ := He.ba c
  unfold fnAt at e
  cases q : K.lookup (d.adr K) with
  | none =>
    rw [q] at c2
    cases c2
  | some o =>
    obtain ⟨oc, od, dt, osl⟩ := o
    rw [q] at c2 e
    cases dt with
    | func fd =>
      obtain ⟨n1, n2, n3, n4, n5, n6, n7, n8, n9, n10, n11, n12, n13, n14, n15⟩ := fd
      have e2 : (some (n1, n2, n3, n4, n5, n6, n7, n15) : He.FnW) = some (d.name, d.qual, defArgs d.st, .stmts (defBody d.st), defScope d.st, mainGlobals, [], builtinsNs) := e
      simp only [Option.some.injEq, Prod.mk.injEq] at e2
      obtain ⟨h1, h2, h3, h4, h5, h6, h7, h8⟩ := e2
      subst h1 h2 h3 h4 h5 h6 h7 h8
      have c3 : (PySem.W.codeIn K n13 d.qual && (He.dflB K n8 (d.dvs K) && He.kwdB K n9 [])) = true := c2
      obtain ⟨k1, k2⟩ := He.ba c3
      obtain ⟨k3, k4⟩ := He.ba k2
      exact ⟨_, ⟨oc, od, n8, n9, n10, n11, n12, n13, n14, osl, rfl, q, k1, He.dflB_ok k3, He.kwdB_ok k4⟩, kp⟩
    | _ => cases c2
theorem Says.fact {ex : List (PySem.W.Frag → Bool)} {fn : List Df} {K : PySem.W.Frag} (c : Says ex fn K) (i : Nat) {f : PySem.W.Frag → Bool} (h : ex[i]? = some f := by rfl) : f K = true := by
  have c1 := (He.ba (show ((ex.all fun f => f K) && fn.all fun d => d.ok K) = true from congrArg (fun z : Al => z.1) c)).1
  exact List.all_eq_true.mp c1 f (List.mem_of_getElem? h)
theorem Says.def_ {ex : List (PySem.W.Frag → Bool)} {fn : List Df} {K : PySem.W.Frag} (c : Says ex fn K) (i : Nat) {d : Df} (h : fn[i]? = some d := by rfl) : ∃ fd, FnA K d fd := by
  have c2 := (He.ba (show ((ex.all fun f => f K) && fn.all fun d => d.ok K) = true from congrArg (fun z : Al => z.1) c)).2
  have e : fn.map (fun d => fnAt K (d.adr K)) = fn.map Df.val := congrArg (fun z : Al => z.2) c
  have e2 : (fn.map fun d => fnAt K (d.adr K))[i]? = (fn.map Df.val)[i]? := by rw [e]
  rw [List.getElem?_map, List.getElem?_map, h] at e2
  exact Df.funD (Option.some.inj e2) (List.all_eq_true.mp c2 d (List.mem_of_getElem? h))
theorem propB_ok {x m : Str} {K : PySem.W.Frag} (h : propB x m K = true) : PropOf K (He.ga K x) m (He.ma K (He.ga K x) m) (propG x m K) := by
  obtain ⟨h1, h2⟩ := He.ba h
  obtain ⟨h3, h4⟩ := He.ba h2
  obtain ⟨h5, h6⟩ := He.ba h4
  refine ⟨He.eqO_ok h1, He.eqO_ok h3, of_decide_eq_true h5, ?_⟩
  unfold propG
  cases q : PySem.W.recIn K (He.ma K (He.ga K x) m) "property" with
  | none =>
    rw [q] at h6
    cases h6
  | some l =>
    rw [q] at h6
    cases l with
    | nil => cases h6
    | cons v r =>
      cases v with
      | ref g => exact ⟨r, rfl⟩
      | _ => cases h6
theorem insB_ok {x : Str} {K : PySem.W.Frag} (h : insB x K = true) : InsT K (gd x K) := by
  obtain ⟨h1, h⟩ := He.ba h
  obtain ⟨h2, h⟩ := He.ba h
  obtain ⟨h3, h⟩ := He.ba h
  obtain ⟨h4, h⟩ := He.ba h
  obtain ⟨h5, h⟩ := He.ba h
  obtain ⟨h6, h7⟩ := He.ba h
  exact ⟨He.eqO_ok h1, He.eqO_ok h2, of_decide_eq_true h3, of_decide_eq_true h4, of_decide_eq_true h5, fun n hn => of_decide_eq_true (List.all_eq_true.mp h6 n hn), fun n hn => of_decide_eq_true (List.all_eq_true.mp h7 n hn)⟩
theorem pe_gi {X : Cx} {x : Str} {i : Int} {pos : Pos} (h : ∃ t, X.mg x = some (.int i t)) (hg : Gl X x) (hd : (x == ("__debug__" : Str)) = false := by decide) : PE X (.Name x pos) (tC (.int i)) := by
  obtain ⟨t, e⟩ := h
  exact pe_glob hg e ⟨t, rfl⟩ hd
end Gh
end
section
set_option Elab.async false
set_option linter.all false
set_option maxRecDepth 100000
set_option maxHeartbeats 4000000
namespace Gh
open PySem PySem.Spec PyProof.Rows L2
section
variable {P : Program} {w : World} {K : PySem.W.Frag} {mg : Str → Option Value} {base : Heap} {CX : CXT} {j k : Nat} {f : Addr} {fd : FuncData} {ps : List Str} {sp : Sp} {dvs : List V}
theorem fnG_of {x qual : Str} {params : Arguments} {body : List Stmt} {scope : Scope} {kws : List (Str × V)} {N : List Str} (F : FunD K x qual params body scope dvs kws f fd) (S : FnScope N ps scope) (len : ∀ vs H Q E, sp vs H Q E → vs.length = ps.length)
    (hbody : ∀ (cdv : Value) (A : Around) (outer : List Env) (s : Shared) (H : Hp) (vs : List V) (Q : VK) (E : XK), Room k (A.deeper (envOfC qual scope s.heap.objs.size f cdv)) → (A.deeper (envOfC qual scope s.heap.objs.size f cdv)).guards = some [] → sp vs H Q E →
      ∃ t, PSs (cxOf CX P w K mg base N qual scope f cdv A outer s H E) body t ∧ t { nx := fun _ H' => Q .non H', rt := Q } (start N vs) H) : FnG P w K mg base CX (k + 1) f fd ps sp := by
  obtain ⟨oc, od, dV, kV, doc, pm, an, cdv, ct, osl, rfl, lk, hcd, _, _⟩ := F.ex
  refine ⟨len, fun A outer s H args us vs Q E hr hg e0 hb r hsp => ?_⟩
  have hl := len _ _ _ _ hsp
  have KX : K.In s.heap := e0.mod.kin.keeps fun b o e => (e0.bs b o e).1
  have lim : s.heap.NoLimit := e0.mod.nolimit.keeps fun b o e => (e0.bs b o e).1
  have hkind : ∀ y ∈ ps.zip us, scope.names.lookup y.1 = some .local ∨ (scope.names.lookup y.1 = some .cell ∧ ((cellsFrom (s.heap.objs.size + 1) scope.names []).lookup y.1).isSome = true) := fun ⟨n, v⟩ hy => by
    rcases S.par n (List.of_mem_zip hy).1 with q | q
    · exact .inl q
    · exact .inr ⟨q, PySem.W.cellsFrom_some _ _ _ (.inl q)⟩
  refine codeAny_call_function hr.depth (KX _ _ lk) rfl S.co S.gen rfl (PySem.W.codeRec_of KX hcd) (hb _ _ _ _ ?_)
  refine wpAny_newFunctionEnv_cells S.kind hkind fun env he s1 x => ?_
  subst he
  refine ⟨lim.keeps x.toInCall.keep, codeAny_func ?_⟩
  obtain ⟨t, ht, hq⟩ := hbody cdv A outer s H vs Q E (hr.deeper _) hg hsp
  have I : Inv (cxOf CX P w K mg base N qual scope f cdv A outer s H E) [] (start N vs) H s1 := inv_start S hr.hd e0 hl r x
  refine wpAny_mono (ht.run [] s1 (start N vs) H _ I hq) (fun fl s' hs => ?_) fun e s' hs => hs
  cases fl with
  | ret u =>
    obtain ⟨v, σ', H', J, rv, q⟩ := hs
    exact ⟨v, H', J.os, J.bare, J.base, J.hok, rv, q⟩
  | next =>
    obtain ⟨σ', H', J, q⟩ := hs
    exact ⟨V.non, H', J.os, J.bare, J.base, J.hok, rfl, q⟩
  | brk =>
    obtain ⟨_, _, _, q⟩ := hs
    exact False.elim q
  | cont =>
    obtain ⟨_, _, _, q⟩ := hs
    exact False.elim q
end
section
variable {X : Cx} {CX : CXT} {k : Nat} {f g C : Addr} {sp : Sp} {dvs : List V} {E : XK} {x m : Str} {p pos apos : Pos} {e o : Expr} {es : List Expr} {ta tb : TE} {t : TA} {r : List V → Hp → VK → Prop}
@[irreducible] def rMk (C : Addr) (sp : Sp) (dvs : List V) (E : XK) : List V → Hp → VK → Prop := fun vs H Q =>
  ∀ x dx, H x = none → H dx = none → dx ≠ x → sp (.ref x :: (vs ++ dvs)) (upd (upd H dx (.own x)) x (.ins C dx [])) (fun v H2 => v = .non ∧ Q (.ref x) H2) E
theorem guards_make {A : Around} {us : List Value} {kw : List (Str × Value)} (h : A.guards = some []) : (A.under (.builtin "type.__call__" ⟨.ref C :: us, kw⟩)).guards = some [] := by
  show pushGuards (Code.guards (.builtin "type.__call__" ⟨.ref C :: us, kw⟩)) A.guards = some []
  have e : Code.guards (.builtin "type.__call__" ⟨.ref C :: us, kw⟩) = [] := by
    unfold Code.guards
    rw [if_neg (by show ¬ (guardIds.contains "type.__call__" = true); decide)]
  rw [e]
  exact h
theorem Prom.make (M : Mk X.K C f) (F : PromX X CX k f dvs sp) (hr : Room (k + 1) X.A) (hg : X.A.guards = some []) (hx : Passes CX X E) : CallR X (.ref C) (rMk C sp dvs E) := by
  intro pins s σ H vs us Q I r h
  unfold rMk at h
  obtain ⟨fd, ps, ds, G, b, hd⟩ := F
  have hq := h (s.heap.objs.size + 1) s.heap.objs.size (I.hok.fresh (Nat.le_succ _)) (I.hok.fresh (Nat.le_refl _)) (Nat.ne_of_lt (Nat.lt_succ_self _))
  have I2 := Inv.made (C := C) I
  have r2 : Vals (V.ref (s.heap.objs.size + 1) :: (vs ++ dvs)) (Value.ref (s.heap.objs.size + 1) :: (us ++ ds)) := .cons rfl (r.append hd)
  have hl : (Value.ref (s.heap.objs.size + 1) :: us ++ ds).length = ps.length := by
    have e := r2.length
    rw [G.len _ _ _ _ hq] at e
    exact e.symm
  refine wpAny_call (make_map (f := f) I.kIn M.makes M.init (beq_iff_eq.mp M.fn) (codeAny_mono (G.run _ X.stack _ _ ⟨Value.ref (s.heap.objs.size + 1) :: us, []⟩ (Value.ref (s.heap.objs.size + 1) :: (us ++ ds)) _ _ E (hr.make C us []) (guards_make hg)
    (I2.env0.make C us []) (b _ (Value.ref (s.heap.objs.size + 1) :: us) I2.kIn hl) r2 hq) fun r s' hq' => ?_))
  cases r with
  | error e => exact hx pins σ _ _ e s' I2 hq'
  | ok fl =>
    cases fl with
    | ret u =>
      obtain ⟨v, H', I3, rv, ev, q3⟩ := I2.after hq'
      subst ev
      exact ⟨rv, ⟨V.ref (s.heap.objs.size + 1), H', I3, rfl, q3⟩⟩
    | next => exact False.elim hq'
    | brk => exact False.elim hq'
    | cont => exact False.elim hq'
def tCl (r : List V → Hp → VK → Prop) (t : TA) : TE := fun σ H Q => t σ H fun vs H1 => r vs H1 Q
theorem pe_g (R : CallR X (.ref f) r) (hg : Gl X x) (hm : X.mg x = some (.ref f)) (hk : PySem.W.keepIn X.K (.ref f) = true)
    (ha : PA X (e :: es) t) (hdb : (x == ("__debug__" : Str)) = false := by decide) (he : starEach (e :: es) X.env = (false, eval e X.env) :: starEach es X.env := by rfl) (hpl : (backTo pos (starEach es X.env)).any (·.1) = false := by rfl) :
    PE X (.Call (.Name x p) (e :: es) [] pos) (tCl r t) := by
  refine ⟨fun pins s σ H Q I h => ?_⟩
  refine wpAny_Call_Name_kw (ld_glob I hg hm ?_ hdb)
  refine PySem.W.callWith_K (h₀ := X.base) I.ok.mod.kin hk (thn (ha.run pos pins s σ H _ I h) fun us s1 ⟨vs, H1, I1, r, q⟩ => ⟨I1.kIn, ?_⟩) he hpl
  exact R pins s1 σ H1 vs us Q I1 r q
def tMt (C : Addr) (m : Str) (r : List V → Hp → VK → Prop) (ta : TE) (t : TA) : TE := fun σ H Q => ta σ H fun x H1 => ∃ a dx fs, x = .ref a ∧ H1 a = some (.ins C dx fs) ∧ fs.lookup m = none ∧ t σ H1 fun vs H2 => r (x :: vs) H2 Q
theorem pe_m {pl : Sem Bool} (he : PE X o ta) (c : Cls X.K C) (hm : Meth X.K C m f) (R : CallR X (.ref f) r) (ha : PA X (e :: es) t)
    (hst : starEach (e :: es) X.env = (false, eval e X.env) :: starEach es X.env := by rfl) (hpl : (backTo pos (starEach es X.env)).any (·.1) = false := by rfl)
    (ht : eval (.Call (.Attribute o m apos) (e :: es) [] pos) X.env = (do
      let ov ← eval o X.env
      standAt apos.atName
      let (f, first) ← holding [ov] (getMethod ov m pl)
      callWith pos f first (backTo pos (starEach (e :: es) X.env)) (backToKw pos (keywordEach [] X.env))) := by rfl) :
    PE X (.Call (.Attribute o m apos) (e :: es) [] pos) (tMt C m r ta t) := by
  refine ⟨fun pins s σ H Q I h => ?_⟩
  refine PySem.W.methodCall_KW (pl := pl) (thn (he.run pins s σ H _ I h) fun u s1 ⟨x, H1, I1, rx, a, dx, fs, ex, ea, l, q⟩ => ?_) ht
  subst ex
  obtain rfl : u = Value.ref a := rx
  refine getmeth_ok I1 ea c hm l ?_
  refine PySem.W.callWith_K (first := [.ref a]) (h₀ := X.base) I.ok.mod.kin hm.kp (thn (ha.run pos pins s1 σ H1 _ I1 q) fun us s2 ⟨vs, H2, I2, r, q2⟩ => ⟨I2.kIn, ?_⟩) hst hpl
  exact R pins s2 σ H2 (.ref a :: vs) (.ref a :: us) Q I2 (.cons rfl r) q2
def tPr (C : Addr) (sp : Sp) (dvs : List V) (E : XK) (ta : TE) : TE := fun σ H Q => ta σ H fun x H1 => ∃ a dx fs, x = .ref a ∧ H1 a = some (.ins C dx fs) ∧ sp (.ref a :: dvs) H1 Q E
end
end Gh
end
section
set_option Elab.async false
set_option linter.all false
set_option maxRecDepth 100000
set_option maxHeartbeats 4000000
namespace Gh
open PySem PySem.Spec PyProof.Rows L2
theorem Keep.new {H H' : Hp} {p q : Addr} {o : HO} (h : Keep H H' p) (n : H' q = none) : Keep H (upd H' q o) p := fun a u e ne => by
  rw [upd_ne (ne_of_none (h a u e ne) n)]
  exact h a u e ne
theorem Keep.put {H H' : Hp} {p : Addr} {o : HO} (h : Keep H H' p) : Keep H (upd H' p o) p := fun a u e ne => by
  rw [upd_ne ne]
  exact h a u e ne
theorem PenAt.le {H : Hp} {p : Addr} {a b : Nat} (h : PenAt H p b) (k : a ≤ b) : PenAt H p a := by
  obtain ⟨c, ns, i, z, h1, h2, h3, h4, h5, h6⟩ := h
  exact ⟨c, ns, i, z, h1, h2, h3, h4, by omega, h6⟩
theorem PenAt.new {H : Hp} {p q : Addr} {b : Nat} {o : HO} (h : PenAt H p b) (n : H q = none) : PenAt (upd H q o) p b := by
  obtain ⟨c, ns, i, z, h1, h2, h3⟩ := h
  exact ⟨c, ns, i, z, by rw [upd_ne (ne_of_none h1 n)]; exact h1, by rw [upd_ne (ne_of_none h2 n)]; exact h2, h3⟩
theorem dp_ints (K : PySem.W.Frag) (H : Hp) : ∀ ns : List Int, DpAll K H (ns.map V.int) (ns.map PyData.int)
  | [] => .nil
  | n :: r => .cons (.int n) (dp_ints K H r)
theorem eqv_nil (ds : List PyData) : PyData.eqv (.list ds) (.list []) = ds.isEmpty := by
  cases ds <;> rfl
theorem same_new {H : Hp} {q : Addr} {o : HO} (n : H q = none) : L2.Same H (upd H q o) := fun a u e => by
  rw [upd_ne (ne_of_none e n)]
  exact e
theorem atI_int {ns : List Int} {i : Int} (h0 : 0 ≤ i) (h1 : i < ns.length) : ∃ v, atI (ns.map V.int) i = some (.int v) ∧ v ∈ ns := by
  obtain ⟨j, rfl⟩ : ∃ j : Nat, i = j := ⟨i.toNat, by omega⟩
  have hl : j < ns.length := by omega
  refine ⟨ns[j], atI_nat ?_, List.getElem_mem hl⟩
  rw [List.getElem?_map, List.getElem?_eq_getElem hl]
  rfl
theorem pow_lt {i : Int} (h0 : 0 ≤ i) (h1 : i < 18446744073709551616) : i.natAbs < 2 ^ 64 := by
  have e : (2 : Nat) ^ 64 = 18446744073709551616 := by decide
  rw [e]
  omega
theorem mix_ok {x i a b c : Int} (h0 : 0 ≤ x) (h1 : x < 4294967296) (h2 : 0 ≤ i) (h3 : i ≤ 1000000) (ha : 0 ≤ a ∧ a ≤ 1000000) (hb : 0 ≤ b ∧ b ≤ 1000000) (hc : 0 ≤ c ∧ c ≤ 1000000) : (x * (2 * i + a) + b * i * i + c).natAbs < 2 ^ 64 := by
  have hii : 0 ≤ i * i ∧ i * i ≤ 1000000 * 1000000 := ⟨Int.mul_nonneg h2 h2, Int.mul_le_mul h3 h3 h2 (by decide)⟩
  have hxi : 0 ≤ x * (2 * i + a) ∧ x * (2 * i + a) ≤ 4294967296 * 4000000 := ⟨Int.mul_nonneg h0 (by omega), Int.mul_le_mul (by omega) (by omega) (by omega) (by decide)⟩
  have hbi : 0 ≤ b * (i * i) ∧ b * (i * i) ≤ 1000000 * (1000000 * 1000000) := ⟨Int.mul_nonneg hb.1 hii.1, Int.mul_le_mul hb.2 hii.2 hii.1 (by decide)⟩
  have e : b * i * i = b * (i * i) := Int.mul_assoc _ _ _
  refine pow_lt ?_ ?_ <;> (rw [e]; omega)
theorem mod_lt (x : Int) {m : Int} (h : 0 < m) : 0 ≤ x % m ∧ x % m < m := ⟨Int.emod_nonneg _ (by omega), Int.emod_lt_of_pos _ h⟩
theorem cut_all {xs : List V} {n : Nat} (h : xs.length ≤ n) : cutV xs none (some (n : Int)) = xs := by
  unfold cutV
  rw [HT.sIx_none, HT.sIx_nat, Nat.min_eq_right h, List.drop_zero, Nat.sub_zero]
  exact List.take_length
abbrev rInt1 : List V → Hp → VK → Prop := fun xs H Q => (∃ i, xs = [V.int i] ∧ Q (V.int i) H) ∨ ∃ k, xs = [V.bl k] ∧ Q (V.int (if k = true then 1 else 0)) H
def tCut (t u : TS) : TS := fun D σ H => ∃ M : L2.St → Hp → Prop, t { D with nx := M } σ H ∧ ∀ σ' H', M σ' H' → u D σ' H'
theorem pss_cut {X : Cx} {st : Stmt} {rest : List Stmt} {t u : TS} (h1 : PS X st t) (h2 : PSs X rest u) : PSs X (st :: rest) (tCut t u) := by
  refine ⟨fun pins s σ H D I h => ?_⟩
  obtain ⟨M, hm, hu⟩ := h
  refine wpAny_execs_cons (thn (h1.run pins s σ H { D with nx := M } I hm) fun f s1 q => ?_)
  cases f with
  | next =>
    obtain ⟨σ1, H1, I1, q1⟩ := q
    exact h2.run pins s1 σ1 H1 D I1 (hu σ1 H1 q1)
  | ret v => exact q
  | brk => exact q
  | cont => exact q
end Gh
end
section
set_option Elab.async false
set_option linter.all false
set_option maxRecDepth 100000
set_option maxHeartbeats 4000000
namespace Gh
open PySem PySem.Spec PyProof.Rows L2
theorem PenAt.ne {H : Hp} {p c : Addr} {b : Nat} (h : PenAt H p b) (n : H c = none) : c ≠ p := by
  obtain ⟨d, ns, i, z, h1, _⟩ := h
  exact (ne_of_none h1 n).symm
theorem fnG0 {P : Program} {w : World} {K : PySem.W.Frag} {mg : Str → Option Value} {base : Heap} {CX : CXT} {k : Nat} {f : Addr} {fd : FuncData} {ps : List Str} {sp : Sp} {dvs : List V} {x qual : Str} {params : Arguments} {body : List Stmt} {scope : Scope} {kws : List (Str × V)} {N : List Str}
    (F : FunD K x qual params body scope dvs kws f fd) (S : FnScope N ps scope) (len : ∀ vs H Q E, sp vs H Q E → vs.length = ps.length)
    (hbody : ∀ (cdv : Value) (A : Around) (outer : List Env) (s : Shared) (H : Hp) (vs : List V) (Q : VK) (E : XK), Room k (A.deeper (envOfC qual scope s.heap.objs.size f cdv)) → (A.deeper (envOfC qual scope s.heap.objs.size f cdv)).guards = some [] → sp vs H Q E →
      ∃ t, PSs (cxOf CX P w K mg base N qual scope f cdv A outer s H E).nox body t ∧ t { nx := fun _ H' => Q .non H', rt := Q } (start N vs) H) : FnG P w K mg base CX (k + 1) f fd ps sp :=
  fnG_of F S len fun cdv A outer s H vs Q E hr hg h => by
    obtain ⟨t, ht, q⟩ := hbody cdv A outer s H vs Q E hr hg h
    exact ⟨t, PSs.nox ht, q⟩
section
variable {X : Cx} {K : PySem.W.Frag}
theorem ix_listK (h : X.K = K) : IxR X (rIxL K) := h ▸ ix_list
end
end Gh
end
section
set_option Elab.async false
set_option linter.all false
set_option maxRecDepth 100000
set_option maxHeartbeats 4000000
namespace Gh
open PySem PySem.Spec PyProof.Rows L2
theorem exk_ok {P : Program} {w : World} {H : Hp} {h : Heap} {a C d : Addr} {o : Obj} {vs : Array Value} (h1 : h.get? a = some o) (h2 : o.cls = .ref C) (h3 : o.dict = some d) (h4 : o.data = .fields vs) : ObjOk P w H h a (exk a C d) :=
  ⟨⟨o, vs, h1, h2, h3, h4⟩, ⟨o, h1⟩, fun _ _ z k => by
    obtain ⟨o, vs, h1, h2, h3, h4⟩ := z
    exact ⟨o, vs, k _ h1, h2, h3, h4⟩⟩
theorem exk_at {P : Program} {w : World} {H : Hp} {h : Heap} {a C d : Addr} (hok : HOk P w H h) (e : H a = some (exk a C d)) : ∃ (o : Obj) (vs : Array Value), h.get? a = some o ∧ o.cls = .ref C ∧ o.dict = some d ∧ o.data = .fields vs :=
  (show ObjOk P w H h a (exk a C d) from hok a _ e).1
structure ErrT (K : PySem.W.Frag) (C : Addr) : Prop where
  hg : PySem.W.findIn K (.ref C) "__getattribute__" = some (some (.builtin "BaseException.__getattribute__"))
  hk : PySem.W.findIn K (.ref C) "__getattr__" = some none
  hs : PySem.W.subIn K (.ref C) (.type "BaseException") = some true
  hd : PySem.W.hasDictIn K C = true
  ha : PySem.W.findIn K (.ref C) "__class__" = some (some (.builtin "object.__class__"))
  hn : PySem.W.specialIn K (.builtin "object.__class__") "__get__" = some (some (.builtin "getset_descriptor.__get__"))
  htk : PySem.W.takesIn K (.builtin "object.__class__") = some true
  hm : PySem.W.mroIn K C (.type "object") = some true
theorem errB_ok {x : Str} {K : PySem.W.Frag} (h : errB x K = true) : ErrT K (gd x K) := by
  obtain ⟨h1, h⟩ := He.ba h
  obtain ⟨h2, h⟩ := He.ba h
  obtain ⟨h3, h⟩ := He.ba h
  obtain ⟨h4, h⟩ := He.ba h
  obtain ⟨h5, h⟩ := He.ba h
  obtain ⟨h6, h⟩ := He.ba h
  obtain ⟨h7, h8⟩ := He.ba h
  exact ⟨He.eqO_ok h1, He.eqO_ok h2, of_decide_eq_true h3, h4, He.eqO_ok h5, He.eqO_ok h6, of_decide_eq_true h7, of_decide_eq_true h8⟩
section
variable {X : Cx} {e : Expr} {te : TE} {pos : Pos} {n : Str}
theorem exk_inst {pins : List (Addr × Obj)} {σ : L2.St} {H : Hp} {s : Shared} {a C d : Addr} {fs : List (Str × V)} (I : Inv X pins σ H s) (h1 : H a = some (exk a C d)) (h2 : H d = some (.xd fs)) :
    ∃ o od mA, PySem.W.InstAt s.heap a o C (some od) ∧ s.heap.Ns1 d mA ∧ (∀ f, RelO (fs.lookup f) (mA f)) ∧ s.heap.get? d = some od := by
  obtain ⟨o, vs, k1, k2, k3, k4⟩ := exk_at I.hok h1
  obtain ⟨mA, hns, hr⟩ := (show ObjOk X.prog X.w H s.heap d (.xd fs) from I.hok d _ h2)
  obtain ⟨od, ho, hl⟩ := lookIn_ns hns
  exact ⟨o, od, mA, ⟨k1, k2, by unfold PySem.W.notCls; rw [k4] <;> rfl, by rw [k3]; exact ho⟩, hns, hr, ho⟩
def rIsiZ (K : PySem.W.Frag) : List V → Hp → VK → Prop := fun xs H Q => rIsi K xs H Q ∨ ∃ (a C d : Addr) (fs : List (Str × V)) (c : V) (u : Value) (b : Bool), xs = [.ref a, c] ∧ ClsV c u ∧ H a = some (exk a C d) ∧ H d = some (.xd fs) ∧ ErrT K C ∧ PySem.W.kitOne K (.ref C) u = some b ∧ Q (.bl b) H
theorem call_isiZ {K : PySem.W.Frag} (hK : X.K = K) : CallR X (.builtin "isinstance") (rIsiZ K) := by
  subst hK
  intro pins s σ H xs us Q I r h
  rcases h with h | ⟨a, C, d, fs, c, u, b, rfl, k, ea, ed, T, e, q⟩
  · exact call_isi pins s σ H xs us Q I r h
  · obtain ⟨u1, u2, rfl, r1, r2⟩ := vals2 r
    obtain rfl : u1 = Value.ref a := r1
    have e2 := k.eq r2
    subst e2
    obtain ⟨o, od, mA, J, _⟩ := exk_inst I ea ed
    have hcl : (PySem.W.clsIn X.K C).isSome = true := by
      obtain ⟨cd, hc, _⟩ := PySem.W.any_some T.hd
      rw [hc]
      rfl
    exact PySem.W.kia_one (PySem.W.kitx_exc hcl T.hg T.hk T.hs T.ha T.hn T.htk T.hm) I.kIn J e (fun z => nomatch z) fun tk => ⟨.bl b, H, I.tok tk, rfl, q⟩
end
theorem inv_track {X : Cx} {pins : List (Addr × Obj)} {σ : L2.St} {H : Hp} {s : Shared} {a : Addr} {o : HO} (I : Inv X pins σ H s) (hn : H a = none) (n0 : X.s_0.heap.get? a = none) (nL : a ≠ X.env.locals) (nC : ∀ x c, X.env.cells.lookup x = some c → c ≠ a) (nP : ∀ p ∈ X.pn ++ pins, p.1 ≠ a)
    (ok : ObjOk X.prog X.w (upd H a o) s.heap a o) : Inv X pins σ (upd H a o) s := by
  have ne : ∀ {b : Addr} {u : HO}, H b = some u → b ≠ a := fun e => ne_of_none e hn
  refine ⟨I.ok, I.os, I.bare, ⟨I.base.keep, I.base.slot, fun b u e n hx => ?_, I.base.there, fun b xs e => ?_, fun b u v e => ?_, fun b ps e => ?_⟩, I.loc, I.cell, ?_, fun x c e => ?_, fun p hp => ?_, fun b u e => ?_, I.len⟩
  · rw [upd_ne (fun z => by rw [z, n0] at e; cases e)]
    exact I.base.free b u e n hx
  · have z := I.base.tups b xs e
    rw [upd_ne (ne z)]
    exact z
  · have z := I.base.frzs b u v e
    rw [upd_ne (ne z)]
    exact z
  · obtain ⟨more, z⟩ := I.base.tbls b ps e
    exact ⟨more, by rw [upd_ne (ne z)]; exact z⟩
  · rw [upd_ne nL.symm]
    exact I.free
  · rw [upd_ne (nC x c e)]
    exact I.freeC x c e
  · obtain ⟨z1, z2, z3⟩ := I.pin p hp
    exact ⟨z1, by rw [upd_ne (nP p hp)]; exact z2, z3⟩
  · by_cases hb : b = a
    · subst hb
      rw [upd_same] at e
      cases e
      exact ok
    · rw [upd_ne hb] at e
      exact (I.hok b u e).stay (fun _ _ _ q => q) (fun c hc => by rw [upd_ne (ne hc)]; exact hc) (fun c xs hc => by rw [upd_ne (ne hc)]; exact hc)
section
variable {X : Cx} {x n : Str} {c : Value} {i : Nat} {body suite : List Stmt} {b₀ : Stmt} {np pos pos' : Pos} {tb : WX → TS} {ts : Addr → Value → Option Addr → TS} {Wout : WX}
end
end Gh
end
section
set_option Elab.async false
set_option linter.all false
set_option maxRecDepth 100000
set_option maxHeartbeats 4000000
namespace Gh
open PySem PySem.Spec PyProof.Rows L2
theorem law_callTsG {P : Program} {w : World} {K : PySem.W.Frag} {mg mb : Str → Option Value} {CX : CXT} {k : Nat} {fa a : Addr} {cs : List (Addr × Addr)} {fd : FuncData} {x : Str} {sp : Sp} {s₁ : Shared} {vs : List Value} {ns : List Int}
    (KX : K.In s₁.heap) (hns : s₁.heap.Ns mainGlobals mg) (hb : s₁.heap.Ns builtinsNs mb) (hbb : ∀ x : Str, x ≠ "__name__" → mb x = bootBuiltins x) (hlim : s₁.heap.NoLimit) (hg : s₁.gens = #[])
    (hT : ∀ p ∈ cs, s₁.heap.get? p.2 = some { cls := .none, data := .fields #[] }) (nT : ∀ p ∈ cs, K.lookup p.2 = none) (C : ∀ p ∈ cs, PySem.W.CodeHd s₁.heap p.1 p.2)
    (hbm : ∃ (bm : Addr) (ob : Obj), mg "__builtins__" = some (.ref bm) ∧ bm ≠ builtinsNs ∧ s₁.heap.get? bm = some ob ∧ ob.cls = .type "module" ∧ ob.dict = some builtinsNs ∧ ob.data = .plain)
    (ha : s₁.heap.get? a = some { cls := .type "list", data := .seq vs.toArray }) (hi : IntsAre vs ns) (hl : ns.length ≤ sizeLine) (hr : Room k callerA)
    (F : ∀ base : Heap, K.In base → base.Ns mainGlobals mg → (∀ p ∈ cs, LamX.TabB base mg p.1 p.2) → FnG P w K mg base CX k fa fd [x] sp) (hbind : ∀ (s : Shared) (u : Value), BindsTo s fd ⟨[u], []⟩ [(x, u)])
    (hsp : ∀ H : Hp, (∀ p ∈ cs, H p.2 = some (.tbl #[])) → SqL K H a (ns.map V.int) → sp [.ref a] H (fun v _ => v = .bl true) fun _ _ _ => False)
    (hCX : ∀ H e s', CX [] H s₁ (fun _ _ _ => False) e s' → False) :
    codeAny (model P w) callerA (.call (.ref fa) ⟨[.ref a], []⟩) (fun r s' => r = .ok (.ret (.bool true)) ∧ OldK s₁.heap s'.heap ∧ s'.os = s₁.os ∧ AllBare s'.gens) s₁ := by
  have rv := vals_ints hi
  have lenV := hi.length
  have isT : ∀ b : Addr, b ∈ cs.map (·.2) → s₁.heap.get? b = some { cls := .none, data := .fields #[] } := fun b hb => by
    obtain ⟨p, hp, e⟩ := List.mem_map.mp hb
    rw [← e]
    exact hT p hp
  have aT : a ∉ cs.map (·.2) := fun z => by
    have q := isT a z
    rw [ha] at q
    have z' : Data.seq vs.toArray _ = Data.fields #[] := congrArg Obj.data (Option.some.inj q)
    cases z'
  have memT : ∀ p ∈ cs, p.2 ∈ cs.map (·.2) := fun p hp => List.mem_map.mpr ⟨p, hp, rfl⟩
  -- from an abstract heap in which nothing but the script and the tables may be tracked
  have core : ∀ H : Hp, (∀ p ∈ cs, H p.2 = some (.tbl #[])) → (∀ b, H b = none ∨ b ∈ cs.map (·.2) ∨ ∃ o xs, H b = some (.frz o (.lst xs))) → SqL K H a (ns.map V.int) → HOk P w H s₁.heap → (∀ b, H b ≠ none → b = a ∨ b ∈ cs.map (·.2)) → (H a ≠ none → K.lookup a = none) →
      codeAny (model P w) callerA (.call (.ref fa) ⟨[.ref a], []⟩) (fun r s' => r = .ok (.ret (.bool true)) ∧ OldK s₁.heap s'.heap ∧ s'.os = s₁.os ∧ AllBare s'.gens) s₁ := by
    intro H hH hO hS hok hA hK
    have base_of : ∀ {b : Addr} {o : Obj}, s₁.heap.get? b = some o → H b = none → (hidT s₁.heap H).get? b = some o := fun e n => hidT_get e n
    have noD : ∀ {b : Addr} {o : Obj}, s₁.heap.get? b = some o → (∀ vs n, o.data ≠ .seq vs n) → o.data ≠ .fields #[] → H b = none := fun {b o} e h1 h2 => by
      cases q : H b with
      | none => rfl
      | some u =>
        rcases hA b (by rw [q]; simp) with e' | e'
        · rw [e', ha] at e
          cases e
          exact (h1 _ _ rfl).elim
        · rw [isT b e'] at e
          cases e
          exact (h2 rfl).elim
    have noA : ∀ {b : Addr} {o : Obj} {es : Array DictEntry} {ep : Nat}, s₁.heap.get? b = some o → o.data = .dict es ep → H b = none := fun {b o es ep} e d => by
      refine noD e (fun vs n z => ?_) fun z => ?_
      · rw [d] at z
        cases z
      · rw [d] at z
        cases z
    have nsK : ∀ {b : Addr} {m : Str → Option Value}, s₁.heap.Ns b m → (hidT s₁.heap H).Ns b m := fun {b m} ⟨o, es, ep, e, d, r⟩ => ⟨o, es, ep, base_of e (noA e d), d, r⟩
    have hKb : K.In (hidT s₁.heap H) := fun b o e => base_of (KX b o e) (by
      cases q : H b with
      | none => rfl
      | some u =>
        rcases hA b (by rw [q]; simp) with e' | e'
        · rw [e'] at e q
          rw [hK (by rw [q]; simp)] at e
          cases e
        · obtain ⟨p, hp, ep⟩ := List.mem_map.mp e'
          rw [← ep, nT p hp] at e
          cases e)
    have hM : L2.Mod K mg (hidT s₁.heap H) := ⟨hKb, nsK hns, ⟨mb, nsK hb, hbb⟩, let ⟨mc, h1, h2⟩ := hlim; ⟨mc, nsK h1, h2⟩⟩
    have TB : ∀ p ∈ cs, LamX.TabB (hidT s₁.heap H) mg p.1 p.2 := fun p hp => by
      have hTp := hT p hp
      refine ⟨?_, ?_, fun z => ?_⟩
      · obtain ⟨o, us, file, tf, flags, tg, inF, text, tt, e1, r1, r2, r3, r4, r5, r6, r7, r8, hne⟩ := C p hp
        refine ⟨o, us, file, tf, flags, tg, inF, text, tt, base_of e1 (noD e1 (fun vs n z => ?_) fun z => ?_), r1, r2, r3, r4, r5, r6, r7, r8, hne⟩
        · rw [r2] at z
          cases z
        · rw [r2] at z
          cases z
          simp at r3
      · obtain ⟨bm, ob, b1, b2, b3, b4, b5, b6⟩ := hbm
        have nG : bm ≠ mainGlobals := fun q => by
          obtain ⟨o, es, ep, e, hd, _⟩ := hns
          rw [q, e] at b3
          cases b3
          rw [hd] at b6
          cases b6
        have nP : bm ≠ p.2 := fun q => by
          rw [q, hTp] at b3
          cases b3
          cases b6
        refine ⟨bm, ob, b1, b2, nG, nP, base_of b3 (noD b3 (fun vs n z => ?_) fun z => ?_), b4, b5, b6⟩
        · rw [b6] at z
          cases z
        · rw [b6] at z
          cases z
      · obtain ⟨o, es, ep, e, hd, _⟩ := hns
        rw [z, hTp] at e
        cases e
        cases hd
    have e0 : Env0 P w K mg (hidT s₁.heap H) callerA [] s₁ H := ⟨rfl, hM, fun b o e => of_hidT e, Nat.le_of_eq (hidT_size _ _), trivial, fun b hb => absurd (show b ∈ ([] : List Addr) from hb) (by simp), hok, .of_eq hg⟩
    refine codeAny_mono ((F _ hKb (nsK hns) TB).run callerA [] s₁ H ⟨[.ref a], []⟩ [.ref a] [.ref a] _ _ hr rfl e0 (hbind s₁ (.ref a)) (.cons rfl .nil) (hsp H hH hS)) fun r s' h => ?_
    cases r with
    | error e => exact (hCX H e s' h).elim
    | ok fl =>
      cases fl with
      | next => exact False.elim h
      | brk => exact False.elim h
      | cont => exact False.elim h
      | ret u =>
        obtain ⟨v, H', os, bare, un, hok', r', q⟩ := h
        have q' : v = .bl true := q
        subst q'
        obtain rfl : u = Value.bool true := r'
        have key : ∀ b o, b ∉ cs.map (·.2) → s₁.heap.get? b = some o → s'.heap.get? b = some o := fun b o nb e => by
          cases q : H b with
          | none => exact un.keep b o e q (by intro z; exact absurd (show b ∈ ([] : List Addr) from z) (by simp)) (by simp)
          | some u =>
            rcases hO b with z | z | ⟨ob, xs, z⟩
            · rw [q] at z; cases z
            · exact absurd z nb
            · have z2 := un.frzs b ob _ z
              obtain ⟨e1, _⟩ := hok b _ z
              obtain ⟨e2, _⟩ := hok' b _ z2
              rw [e] at e1; cases e1
              exact e2
        have grown : ∀ p ∈ cs, ∃ more : Array Value, s'.heap.get? p.2 = some { cls := .none, data := .fields more } := fun p hp => by
          obtain ⟨more, z⟩ := un.tbls p.2 #[] (hH p hp)
          exact ⟨_, hok' p.2 _ z⟩
        refine ⟨rfl, ⟨fun b o e => ?_, fun b o e => ?_⟩, os, bare⟩
        · by_cases hb : b ∈ cs.map (·.2)
          · obtain ⟨p, hp, ep⟩ := List.mem_map.mp hb
            obtain ⟨more, hm⟩ := grown p hp
            rw [← ep] at e ⊢
            rw [hT p hp] at e
            cases e
            exact .inr (.inl ⟨((C p hp).tab (hT p hp)).isCodeTable, rfl, #[], more, rfl, by rw [Array.empty_append]; exact hm⟩)
          · exact .inl (key b o hb e)
        · by_cases hb : b ∈ cs.map (·.2)
          · obtain ⟨p, hp, ep⟩ := List.mem_map.mp hb
            obtain ⟨more, hm⟩ := grown p hp
            rw [← ep]
            exact ⟨_, hm⟩
          · exact ⟨o, key b o hb e⟩
  cases hk : K.lookup a with
  | some o =>
    have e := KX a o hk
    rw [ha] at e
    cases e
    refine core (fun b => if b ∈ cs.map (·.2) then some (.tbl #[]) else none) (fun p hp => if_pos (memT p hp)) (fun b => ?_) (.inr ⟨_, vs.toArray, _, hk, rfl, rfl, rfl, by rw [List.size_toArray, lenV]; exact hl, by simpa using rv⟩) (fun b u z => ?_) (fun b z => ?_) fun z => absurd (show (if a ∈ cs.map (·.2) then some (HO.tbl #[]) else none) = none from if_neg aT) z
    · by_cases hb : b ∈ cs.map (·.2)
      · exact .inr (.inl hb)
      · exact .inl (if_neg hb)
    · by_cases hb : b ∈ cs.map (·.2)
      · have z' := (if_pos hb).symm.trans z
        cases z'
        exact isT b hb
      · have z' := (if_neg hb).symm.trans z
        cases z'
    · by_cases hb : b ∈ cs.map (·.2)
      · exact .inr hb
      · exact absurd (if_neg hb) z
  | none =>
    refine core (fun b => if b = a then some (.frz { cls := .type "list", data := .seq vs.toArray } (.lst (ns.map V.int))) else if b ∈ cs.map (·.2) then some (.tbl #[]) else none) (fun p hp => (if_neg (show ¬ p.2 = a from fun z => aT (by rw [← z]; exact memT p hp))).trans (if_pos (memT p hp))) (fun b => ?_)
      (.inl (.inr ⟨{ cls := .type "list", data := .seq vs.toArray }, if_pos rfl⟩)) (fun b u z => ?_) (fun b z => ?_) fun _ => hk
    · by_cases hb : b = a
      · exact .inr (.inr ⟨_, _, if_pos hb⟩)
      · by_cases hb2 : b ∈ cs.map (·.2)
        · exact .inr (.inl hb2)
        · exact .inl ((if_neg hb).trans (if_neg hb2))
    · by_cases hb : b = a
      · have z' := (if_pos hb).symm.trans z
        cases z'
        rw [hb]
        exact ⟨ha, by rw [List.length_map]; exact hl, vs, _, rv, ha⟩
      · have z1 := (if_neg hb).symm.trans z
        by_cases hb2 : b ∈ cs.map (·.2)
        · have z' := (if_pos hb2).symm.trans z1
          cases z'
          exact isT b hb2
        · have z' := (if_neg hb2).symm.trans z1
          cases z'
    · by_cases hb : b = a
      · exact .inl hb
      · by_cases hb2 : b ∈ cs.map (·.2)
        · exact .inr hb2
        · exact absurd ((if_neg hb).trans (if_neg hb2)) z
theorem walk_ofTsG {l : PySem.W.OpenLaw} {n k : Nat} {q : Program} {loose : List Str} {XP : (Str → Option Value) → Heap → Prop} {YP : World → Heap → Prop} {d : DefRec} {CX : World → CXT} {x : Str}
    (hn : l.most = some n) (hn2 : n ≤ sizeLine) (hdf : d.params.defaults = []) (hr : Room k callerA)
    (F : ∀ (w : World) (mg : Str → Option Value) (fa : Addr) (h : Heap), YP w h → h.Ns mainGlobals mg → mg d.name = some (.ref fa) →
      ∃ (K : PySem.W.Frag) (fd : FuncData) (cs : List (Addr × Addr)) (sp : Sp), K.In h ∧ (∀ p ∈ cs, h.get? p.2 = some { cls := .none, data := .fields #[] }) ∧ (∀ p ∈ cs, K.lookup p.2 = none) ∧ (∀ p ∈ cs, PySem.W.CodeHd h p.1 p.2) ∧
        (∀ (s : Shared) (u : Value), BindsTo s fd ⟨[u], []⟩ [(x, u)]) ∧
        (∀ (H : Hp) (a : Addr) (ns : List Int), ns.length ≤ n → (∀ p ∈ cs, H p.2 = some (.tbl #[])) → SqL K H a (ns.map V.int) → sp [.ref a] H (fun v _ => v = .bl true) fun _ _ _ => False) ∧
        ∀ base : Heap, K.In base → base.Ns mainGlobals mg → (∀ p ∈ cs, LamX.TabB base mg p.1 p.2) → FnG l.prog w K mg base (CX w) k fa fd [x] sp)
    (hCX : ∀ (w : World) (H : Hp) (s : Shared) (e : Value) (s' : Shared), CX w [] H s (fun _ _ _ => False) e s' → False) :
    PySem.W.WalkO q loose XP YP l.row.toRowW d [] (fun f vs => PySem.call f vs) := by
  refine Att.attach_call hn hdf fun w s₀ s₁ mg mb fa o pm cd doc a vs ns G Y ho hd hcd hmg hobj hints hlen hg => ?_
  obtain ⟨K, fd, cs, sp, KX, hT, nT, C, hb, hsp, hF⟩ := F w mg fa _ Y G.T.g hmg
  exact law_callTsG KX G.T.g G.T.b G.T.builtins G.T.nolimit hg hT nT C G.T.bmain hobj hints (Nat.le_trans hlen hn2) hr hF hb (fun H hH hS => hsp H a ns hlen hH hS) fun H e s' => hCX w H s₁ e s'
end Gh
end
section
set_option Elab.async false
set_option linter.all false
set_option maxRecDepth 100000
set_option maxHeartbeats 4000000
namespace Gh
open PySem PySem.Spec PyProof.Rows L2
theorem fnO0 {P : Program} {w : World} {K : PySem.W.Frag} {mg : Str → Option Value} {base : Heap} {CX : CXT} {k : Nat} {f : Addr} {fd : FuncData} {ps : List Str} {sp : Sp} {dvs : List V} {x qual : Str} {params : Arguments} {body : List Stmt} {scope : Scope} {kws : List (Str × V)} {N : List Str}
    (F : FunD K x qual params body scope dvs kws f fd) (S : FnScope N ps scope) (len : ∀ vs H Q E, sp vs H Q E → vs.length = ps.length)
    (hbody : ∀ (cdv : Value) (A : Around) (outer : List Env) (s : Shared) (H : Hp) (vs : List V) (Q : VK) (E : XK), Room k (A.deeper (envOfC qual scope s.heap.objs.size f cdv)) → sp vs H Q E →
      ∃ t, PSs (cxOf CX P w K mg base N qual scope f cdv A outer s H E).nox body t ∧ t { nx := fun _ H' => Q .non H', rt := Q } (start N vs) H) : FnOk P w K mg base CX (k + 1) f fd ps sp :=
  F.ok S len fun cdv A outer s H vs Q E hr h => by
    obtain ⟨t, ht, q⟩ := hbody cdv A outer s H vs Q E hr h
    exact ⟨t, PSs.nox ht, q⟩
section
variable {X : Cx} {CX : CXT} {k : Nat} {f g C : Addr} {sp : Sp} {dvs : List V} {E : XK} {m : Str} {pos : Pos} {o : Expr} {ta : TE}
theorem PromO.make (M : Mk X.K C f) (F : PromOX X CX k f dvs sp) (hr : Room (k + 1) X.A) (hx : Passes CX X E) : CallR X (.ref C) (rMk C sp dvs E) := by
  intro pins s σ H vs us Q I r h
  unfold rMk at h
  obtain ⟨fd, ps, ds, G, b, hd⟩ := F
  exact run_make M G hr b hd hx I r h
theorem pe_po {pp : Addr} (he : PE X o ta) (c : Cls X.K C) (hp : PropOf X.K C m pp g) (F : PromOX X CX k g dvs sp) (hr : Room (k + 1) X.A) (hx : Passes CX X.nox E)
    (hab : attributeBase o m X.env (eval o X.env) = eval o X.env := by rfl) : PE X (.Attribute o m pos) (tPr C sp dvs E ta) := by
  obtain ⟨fd, ps, ds, G, b, hd⟩ := F
  exact pe_prop he c hp G hr b hd hx hab
theorem pass_on (hs : X.stack = X.env :: X.outer) (hf : X.env.frame = some X.env.locals) (hex : X.ex = []) {E₁ : Value → Shared → Prop} (hx : X.xe = fun e s' => wpAny (model X.prog X.w) X.A (leaving X.env e) (fun _ s'' => L2.CX X.prog X.w X.outer X.H_0 X.s_0 E e s'') E₁ s') : Passes (L2.CX X.prog X.w) X E :=
  passes_call (takes_of hs hf hex hx) fun _ _ _ _ h => h
end
theorem oexB_ok {x : Str} {K : PySem.W.Frag} (h : oexB x K = true) : OexC K (gd x K) := by
  obtain ⟨h1, h⟩ := He.ba h
  obtain ⟨h2, h⟩ := He.ba h
  obtain ⟨h3, h⟩ := He.ba h
  obtain ⟨h4, h5⟩ := He.ba h
  refine ⟨?_, He.eqO_ok h2, of_decide_eq_true h3, of_decide_eq_true h4, h5⟩
  split at h1
  · rename_i c dd nm bs m bm ns qn hd sn sb ab col dl k0 k1 k2 k3 n k5 e
    obtain ⟨z1, h1⟩ := He.ba h1
    obtain ⟨z2, h1⟩ := He.ba h1
    obtain ⟨z3, h1⟩ := He.ba h1
    obtain ⟨z4, h1⟩ := He.ba h1
    obtain ⟨z5, z6⟩ := He.ba h1
    have y1 := of_decide_eq_true z1
    have y2 := of_decide_eq_true z2
    have y6 := of_decide_eq_true z6
    have y5 : dl = false := by simpa using z5
    subst y1 y6 y5 z4
    refine ⟨nm, qn, ns, bs, bm, sn, sb, ab, col, dd, k0, k1, k2, k3, k5, ?_, z3⟩
    rw [e, y2]
  · cases h1
def spErr1 (C : Addr) (f : Str) : Sp := fun vs H Q _ => ∃ (a : Addr) (v : V), vs = [.ref a, v] ∧ H a = some (exo a C none) ∧ ∀ d, H d = none → d ≠ a → Q .non (upd (upd H d (exd d [(f, v)])) a (exo a C (some d)))
theorem mk_err1 {C : Addr} {f : Str} {v : V} {H : Hp} {Q : XK} (h : ∀ d H', L2.Same H H' → H d = none → H' d = some (.xd [(f, v)]) → Q (.ref C) (some d) H') :
    ([v] : List V).length ≤ 1000 ∧ ∀ a, H a = none → spErr1 C f (.ref a :: ([v] ++ [])) (upd H a (exo a C none)) (fun u H2 => u = .non ∧ ∃ (d : Addr) (fs : List (Str × V)), H2 a = some (exo a C (some d)) ∧ H2 d = some (exd d fs) ∧ H d = none ∧ Q (.ref C) (some d) (upd (del H2 a) d (.xd fs))) (fun _ _ _ => False) := by
  refine ⟨by show 1 ≤ 1000; decide, fun a na => ⟨a, v, rfl, upd_same, fun d nd ne => ⟨rfl, d, [(f, v)], upd_same, ?_, ?_, ?_⟩⟩⟩
  · rw [upd_ne ne, upd_same]
  · rw [upd_ne ne] at nd
    exact nd
  · have nd0 : H d = none := by
      rw [upd_ne ne] at nd
      exact nd
    refine h d _ (fun b u e => ?_) nd0 upd_same
    have hb : b ≠ a := ne_of_none e na
    have hd : b ≠ d := ne_of_none e nd0
    rw [upd_ne hd, del_ne hb, upd_ne hb, upd_ne hd, upd_ne hb]
    exact e
end Gh
end
section
set_option Elab.async false
set_option linter.all false
set_option maxRecDepth 100000
set_option maxHeartbeats 4000000
namespace Gh
open PySem PySem.Spec PyProof.Rows L2
@[irreducible] def rShow (K : PySem.W.Frag) : List V → Hp → VK → Prop := fun xs H Q => ∃ v t, xs = [v] ∧ Shw K H v t ∧ Q (.str t) H
theorem rShow_of {K : PySem.W.Frag} {v : V} {t : Str} {H : Hp} {Q : VK} (h : Shw K H v t) (q : Q (.str t) H) : rShow K [v] H Q := by
  unfold rShow
  exact ⟨v, t, rfl, h, q⟩
section
variable {X : Cx} {K : PySem.W.Frag}
theorem call_show (hK : X.K = K) (hu : X.A.units + 102 < cLine) (hg : X.A.guards = some []) : CallR X (.builtin "repr") (rShow K) := by
  subst hK
  intro pins s σ H xs us Q I r h
  unfold rShow at h
  obtain ⟨v, t, rfl, hs, q⟩ := h
  obtain ⟨u, rfl, ru⟩ := vals1 r
  cases hs with
  | non =>
    cases (show u = Value.none from ru)
    exact PySem.P.repr_of_none ⟨.str _, H, I.tok _, ⟨_, rfl⟩, q⟩
  | bl b =>
    cases (show u = Value.bool b from ru)
    exact PySem.P.repr_of_bool ⟨.str _, H, I.tok _, ⟨_, rfl⟩, q⟩
  | int i h =>
    obtain ⟨t, rfl⟩ := ru
    exact PySem.P.repr_of_int h ⟨.str _, H, I.tok _, ⟨_, rfl⟩, q⟩
  | str x h =>
    obtain ⟨t, rfl⟩ := ru
    exact PySem.P.repr_of_str ⟨.str _, H, I.tok _, ⟨_, rfl⟩, q⟩ (hsz := h)
  | dp hd h1 h2 h3 h4 =>
    rename_i a d
    cases (show u = Value.ref a from ru)
    obtain ⟨as, rd⟩ := Dp.reads I d _ _ hd rfl
    exact repr_of_reads' rd h1 (fun z => by rw [h2] at z; cases z) hg (by omega) (fun _ _ e => e) (fun h' u tk k => ⟨.str d.shown, H, I.kept k, ⟨u, rfl⟩, q⟩) h4
variable {CX : CXT} {x : Str} {C fI : Addr} {k : Nat} {sp : Sp} {dvs : List V} {e : Expr} {es : List Expr} {ta : TA} {p pos : Pos}
theorem passF : Passes (L2.CX X.prog X.w) X (fun _ _ _ => False) := fun _ _ _ _ _ _ _ h => by
  obtain ⟨_, _, _, _, _, _, _, _, _, _, _, _, z⟩ := h
  exact z.elim
theorem pmk_po (T : OexC X.K C) (iC : PySem.W.findIn X.K (.ref C) "__init__" = some (some (.ref fI))) (tI : PySem.W.typeIn X.K (.ref fI) = some (.type "function")) (F : PromOX X CX k fI dvs sp) (hr : Room (k + 1) X.A) (hx : Passes CX X (fun _ _ _ => False)) (hm : X.mg x = some (.ref C)) (ha : PA X (e :: es) ta) (hg : Gl X x := by rfl)
    (hdb : (x == ("__debug__" : Str)) = false := by decide) (he : starEach (e :: es) X.env = (false, eval e X.env) :: starEach es X.env := by rfl) (hpl : (backTo pos (starEach es X.env)).any (·.1) = false := by rfl) : PMk X (.Call (.Name x p) (e :: es) [] pos) (tMkO C sp dvs ta) := by
  obtain ⟨fd, ps, ds, G, b, hd⟩ := F
  exact pmk_oex T iC tI G hr b hd hx hg hm ha hdb he hpl
end
structure IniT (K : PySem.W.Frag) (C f : Addr) : Prop where
  iC : PySem.W.findIn K (.ref C) "__init__" = some (some (.ref f))
  tI : PySem.W.typeIn K (.ref f) = some (.type "function")
theorem iniB_ok {x : Str} {K : PySem.W.Frag} (h : iniB x K = true) : IniT K (gd x K) (md x "__init__" K) := by
  obtain ⟨h1, h2⟩ := He.ba h
  exact ⟨He.eqO_ok h1, of_decide_eq_true h2⟩
theorem coB_ok {x : Str} {K : PySem.W.Frag} (h : coB x K = true) : StX.CallO K (gd x K) (md x "__call__" K) := by
  obtain ⟨h1, h⟩ := He.ba h
  obtain ⟨h2, h3⟩ := He.ba h
  exact ⟨He.eqO_ok h1, h2, h3⟩
theorem PromO.raw {P : Program} {w : World} {K : PySem.W.Frag} {mg : Str → Option Value} {base : Heap} {CX : CXT} {k : Nat} {f : Addr} {sp : Sp} (F : PromO P w K mg base CX k f [] sp) : FnR P w K mg base CX k f sp := by
  obtain ⟨fd, ps, ds, G, b, hd⟩ := F
  have z := G.raw b hd
  intro A outer s H us vs Q E hr e0 r hs
  exact z A outer s H us vs Q E hr e0 r (show sp (vs ++ []) H Q E by rw [List.append_nil]; exact hs)
end Gh
end
section
set_option Elab.async false
set_option linter.all false
set_option maxRecDepth 100000
set_option maxHeartbeats 4000000
namespace Gh
open PySem PySem.Spec PyProof.Rows L2
section
variable {prog : Program} {w : World} {A : Around} {E : Value → Shared → Prop} {s : Shared}
end
theorem PI.or {X : Cx} {tg iter : Expr} {w1 w2 : TI} (a : PI X tg iter w1) (b : PI X tg iter w2) : PI X tg iter (fun σ H R => w1 σ H R ∨ w2 σ H R) :=
  ⟨fun pins s σ H R I h => h.elim (a.run pins s σ H R I) (b.run pins s σ H R I)⟩
end Gh
end
section
set_option Elab.async false
set_option linter.all false
set_option maxRecDepth 100000
set_option maxHeartbeats 4000000
namespace Gh
open PySem PySem.Spec PyProof.Rows L2
section
variable {X : Cx} {C f : Addr} {r : List V → Hp → VK → Prop}
@[irreducible] def rSetO (C : Addr) (r : List V → Hp → VK → Prop) : TSet := fun o i v H Q => ∃ a dx fs, o = .ref a ∧ H a = some (.ins C dx fs) ∧ r [o, i, v] H fun _ H' => Q H'
@[irreducible] def rIxO (C : Addr) (sp : Sp) (E : XK) : R2 := fun x y H Q => ∃ a dx fs, x = .ref a ∧ H a = some (.ins C dx fs) ∧ sp [x, y] H Q E
end
end Gh
end
section
set_option Elab.async false
set_option linter.all false
set_option maxRecDepth 100000
set_option maxHeartbeats 4000000
namespace Gh
open PySem PySem.Spec PyProof.Rows L2
theorem fnG1 {P : Program} {w : World} {K : PySem.W.Frag} {mg : Str → Option Value} {base : Heap} {CX : CXT} {k : Nat} {f : Addr} {fd : FuncData} {ps : List Str} {sp : Sp} {dvs : List V} {x qual : Str} {params : Arguments} {body : List Stmt} {scope : Scope} {kws : List (Str × V)} {N : List Str}
    (F : FunD K x qual params body scope dvs kws f fd) (S : FnScope N ps scope) (len : ∀ vs H Q E, sp vs H Q E → vs.length = ps.length)
    (hbody : ∀ (cdv : Value) (A : Around) (outer : List Env) (s : Shared) (H : Hp) (vs : List V) (Q : VK) (E : XK), cdv = fd.code → Room k (A.deeper (envOfC qual scope s.heap.objs.size f cdv)) → (A.deeper (envOfC qual scope s.heap.objs.size f cdv)).guards = some [] → sp vs H Q E →
      ∃ t, PSs (cxOf CX P w K mg base N qual scope f cdv A outer s H E).nox body t ∧ t { nx := fun _ H' => Q .non H', rt := Q } (start N vs) H) : FnG P w K mg base CX (k + 1) f fd ps sp := by
  obtain ⟨oc, od, dV, kV, doc, pm, an, cdv, ct, osl, rfl, lk, hcd, _, _⟩ := F.ex
  refine ⟨len, fun A outer s H args us vs Q E hr hg e0 hb r hsp => ?_⟩
  refine LamX.run_ofS (N := N) (ps := ps) lk hcd S hr e0 hb r (len _ _ _ _ hsp) fun hr' => ?_
  obtain ⟨t, ht, q⟩ := hbody cdv A outer s H vs Q E rfl hr' hg hsp
  exact ⟨t, PSs.nox ht, q⟩
theorem codeOf_fn {K : PySem.W.Frag} {x qual : Str} {params : Arguments} {body : List Stmt} {scope : Scope} {dvs : List V} {kws : List (Str × V)} {fd : FuncData} {p : Str × Option Str} (F : FunD K x qual params body scope dvs kws (He.fAd K p) fd) : fd.code = .ref (He.codeOf K p) := by
  obtain ⟨oc, od, dV, kV, doc, pm, an, cdv, ct, osl, rfl, lk, hcd, _, _⟩ := F.ex
  obtain ⟨c, rfl⟩ := He.codeIn_ref hcd
  exact (congrArg Value.ref (He.codeOf_eq lk rfl)).symm
section
variable {K : PySem.W.Frag} {H H' : Hp}
theorem sqL_extN {a : Addr} {xs : List V} (h : SqL K H a xs) (s : LamX.ExtN H H') : SqL K H' a xs := by
  rcases h with (h | ⟨o, h⟩) | h
  · exact .inl (.inl (s _ _ h (fun _ z => by cases z)))
  · exact .inl (.inr ⟨o, s _ _ h (fun _ z => by cases z)⟩)
  · exact .inr h
theorem sqT_extN {a : Addr} {xs : List V} (h : SqT K H a xs) (s : LamX.ExtN H H') : SqT K H' a xs := by
  rcases h with (h | ⟨o, h⟩) | h
  · exact .inl (.inl (s _ _ h (fun _ z => by cases z)))
  · exact .inl (.inr ⟨o, s _ _ h (fun _ z => by cases z)⟩)
  · exact .inr h
mutual
theorem dp_extN (s : LamX.ExtN H H') : ∀ {v : V} {d : PyData}, Dp K H v d → Dp K H' v d
  | _, _, .non => .non
  | _, _, .bl b => .bl b
  | _, _, .int i => .int i
  | _, _, .str x => .str x
  | _, _, .lst h a => .lst (sqL_extN h s) (dpAll_extN s a)
  | _, _, .tup h a => .tup (sqT_extN h s) (dpAll_extN s a)
theorem dpAll_extN (s : LamX.ExtN H H') : ∀ {vs : List V} {ds : List PyData}, DpAll K H vs ds → DpAll K H' vs ds
  | _, _, .nil => .nil
  | _, _, .cons a r => .cons (dp_extN s a) (dpAll_extN s r)
end
theorem Shw.extN {v : V} {t : Str} (h : Shw K H v t) (s : LamX.ExtN H H') : Shw K H' v t := by
  cases h with
  | non => exact .non
  | bl b => exact .bl b
  | int i h => exact .int i h
  | str x h => exact .str x h
  | dp a b c d e => exact .dp (dp_extN s a) b c d e
theorem Kd.extN {v : V} (k : Kd H v) (s : LamX.ExtN H H') : Kd H' v := by
  cases k with
  | non => exact .non
  | bl b => exact .bl b
  | int i => exact .int i
  | str x => exact .str x
  | lst h => exact .lst (s _ _ h (fun _ z => by cases z))
  | tup h => exact .tup (s _ _ h (fun _ z => by cases z))
  | dK h => exact .dK (s _ _ h (fun _ z => by cases z))
theorem PenAt.extN {p : Addr} {b : Nat} (h : PenAt H p b) (s : LamX.ExtN H H') : PenAt H' p b := by
  obtain ⟨c, ns, i, z, h1, h2, r⟩ := h
  exact ⟨c, ns, i, z, s _ _ h1 (fun _ z => by cases z), s _ _ h2 (fun _ z => by cases z), r⟩
end
end Gh
end
section
set_option Elab.async false
set_option linter.all false
set_option maxRecDepth 100000
set_option maxHeartbeats 4000000
namespace Gh
open PySem PySem.Spec PyProof.Rows L2
section
variable {H H' : Hp} {p a l : Addr} {o u : HO}
theorem nw_upd (n : H p = none) : Nw H (upd H p o) p o := ⟨n, same_new n, upd_same⟩
theorem mu_upd : Mu H (upd H p o) p o := ⟨Keep.refl.put, upd_same⟩
theorem same_up (n : L2.Same H H') (h : H a = some u) : H' a = some u := n _ _ h
theorem keep_up (n : Keep H H' p) (e : a ≠ p) (h : H a = some u) : H' a = some u := n _ _ h e
theorem Nw.ne (n : Nw H H' l o) (h : H a = some u) : l ≠ a := fun e => by
  rw [← e, n.no] at h
  cases h
end
section
variable {H H' : Hp} {p c a l : Addr} {o u : HO} {b k : Nat} {xs : List V} {C dx : Addr} {fs : List (Str × V)}
theorem Pen.le (h : Pen H p c b) (q : k ≤ b) : Pen H p c k := by
  obtain ⟨ns, i, z, h1, h2, h3, h4, h5, h6⟩ := h
  exact ⟨ns, i, z, h1, h2, h3, h4, by omega, h6⟩
theorem Pen.nw (n : Nw H H' l o) (h : Pen H p c b) : Pen H' p c b := h.same n.same
theorem Pen.mu (n : Mu H H' l o) (e1 : l ≠ p) (e2 : l ≠ c) (h : Pen H p c b) : Pen H' p c b := by
  obtain ⟨ns, i, z, h1, h2, h3⟩ := h
  exact ⟨ns, i, z, n.up e1.symm h1, n.up e2.symm h2, h3⟩
theorem nw_pen (n : Nw H H' l o) (h : Pen H p c b) : l ≠ p := by
  obtain ⟨ns, i, z, h1, h2, h3⟩ := h
  exact n.ne h1
theorem nw_cell (n : Nw H H' l o) (h : Pen H p c b) : l ≠ c := by
  obtain ⟨ns, i, z, h1, h2, h3⟩ := h
  exact n.ne h2
theorem tup_pen (n : H a = some (.tup xs)) (h : Pen H p c b) : a ≠ p := by
  obtain ⟨ns, i, z, h1, h2, h3⟩ := h
  exact ne_of n h1 (by intro e; cases e)
theorem tup_cell (n : H a = some (.tup xs)) (h : Pen H p c b) : a ≠ c := by
  obtain ⟨ns, i, z, h1, h2, h3⟩ := h
  exact ne_of n h2 (by intro e; cases e)
theorem ins_pen (n : H a = some (.ins C dx fs)) (h : Pen H p c b) : a ≠ p := by
  obtain ⟨ns, i, z, h1, h2, h3⟩ := h
  exact ne_of n h1 (by intro e; cases e)
theorem ins_cell (n : H a = some (.ins C dx fs)) (h : Pen H p c b) : a ≠ c := by
  obtain ⟨ns, i, z, h1, h2, h3⟩ := h
  exact ne_of n h2 (by intro e; cases e)
end
section
variable {H H' : Hp} {a t l : Addr} {o u : HO} {xs ys : List V} {C dx : Addr} {fs : List (Str × V)}
theorem ins_lst (h : H a = some (.ins C dx fs)) (k : H t = some (.lst xs)) : a ≠ t := ne_of h k (by intro e; cases e)
theorem ins_tup (h : H a = some (.ins C dx fs)) (k : H t = some (.tup xs)) : a ≠ t := ne_of h k (by intro e; cases e)
theorem tup_lst (h : H a = some (.tup ys)) (k : H t = some (.lst xs)) : a ≠ t := ne_of h k (by intro e; cases e)
theorem nw_ne (n : Nw H H' l o) (h : H a = some u) : l ≠ a := n.ne h
end
def spDr : Sp := fun vs H Q _ => ∃ (p c : Addr) (b : Nat) (m : Int), vs = [.ref p, .int m] ∧ 0 < m ∧ m.natAbs.log2 < 9000 ∧ Pen H p c (b + 1) ∧
  ∀ (d : Int) (H' : Hp), 0 ≤ d → d < m → Pen H' p c b → Keep H H' p → Q (.int d) H'
def spPn (K : PySem.W.Frag) : Sp := fun vs H Q _ => ∃ (a : Addr) (ns : List Int), vs = [.ref a] ∧ SqL K H a (ns.map V.int) ∧ ns.length ≤ 63 ∧ ∀ (p c : Addr) (H' : Hp), H p = none → Pen H' p c 1000000 → L2.Same H H' → Q (.ref p) H'
section
variable {H : Hp} {E : XK} {Q : VK} {p c l : Addr} {b : Nat} {m : Int} {xs : List V}
theorem log_of (h0 : 0 < m) (h : m < 10 ^ 100) : m.natAbs.log2 < 9000 := by
  have h2 : m.natAbs < 2 ^ 9000 := Nat.lt_of_lt_of_le (show m.natAbs < 10 ^ 100 by omega) (by decide)
  exact (Nat.log2_lt (by omega)).mpr h2
end
@[irreducible] def rLn (K : PySem.W.Frag) : List V → Hp → VK → Prop := fun xs H Q => ∃ x n, xs = [x] ∧ LenV K x H n ∧ Q (.int n) H
@[irreducible] def rListOf (K : PySem.W.Frag) : List V → Hp → VK → Prop := fun xs H Q => ∃ p ys, xs = [.ref p] ∧ (SqL K H p ys ∨ SqT K H p ys) ∧ ∀ l, H l = none → Q (.ref l) (upd H l (.lst ys))
@[irreducible] def rTupOf (K : PySem.W.Frag) : List V → Hp → VK → Prop := fun xs H Q => ∃ p ys, xs = [.ref p] ∧ ((SqL K H p ys ∧ ∀ l, H l = none → Q (.ref l) (upd H l (.tup ys))) ∨ (SqT K H p ys ∧ Q (.ref p) H))
@[irreducible] def rInt : List V → Hp → VK → Prop := rInt1
@[irreducible] def rAbs : List V → Hp → VK → Prop := fun xs H Q => ∃ i, xs = [.int i] ∧ Q (.int (if i < 0 then -i else i)) H
@[irreducible] def rIsN : R2 := fun x y H Q => y = .non ∧ Q (.bl (decide (x = .non))) H
@[irreducible] def rNotN : R2 := fun x y H Q => y = .non ∧ Q (.bl (!decide (x = .non))) H
section
variable {X : Cx} {K : PySem.W.Frag}
theorem cr_len (h : X.K = K) : CallR X (.builtin "len") (rLn K) := by unfold rLn; exact h ▸ call_len
theorem cr_listOf (h : X.K = K) : CallR X (.type "list") (rListOf K) := by unfold rListOf; exact h ▸ call_list_of
theorem cr_int : CallR X (.type "int") rInt := by unfold rInt; exact call_int1
theorem cr_abs : CallR X (.builtin "abs") rAbs := by unfold rAbs; exact call_abs
theorem sl_listK (h : X.K = K) : SlR X (rSlL K) := h ▸ sl_list
theorem op_neDK (h : X.K = K) (hu : X.A.units + 64 < cLine) : OpR X (compareOp .NotEq) (rNeD K) := h ▸ op_neD hu
@[irreducible] def rFld (C : Addr) (f : Str) : V → Hp → VK → Prop := fun x H Q => ∃ a dx fs v, x = .ref a ∧ H a = some (.ins C dx fs) ∧ fs.lookup f = some v ∧ Q v H
theorem pe_f {C : Addr} {e : Expr} {f : Str} {pos : Pos} {ta : TE} (he : PE X e ta) (c : Cls X.K C) (n : NoAttr X.K C f) (hb : attributeBase e f X.env (eval e X.env) = eval e X.env := by rfl) : PE X (.Attribute e f pos) (tUn (rFld C f) ta) := by
  refine ⟨fun pins s σ H Q I h => ?_⟩
  refine attr_of hb (thn (he.run pins s σ H _ I h) fun u s1 ⟨x, H1, I1, rx, q0⟩ => ?_)
  unfold rFld at q0
  obtain ⟨a, dx, fs, v, ex, ea, l, q⟩ := q0
  subst ex
  obtain rfl : u = Value.ref a := rx
  exact getattr_ok I1 ea c n l fun u' s2 I2 ru => ⟨v, H1, I2, ru, q⟩
@[irreducible] def sF (C : Addr) (ta tv : TE) (f : Str) : TS := fun D σ H => tv σ H fun y H1 => ta σ H1 fun x H2 => ∃ a dx fs, x = .ref a ∧ H2 a = some (.ins C dx fs) ∧ fs.length < 1000 ∧ D.nx σ (upd H2 a (.ins C dx (putF f y fs)))
theorem ps_f {C : Addr} {o value : Expr} {f : Str} {pos pos' : Pos} {ta tv : TE} (ha : PE X o ta) (hv : PE X value tv) (c : Cls X.K C) (n : NoAttr X.K C f) (hs : swapsWith value (some (.Attribute o f pos')) pos.line X.env = pure false := by rfl) : PS X (.Assign [.Attribute o f pos'] value pos) (sF C ta tv f) := by
  refine ⟨fun pins s σ H D I h => ?_⟩
  unfold sF at h
  refine plainObj_wpAny_Assign_Attribute (thn (hv.run pins s σ H _ I h) fun u s1 ⟨y, H1, I1, ry, q⟩ => thn (ha.run pins s1 σ H1 _ I1 q) fun ov s2 ⟨x, H2, I2, rx, a, dx, fs, ex, ea, l, q2⟩ => ?_) hs
  subst ex
  obtain rfl : ov = Value.ref a := rx
  exact setattr_ok I2 ea c n l ry fun s3 I3 => ⟨σ, _, I3, q2⟩
@[irreducible] def rConst (C : Addr) (f : Str) (v : V) : V → Hp → VK → Prop := fun x H Q => ∃ a dx fs, x = .ref a ∧ H a = some (.ins C dx fs) ∧ fs.lookup f = none ∧ Q v H
end
theorem len_ok {n : Nat} (h : n ≤ 100000) : n ≤ sizeLine := Nat.le_trans h (by decide)
@[irreducible] def rPowK (r : Int) : R2 := fun x y H Q => ∃ i j, x = .int i ∧ y = .int j ∧ CPow i j ∧ i ^ j.toNat = r ∧ Q (.int r) H
theorem op_powK {X : Cx} (r : Int) : OpR X (binaryOp .Pow) (rPowK r) := by
  intro pins s σ H x y v u Q I rx ry h
  unfold rPowK at h
  obtain ⟨i, j, h1, h2, h3, h4, q⟩ := h
  exact op_pow pins s σ H x y v u Q I rx ry ⟨i, j, h1, h2, h3, by show Q (.int (i ^ j.toNat)) H; rw [h4]; exact q⟩
section
variable {K : PySem.W.Frag} {H : Hp} {σ : L2.St} {Q : VK} {D : Ends} {i j n : Int} {x y v : V} {ta tb tc te tf : TE} {t u : TS} {c d : TT} {k : Bool} {a l p C dx : Addr} {xs ys : List V} {A B : Prop}
theorem st_seq (h : t { D with nx := u D } σ H) : tSeq t u D σ H := h
theorem st_nx (h : D.nx σ H) : tNext D σ H := h
theorem st_asg {g : TG} (h : te σ H fun x H1 => g x σ H1 D.nx) : tAsg te g D σ H := h
theorem st_name {m : Nat} {Q : L2.St → Hp → Prop} (h : Q (σ.set m (some v)) H) : gName m v σ H Q := h
theorem st_drop (h : te σ H fun _ H1 => D.nx σ H1) : tDrop te D σ H := h
theorem st_ret (h : te σ H D.rt) : tRet te D σ H := h
theorem st_retN (h : D.rt .non H) : tRetN D σ H := h
theorem st_ifS (h : c σ H fun b H1 => if b = true then t D σ H1 else u D σ H1) : tIfS c t u D σ H := h
theorem st_brk (h : D.bk σ H) : tBreak D σ H := h
theorem st_cnt (h : D.ct σ H) : tCont D σ H := h
theorem st_par {m m' : Nat} {t : TA} (h : t σ H fun vs H1 => ∃ v w, vs = [v, w] ∧ D.nx ((σ.set m (some v)).set m' (some w)) H1) : tPar m m' t D σ H := h
theorem st_par2 {P : V → V → Prop} (h : P x y) : ∃ v w, [x, y] = [v, w] ∧ P v w := ⟨x, y, rfl, h⟩
theorem st_aug {m : Nat} {ti : TIp} (e : σ[m]? = some (some x)) (h : te σ H fun y H1 => ti x y H1 fun z H2 => D.nx (σ.set m (some z)) H2) : tAug m te ti D σ H := ⟨x, e, h⟩
theorem st_var {m : Nat} (e : σ[m]? = some (some v)) (h : Q v H) : tVar m σ H Q := ⟨v, e, h⟩
theorem st_c (h : Q v H) : tC v σ H Q := h
theorem st_op {r : R2} (h : ta σ H fun x H1 => tb σ H1 fun y H2 => r x y H2 Q) : tOp r ta tb σ H Q := h
theorem st_un {r : V → Hp → VK → Prop} (h : ta σ H fun x H1 => r x H1 Q) : tUn r ta σ H Q := h
theorem st_rI0 {g : Int → Int → V} (h : Q (g i j) H) : rI0 g (.int i) (.int j) H Q := ⟨i, j, rfl, rfl, h⟩
theorem st_rI {g : Int → Int → V} {R : Int → Int → Prop} (hc : R i j) (h : Q (g i j) H) : rI R g (.int i) (.int j) H Q := ⟨i, j, rfl, rfl, hc, h⟩
theorem st_rU {g : Int → V} (h : Q (g i) H) : rU g (.int i) H Q := ⟨i, rfl, h⟩
theorem st_rAdd (h : Q (.int (i + j)) H) : rAdd (.int i) (.int j) H Q := ⟨i, j, rfl, rfl, h⟩
theorem st_rSub (h : Q (.int (i - j)) H) : rSub (.int i) (.int j) H Q := ⟨i, j, rfl, rfl, h⟩
theorem st_eq (e : scal x y = true) (h : Q (.bl (decide (x = y))) H) : rEq x y H Q := ⟨e, h⟩
theorem st_ne (e : scal x y = true) (h : Q (.bl (!decide (x = y))) H) : rNe x y H Q := ⟨e, h⟩
theorem st_isN (h : Q (.bl (decide (x = .non))) H) : rIsN x .non H Q := by unfold rIsN; exact ⟨rfl, h⟩
theorem st_notN (h : Q (.bl (!decide (x = .non))) H) : rNotN x .non H Q := by unfold rNotN; exact ⟨rfl, h⟩
theorem st_test {Q : Bool → Hp → Prop} (h : te σ H fun x H' => ∃ k, x = .bl k ∧ Q k H') : tTest te σ H Q := h
theorem st_tB {Q : Bool → Hp → Prop} (h : te σ H fun x H' => ∃ k, x = .bl k ∧ Q k H') : tB te σ H Q := h
theorem st_ebl {P : Bool → Prop} (h : P k) : ∃ k', V.bl k = .bl k' ∧ P k' := ⟨k, rfl, h⟩
theorem st_eint {P : Int → Prop} (h : P i) : ∃ k', V.int i = .int k' ∧ P k' := ⟨i, rfl, h⟩
theorem st_and {Q : Bool → Hp → Prop} (h : c σ H fun k H1 => if k = true then d σ H1 Q else Q false H1) : tAnd c d σ H Q := h
theorem st_or {Q : Bool → Hp → Prop} (h : c σ H fun k H1 => if k = true then Q true H1 else d σ H1 Q) : tOr c d σ H Q := h
theorem st_not {Q : Bool → Hp → Prop} (h : c σ H fun k H1 => Q (!k) H1) : tNot c σ H Q := h
theorem st_andV (h : ta σ H fun x H1 => ∃ c, x = .bl c ∧ if c = true then tb σ H1 Q else Q (.bl false) H1) : tAndV ta tb σ H Q := h
theorem st_orV (h : ta σ H fun x H1 => ∃ c, x = .bl c ∧ if c = true then Q (.bl true) H1 else tb σ H1 Q) : tOrV ta tb σ H Q := h
theorem st_notV (h : ta σ H fun x H1 => ∃ c, x = .bl c ∧ Q (.bl (!c)) H1) : tNotV ta σ H Q := h
theorem st_ifE (h : c σ H fun k H1 => if k = true then ta σ H1 Q else tb σ H1 Q) : tIf c ta tb σ H Q := h
theorem st_chain {r r' : R2} (h : ta σ H fun x H1 => tb σ H1 fun y H2 => r x y H2 fun z H3 => ∃ k, z = .bl k ∧ if k = true then tc σ H3 fun w H4 => r' y w H4 Q else Q (.bl false) H3) : tChain r r' ta tb tc σ H Q := h
theorem st_if1 (e : k = true) (h : A) : if k = true then A else B := by rw [if_pos e]; exact h
theorem st_if0 (e : k = false) (h : B) : if k = true then A else B := by rw [e, if_neg (by decide)]; exact h
theorem st_nil {Q : List V → Hp → Prop} (h : Q [] H) : tNil σ H Q := h
theorem st_cons {t : TA} {Q : List V → Hp → Prop} (h : ta σ H fun x H1 => t σ H1 fun xs H2 => Q (x :: xs) H2) : tCons ta t σ H Q := h
theorem st_cl {r : List V → Hp → VK → Prop} {t : TA} (h : t σ H fun vs H1 => r vs H1 Q) : tCl r t σ H Q := h
theorem st_cb {r : List V → Hp → VK → Prop} {t : TA} (h : t σ H fun vs H1 => r vs H1 Q) : tCB r t σ H Q := h
theorem st_mt {m : Str} {r : List V → Hp → VK → Prop} {t : TA} (h : ta σ H fun x H1 => ∃ a dx fs, x = .ref a ∧ H1 a = some (.ins C dx fs) ∧ fs.lookup m = none ∧ t σ H1 fun vs H2 => r (x :: vs) H2 Q) : tMt C m r ta t σ H Q := h
theorem st_emt {m : Str} {fs : List (Str × V)} {P : Prop} (h : H a = some (.ins C dx fs)) (e : fs.lookup m = none) (q : P) : ∃ a' dx fs, V.ref a = .ref a' ∧ H a' = some (.ins C dx fs) ∧ fs.lookup m = none ∧ P := ⟨a, dx, fs, rfl, h, e, q⟩
theorem st_pr {sp : Sp} {dvs : List V} {E : XK} (h : ta σ H fun x H1 => ∃ a dx fs, x = .ref a ∧ H1 a = some (.ins C dx fs) ∧ sp (.ref a :: dvs) H1 Q E) : tPr C sp dvs E ta σ H Q := h
theorem st_epr {fs : List (Str × V)} {sp : Sp} {dvs : List V} {E : XK} (h : H a = some (.ins C dx fs)) (q : rSp sp dvs E [.ref a] H Q) : ∃ a' dx fs, V.ref a = .ref a' ∧ H a' = some (.ins C dx fs) ∧ sp (.ref a' :: dvs) H Q E := ⟨a, dx, fs, rfl, h, q⟩
theorem st_fld {f : Str} {fs : List (Str × V)} (h : H a = some (.ins C dx fs)) (e : fs.lookup f = some v) (q : Q v H) : rFld C f (.ref a) H Q := by unfold rFld; exact ⟨a, dx, fs, v, rfl, h, e, q⟩
theorem st_const {f : Str} {fs : List (Str × V)} (h : H a = some (.ins C dx fs)) (e : fs.lookup f = none) (q : Q v H) : rConst C f v (.ref a) H Q := by unfold rConst; exact ⟨a, dx, fs, rfl, h, e, q⟩
def rSetF (C : Addr) (f : Str) (y x : V) (H : Hp) (P : Hp → Prop) : Prop := ∃ a dx fs, x = .ref a ∧ H a = some (.ins C dx fs) ∧ fs.length < 1000 ∧ P (upd H a (.ins C dx (putF f y fs)))
theorem st_sF {f : Str} (h : te σ H fun y H1 => ta σ H1 fun x H2 => rSetF C f y x H2 fun H3 => D.nx σ H3) : sF C ta te f D σ H := by unfold sF; exact h
theorem st_setF {f : Str} {fs : List (Str × V)} {P : Hp → Prop} (h : H a = some (.ins C dx fs)) (e : fs.length < 1000) (q : ∀ H', Mu H H' a (.ins C dx (putF f y fs)) → P H') : rSetF C f y (.ref a) H P := ⟨a, dx, fs, rfl, h, e, q _ mu_upd⟩
theorem st_powK {r : Int} (h1 : CPow i j) (h2 : i ^ j.toNat = r) (q : Q (.int r) H) : rPowK r (.int i) (.int j) H Q := by unfold rPowK; exact ⟨i, j, rfl, rfl, h1, h2, q⟩
def rNewL (xs : List V) (H : Hp) (Q : VK) : Prop := xs.length ≤ sizeLine ∧ ∀ p, H p = none → Q (.ref p) (upd H p (.lst xs))
def rNewT (xs : List V) (H : Hp) (Q : VK) : Prop := xs.length ≤ sizeLine ∧ ∀ p, H p = none → Q (.ref p) (upd H p (.tup xs))
theorem st_lst {t : TA} (h : t σ H fun xs H1 => rNewL xs H1 Q) : tLst t σ H Q := h
theorem st_tup {t : TA} (h : t σ H fun xs H1 => rNewT xs H1 Q) : tTup t σ H Q := h
theorem st_newL (e : xs.length ≤ sizeLine) (h : ∀ p H', Nw H H' p (.lst xs) → Q (.ref p) H') : rNewL xs H Q := ⟨e, fun p np => h p _ (nw_upd np)⟩
theorem st_newT (e : xs.length ≤ sizeLine) (h : ∀ p H', Nw H H' p (.tup xs) → Q (.ref p) H') : rNewT xs H Q := ⟨e, fun p np => h p _ (nw_upd np)⟩
theorem new_of {o : HO} (h : ∀ p H', Nw H H' p o → Q (.ref p) H') : ∀ p, H p = none → Q (.ref p) (upd H p o) := fun p np => h p _ (nw_upd np)
theorem st_ixL (h : H p = some (.lst xs)) (e : atI xs i = some v) (q : Q v H) : rIxL K (.ref p) (.int i) H Q := ⟨p, xs, i, v, rfl, rfl, SqL.of h, e, q⟩
theorem st_ixLs (h : SqL K H p xs) (e : atI xs i = some v) (q : Q v H) : rIxL K (.ref p) (.int i) H Q := ⟨p, xs, i, v, rfl, rfl, h, e, q⟩
theorem st_ixT (h : H p = some (.tup xs)) (e : atI xs i = some v) (q : Q v H) : rIxT K (.ref p) (.int i) H Q := ⟨p, xs, i, v, rfl, rfl, SqT.of h, e, q⟩
theorem st_ixTs (h : SqT K H p xs) (e : atI xs i = some v) (q : Q v H) : rIxT K (.ref p) (.int i) H Q := ⟨p, xs, i, v, rfl, rfl, h, e, q⟩
theorem st_lenL (h : H p = some (.lst xs)) (q : Q (.int xs.length) H) : rLn K [.ref p] H Q := by unfold rLn; exact ⟨_, _, rfl, .inl ⟨xs, SqL.of h, rfl⟩, q⟩
theorem st_lenT (h : H p = some (.tup xs)) (q : Q (.int xs.length) H) : rLn K [.ref p] H Q := by unfold rLn; exact ⟨_, _, rfl, .inr ⟨xs, SqT.of h, rfl⟩, q⟩
theorem st_lenS {z : Str} (e : z.length ≤ sizeLine) (q : Q (.int z.length) H) : rLn K [.str z] H Q := by unfold rLn; exact ⟨_, _, rfl, ⟨e, rfl⟩, q⟩
theorem st_listL (h : H p = some (.lst xs)) (q : ∀ l H', Nw H H' l (.lst xs) → Q (.ref l) H') : rListOf K [.ref p] H Q := by unfold rListOf; exact ⟨p, xs, rfl, .inl (SqL.of h), new_of q⟩
theorem st_listT (h : H p = some (.tup xs)) (q : ∀ l H', Nw H H' l (.lst xs) → Q (.ref l) H') : rListOf K [.ref p] H Q := by unfold rListOf; exact ⟨p, xs, rfl, .inr (SqT.of h), new_of q⟩
theorem st_tupL (h : H p = some (.lst xs)) (q : ∀ l H', Nw H H' l (.tup xs) → Q (.ref l) H') : rTupOf K [.ref p] H Q := by unfold rTupOf; exact ⟨p, xs, rfl, .inl ⟨SqL.of h, new_of q⟩⟩
theorem st_tupT (h : H p = some (.tup xs)) (q : Q (.ref p) H) : rTupOf K [.ref p] H Q := by unfold rTupOf; exact ⟨p, xs, rfl, .inr ⟨SqT.of h, q⟩⟩
theorem st_int (q : Q (.int i) H) : rInt [.int i] H Q := by unfold rInt; exact .inl ⟨i, rfl, q⟩
theorem st_intB (q : Q (.int (if k = true then 1 else 0)) H) : rInt [.bl k] H Q := by unfold rInt; exact .inr ⟨k, rfl, q⟩
theorem st_abs (q : Q (.int (if i < 0 then -i else i)) H) : rAbs [.int i] H Q := by unfold rAbs; exact ⟨i, rfl, q⟩
theorem st_sl {r : V → Option Int → Option Int → Hp → VK → Prop} {tl th : TO} (h : te σ H fun x H1 => tl σ H1 fun l H2 => th σ H2 fun u H3 => r x l u H3 Q) : tSl r te tl th σ H Q := h
theorem st_part {Q : Option Int → Hp → Prop} (h : te σ H fun x H1 => ∃ i, x = .int i ∧ Q (some i) H1) : tPart te σ H Q := h
theorem st_nopart {Q : Option Int → Hp → Prop} (h : Q none H) : tNoPart σ H Q := h
theorem st_slL {lo hi : Option Int} (h : H p = some (.lst xs)) (q : ∀ l H', Nw H H' l (.lst (cutV xs lo hi)) → Q (.ref l) H') : rSlL K (.ref p) lo hi H Q := ⟨p, xs, rfl, SqL.of h, new_of q⟩
theorem st_slLs {lo hi : Option Int} (h : SqL K H p xs) (q : ∀ l H', Nw H H' l (.lst (cutV xs lo hi)) → Q (.ref l) H') : rSlL K (.ref p) lo hi H Q := ⟨p, xs, rfl, h, new_of q⟩
theorem st_cat (h : H l = some (.lst xs)) (h' : H p = some (.lst ys)) (e : xs.length + ys.length ≤ sizeLine) (q : ∀ a H', Nw H H' a (.lst (xs ++ ys)) → Q (.ref a) H') : rCat (.ref l) (.ref p) H Q := ⟨l, p, xs, ys, rfl, rfl, h, h', e, new_of q⟩
theorem st_bm {T : String} {r : V → List V → Hp → VK → Prop} {t : TA} (h : te σ H fun x H1 => tyV K T x H1 ∧ t σ H1 fun xs H2 => r x xs H2 Q) : tBM K T r te t σ H Q := h
theorem st_bm0 {T : String} {r : V → List V → Hp → VK → Prop} (h : te σ H fun x H1 => tyV K T x H1 ∧ r x [] H1 Q) : tBM0 K T r te σ H Q := h
theorem st_tyL {P : Prop} (h : H p = some (.lst xs)) (q : P) : tyV K "list" (.ref p) H ∧ P := ⟨.inl ⟨rfl, xs, SqL.of h⟩, q⟩
theorem st_tyS {z : Str} {P : Prop} (q : P) : tyV K "str" (.str z) H ∧ P := ⟨rfl, q⟩
theorem st_gsub {to ti : TE} {ts : TSet} {Q : L2.St → Hp → Prop} (h : to σ H fun o H1 => ti σ H1 fun i H2 => ts o i v H2 fun H3 => Q σ H3) : gSub to ti ts v σ H Q := h
theorem st_setL {m : Nat} {Q : Hp → Prop} (h : H p = some (.lst xs)) (e : ixN xs.length i = some m) (q : ∀ H', Mu H H' p (.lst (xs.set m v)) → Q H') : rSetL (.ref p) (.int i) v H Q := ⟨p, xs, i, m, rfl, rfl, h, e, q _ mu_upd⟩
theorem st_neD {d e : PyData} (h1 : Dp K H x d) (h2 : Dp K H y e) (h3 : SeqAt.shaped d = true) (h4 : SeqAt.shaped e = true) (q : Q (.bl (!PyData.eqv d e)) H) : rNeD K x y H Q := ⟨d, e, h1, h2, h3, h4, q⟩
theorem st_gtup {m : Nat} {g : TGs} {Q : L2.St → Hp → Prop} (h : H a = some (.tup xs)) (e : xs.length = m) (q : g xs σ H Q) : gTup K m g (.ref a) σ H Q := ⟨a, xs, rfl, SqT.of h, e, q⟩
theorem st_gcons {g : TG} {gs : TGs} {Q : L2.St → Hp → Prop} (h : g v σ H fun σ' H' => gs xs σ' H' Q) : gCons g gs (v :: xs) σ H Q := ⟨v, xs, rfl, h⟩
theorem st_gnil {Q : L2.St → Hp → Prop} (h : Q σ H) : gNil [] σ H Q := ⟨rfl, h⟩
theorem st_list {R : It → Hp → Prop} (h : te σ H fun x H1 => ∃ a, x = .ref a ∧ (∃ xs, SqL K H1 a xs) ∧ R (Itl K a) H1) : iList K te σ H R := h
theorem st_elist {P : Addr → Prop} (h : H a = some (.lst xs)) (q : P a) : ∃ a', V.ref a = .ref a' ∧ (∃ xs, SqL K H a' xs) ∧ P a' := ⟨a, rfl, ⟨xs, SqL.of h⟩, q⟩
theorem st_itup {R : It → Hp → Prop} (h : te σ H fun x H1 => ∃ a, x = .ref a ∧ (∃ xs, SqT K H1 a xs) ∧ R (Itt K a) H1) : iTup K te σ H R := h
theorem st_eitup {P : Addr → Prop} (h : H a = some (.tup xs)) (q : P a) : ∃ a', V.ref a = .ref a' ∧ (∃ xs, SqT K H a' xs) ∧ P a' := ⟨a, rfl, ⟨xs, SqT.of h⟩, q⟩
end
end Gh
end
section
set_option Elab.async false
set_option linter.all false
set_option maxRecDepth 100000
set_option maxHeartbeats 4000000
namespace Gh
open PySem PySem.Spec PyProof.Rows L2
section
variable {X : Cx} {a b c d : Expr} {ta tb tc td : TE} {pos : Pos}
def tChain3 (r r' r2 : R2) (ta tb tc td : TE) : TE := fun σ H Q => ta σ H fun x H1 => tb σ H1 fun y H2 => r x y H2 fun z H3 => ∃ k, z = .bl k ∧
  (if k = true then tc σ H3 fun w H4 => r' y w H4 fun z' H5 => ∃ k', z' = .bl k' ∧ (if k' = true then td σ H5 fun v H6 => r2 w v H6 Q else Q (.bl false) H5) else Q (.bl false) H3)
theorem st_chain3 {σ : L2.St} {H : Hp} {Q : VK} {r r' r2 : R2} (h : ta σ H fun x H1 => tb σ H1 fun y H2 => r x y H2 fun z H3 => ∃ k, z = .bl k ∧
  (if k = true then tc σ H3 fun w H4 => r' y w H4 fun z' H5 => ∃ k', z' = .bl k' ∧ (if k' = true then td σ H5 fun v H6 => r2 w v H6 Q else Q (.bl false) H5) else Q (.bl false) H3)) : tChain3 r r' r2 ta tb tc td σ H Q := h
def gSl (to tl th : TE) : TG := fun v σ H Q => to σ H fun x H1 => tl σ H1 fun lo H2 => th σ H2 fun hi H3 => ∃ (l m : Addr) (i j : Int) (xs ys : List V), x = .ref l ∧ v = .ref m ∧ lo = .int i ∧ hi = .int j ∧ H3 l = some (.lst xs) ∧ H3 m = some (.lst ys) ∧ l ≠ m ∧ 0 ≤ i ∧ i ≤ j ∧ j ≤ xs.length ∧ xs.length + ys.length ≤ sizeLine ∧
  Q σ (upd H3 l (.lst (xs.take i.toNat ++ ys ++ xs.drop j.toNat)))
def rSlS (v x lo hi : V) (H : Hp) (P : Hp → Prop) : Prop := ∃ (l m : Addr) (i j : Int) (xs ys : List V), x = .ref l ∧ v = .ref m ∧ lo = .int i ∧ hi = .int j ∧ H l = some (.lst xs) ∧ H m = some (.lst ys) ∧ l ≠ m ∧ 0 ≤ i ∧ i ≤ j ∧ j ≤ xs.length ∧ xs.length + ys.length ≤ sizeLine ∧ P (upd H l (.lst (xs.take i.toNat ++ ys ++ xs.drop j.toNat)))
theorem st_gsl {σ : L2.St} {H : Hp} {v : V} {Q : L2.St → Hp → Prop} {to tl th : TE} (h : to σ H fun x H1 => tl σ H1 fun lo H2 => th σ H2 fun hi H3 => rSlS v x lo hi H3 fun H4 => Q σ H4) : gSl to tl th v σ H Q := h
end
section
variable {K : PySem.W.Frag} {x qual : Str} {params : Arguments} {body : List Stmt} {scope : Scope} {dvs : List V} {kws : List (Str × V)} {f : Addr} {fd : FuncData} {ps : List Str}
end
section
variable {X : Cx} {CX : CXT} {k n : Nat} {f C : Addr} {ks : List Str} {sp : Sp} {E : XK} {x m : Str} {p pos apos : Pos} {e o : Expr} {es : List Expr} {kws : List Keyword} {t tk : TA} {ta : TE} {gV : List V → List V → List V} {r : List V → List V → Hp → VK → Prop}
def rMkK (C : Addr) (n m : Nat) (gV : List V → List V → List V) (sp : Sp) (E : XK) : List V → List V → Hp → VK → Prop := fun vs zs H Q => vs.length = n ∧ zs.length = m ∧ rMk C (fun us H Q E => sp us H Q E) [] E (gV vs zs) H Q
theorem PromK.make (M : Mk X.K C f) (F : PromK X.prog X.w X.K X.mg X.base CX k f (n + 1) ks (fun vs zs => vs ++ gV [] zs) sp) (hr : Room (k + 1) X.A) (hx : Passes CX X E) : CallK X (.ref C) ks (rMkK C n ks.length (fun vs zs => vs ++ gV [] zs) sp E) := by
  intro pins s σ H vs zs us ws Q I rv rz ⟨l1, l2, h⟩
  obtain ⟨fd, ps, g, G, b⟩ := F
  refine run_makeN M G hr b hx I rv rz l1 l2 fun x dx nx ndx ne => ?_
  unfold rMk at h
  have z := h x dx nx ndx ne
  rw [List.append_nil] at z
  exact z
def tClK (r : List V → List V → Hp → VK → Prop) (t tk : TA) : TE := fun σ H Q => t σ H fun vs H1 => tk σ H1 fun zs H2 => r vs zs H2 Q
def tMtK (C : Addr) (m : Str) (r : List V → List V → Hp → VK → Prop) (ta : TE) (t tk : TA) : TE := fun σ H Q => ta σ H fun x H1 => ∃ a dx fs, x = .ref a ∧ H1 a = some (.ins C dx fs) ∧ fs.lookup m = none ∧ t σ H1 fun vs H2 => tk σ H2 fun zs H3 => r (x :: vs) zs H3 Q
end
section
variable {H : Hp} {σ : L2.St} {Q : VK} {ta : TE} {t tk : TA} {r : List V → List V → Hp → VK → Prop} {C : Addr} {m : Str} {n k : Nat} {gV : List V → List V → List V} {sp : Sp} {E : XK} {vs zs : List V}
theorem st_clK (h : t σ H fun vs H1 => tk σ H1 fun zs H2 => r vs zs H2 Q) : tClK r t tk σ H Q := h
theorem st_mtK (h : ta σ H fun x H1 => ∃ a dx fs, x = .ref a ∧ H1 a = some (.ins C dx fs) ∧ fs.lookup m = none ∧ t σ H1 fun vs H2 => tk σ H2 fun zs H3 => r (x :: vs) zs H3 Q) : tMtK C m r ta t tk σ H Q := h
theorem st_spK (h1 : vs.length = n) (h2 : zs.length = k) (h : rSp sp [] E (gV vs zs) H Q) : rSpK n k gV sp E vs zs H Q := ⟨h1, h2, by
  unfold rSp at h
  rw [List.append_nil] at h
  exact h⟩
end
end Gh
end
section
set_option Elab.async false
set_option linter.all false
set_option maxRecDepth 100000
set_option maxHeartbeats 4000000
namespace Gh
open PySem PySem.Spec PyProof.Rows L2
theorem Fn.le {d : PyData} {n b n' b' : Nat} (h : Fn d n b) (h1 : n ≤ n') (h2 : b ≤ b') : Fn d n' b' := ⟨h.cl, h.sh, h.nd, h.ls, Nat.le_trans h.dp h1, Nat.le_trans h.bk h2⟩
theorem FnAll.each {n b : Nat} : ∀ {ds : List PyData}, (∀ d ∈ ds, Fn d n b) → FnAll ds n ((b + 1) * ds.length)
  | [], _ => FnAll.nil
  | d :: r, h => by
    have z := FnAll.cons (h d List.mem_cons_self) (FnAll.each fun e he => h e (List.mem_cons_of_mem _ he))
    have e : b + 1 + (b + 1) * r.length = (b + 1) * (d :: r).length := by
      rw [List.length_cons, Nat.mul_add, Nat.mul_one, Nat.add_comm]
    rw [e] at z
    exact z
theorem FnAll.ints {ns : List Int} (h : ∀ n ∈ ns, -(10 ^ 100) < n ∧ n < 10 ^ 100) : FnAll (ns.map PyData.int) 0 ns.length := by
  have z := FnAll.each (n := 0) (b := 0) (ds := ns.map PyData.int) fun d hd => by
    obtain ⟨n, hn, rfl⟩ := List.mem_map.mp hd
    exact Fn.int (h n hn).1 (h n hn).2
  rw [List.length_map, Nat.zero_add, Nat.one_mul] at z
  exact z
theorem Fn.shaped {d : PyData} {n b : Nat} (h : Fn d n b) (hn : n ≤ 64) : SeqAt.shaped d = true := by
  unfold SeqAt.shaped
  rw [h.cl, decide_eq_true (Nat.le_trans h.dp hn)] <;> rfl
theorem Fn.eqv {d : PyData} {n b : Nat} (h : Fn d n b) : PyData.eqv d d = true := SeqAt.eqv_refl d h.cl
section
variable {K : PySem.W.Frag} {H : Hp} {a : Addr} {ns : List Int}
end
section
variable {H H' : Hp} {a l p c : Addr} {u : HO} {b : Nat}
theorem none_ne (n : H l = none) (h : H a = some u) : l ≠ a := fun e => by
  rw [← e, n] at h
  cases h
theorem none_pen (n : H l = none) (h : Pen H p c b) : l ≠ p := by
  obtain ⟨ns, i, z, h1, h2, h3⟩ := h
  exact none_ne n h1
theorem none_cell (n : H l = none) (h : Pen H p c b) : l ≠ c := by
  obtain ⟨ns, i, z, h1, h2, h3⟩ := h
  exact none_ne n h2
def Keep2 (H H' : Hp) (p t : Addr) : Prop := ∀ a o, H a = some o → a ≠ p → a ≠ t → H' a = some o
theorem keep2_up {t : Addr} (n : Keep2 H H' p t) (e : a ≠ p) (e' : a ≠ t) (h : H a = some u) : H' a = some u := n _ _ h e e'
theorem st_setO {C dx : Addr} {fs : List (Str × V)} {r : List V → Hp → VK → Prop} {i v : V} {Q : Hp → Prop} (h : H a = some (.ins C dx fs)) (q : r [.ref a, i, v] H fun _ H' => Q H') : rSetO C r (.ref a) i v H Q := by
  unfold rSetO
  exact ⟨a, dx, fs, rfl, h, q⟩
theorem st_ixO {C dx : Addr} {fs : List (Str × V)} {sp : Sp} {E : XK} {y : V} {Q : VK} (h : H a = some (.ins C dx fs)) (q : rSp sp [] E [.ref a, y] H Q) : rIxO C sp E (.ref a) y H Q := by
  unfold rIxO
  exact ⟨a, dx, fs, rfl, h, q⟩
end
section
variable {K : PySem.W.Frag} {H : Hp} {σ : L2.St} {Q : VK} {m : Nat} {tt : TT} {te tl : TE} {vs : List Nat} {t : TA} {a : Addr} {xs : List V}
def rLc (J : It) (m : Nat) (tt : TT) (te : TE) (vs : List Nat) (σ : L2.St) (H : Hp) (Q : VK) : Prop := ∀ D, H D = none → ∃ W : Nat → Nat → Hp → Prop, (∃ k, W 0 k (upd H D (.lst []))) ∧ ∀ i k H, W i k H →
  (J.stop i H ∧ Q (.ref D) H) ∨ (J.go i H ∧ ∃ Nx : Hp → Prop, (∀ H', Nx H' → ∃ k', k' < k ∧ W (i + 1) k' H') ∧ ∀ x H', J.yld i H x H' → gName m x (wipe σ vs) H' fun σ2 H2 => wipe σ2 vs = wipe σ vs ∧ tt σ2 H2 fun b H3 =>
    if b = true then te σ2 H3 fun y H4 => ∃ acc, H4 D = some (.lst acc) ∧ acc.length < sizeLine ∧ Nx (upd H4 D (.lst (acc ++ [y]))) else Nx H3)
theorem st_lcR1 (h : t σ H fun us H1 => ∃ j : Int, us = [.int j] ∧ -(2 ^ 62) ≤ j ∧ j < 2 ^ 62 ∧ rLc (Itr 0 j.toNat) m tt te vs σ H1 Q) : tLc (iRng1 t) (gName m) tt te vs σ H Q := h
theorem st_lcR2 (h : t σ H fun us H1 => ∃ i j : Int, us = [.int i, .int j] ∧ (-(2 ^ 62) ≤ i ∧ i < 2 ^ 62 ∧ -(2 ^ 62) ≤ j ∧ j < 2 ^ 62) ∧ rLc (Itr i (j - i).toNat) m tt te vs σ H1 Q) : tLc (iRng2 t) (gName m) tt te vs σ H Q := h
theorem st_lcL (h : tl σ H fun x H1 => ∃ a, x = .ref a ∧ (∃ xs, SqL K H1 a xs) ∧ rLc (Itl K a) m tt te vs σ H1 Q) : tLc (iList K tl) (gName m) tt te vs σ H Q := h
theorem st_lcT (h : tl σ H fun x H1 => ∃ a, x = .ref a ∧ (∃ xs, SqT K H1 a xs) ∧ rLc (Itt K a) m tt te vs σ H1 Q) : tLc (iTup K tl) (gName m) tt te vs σ H Q := h
theorem st_eR1 {j : Int} {P : Int → Prop} (h0 : -(2 ^ 62) ≤ j) (h1 : j < 2 ^ 62) (h : P j) : ∃ j', [V.int j] = [.int j'] ∧ -(2 ^ 62) ≤ j' ∧ j' < 2 ^ 62 ∧ P j' := ⟨j, rfl, h0, h1, h⟩
theorem st_eR2 {i j : Int} {P : Int → Int → Prop} (h0 : -(2 ^ 62) ≤ i ∧ i < 2 ^ 62 ∧ -(2 ^ 62) ≤ j ∧ j < 2 ^ 62) (h : P i j) : ∃ i' j', [V.int i, V.int j] = [.int i', .int j'] ∧ (-(2 ^ 62) ≤ i' ∧ i' < 2 ^ 62 ∧ -(2 ^ 62) ≤ j' ∧ j' < 2 ^ 62) ∧ P i' j' := ⟨i, j, rfl, h0, h⟩
theorem st_yes {Q : Bool → Hp → Prop} (h : Q true H) : tYes σ H Q := h
end
section
variable {H H' : Hp} {a l p c : Addr} {u : HO} {b : Nat}
theorem nw_pen' {H0 : Hp} {b0 : Nat} {o : HO} (_ : Pen H0 p c b0) (n : Nw H H' l o) (h : Pen H p c b) : l ≠ p := nw_pen n h
theorem nw_cell' {H0 : Hp} {b0 : Nat} {o : HO} (_ : Pen H0 p c b0) (n : Nw H H' l o) (h : Pen H p c b) : l ≠ c := nw_cell n h
theorem none_pen' {H0 : Hp} {b0 : Nat} (_ : Pen H0 p c b0) (n : H l = none) (h : Pen H p c b) : l ≠ p := none_pen n h
theorem none_cell' {H0 : Hp} {b0 : Nat} (_ : Pen H0 p c b0) (n : H l = none) (h : Pen H p c b) : l ≠ c := none_cell n h
theorem tup_pen' {H0 : Hp} {b0 : Nat} {xs : List V} (_ : Pen H0 p c b0) (n : H l = some (.tup xs)) (h : Pen H p c b) : l ≠ p := tup_pen n h
theorem tup_cell' {H0 : Hp} {b0 : Nat} {xs : List V} (_ : Pen H0 p c b0) (n : H l = some (.tup xs)) (h : Pen H p c b) : l ≠ c := tup_cell n h
theorem ins_pen' {H0 : Hp} {b0 : Nat} {C dx : Addr} {fs : List (Str × V)} (_ : Pen H0 p c b0) (n : H l = some (.ins C dx fs)) (h : Pen H p c b) : l ≠ p := ins_pen n h
theorem ins_cell' {H0 : Hp} {b0 : Nat} {C dx : Addr} {fs : List (Str × V)} (_ : Pen H0 p c b0) (n : H l = some (.ins C dx fs)) (h : Pen H p c b) : l ≠ c := ins_cell n h
end
section
variable {K : PySem.W.Frag} {H : Hp} {σ : L2.St} {D : Ends} {m : Nat} {g : TG} {tb : TS} {tl : TE} {t : TA} {a : Addr} {xs : List V}
def rFor (J : It) (g : TG) (tb : TS) (D : Ends) (σ : L2.St) (H : Hp) : Prop := ∃ W : Nat → Nat → L2.St → Hp → Prop, (∃ m, W 0 m σ H) ∧ ∀ i m σ H, W i m σ H →
  (J.stop i H ∧ D.nx σ H) ∨ (J.go i H ∧ ∃ N : L2.St → Hp → Prop, (∀ σ' H', N σ' H' → ∃ m', m' < m ∧ W (i + 1) m' σ' H') ∧ ∀ x H', J.yld i H x H' → g x σ H' fun σ2 H2 => tb { D with nx := N, ct := N, bk := D.nx } σ2 H2)
theorem st_forR1 (h : t σ H fun us H1 => ∃ j : Int, us = [.int j] ∧ -(2 ^ 62) ≤ j ∧ j < 2 ^ 62 ∧ rFor (Itr 0 j.toNat) g tb D σ H1) : tFor (iRng1 t) g tb D σ H := h
theorem st_forR2 (h : t σ H fun us H1 => ∃ i j : Int, us = [.int i, .int j] ∧ (-(2 ^ 62) ≤ i ∧ i < 2 ^ 62 ∧ -(2 ^ 62) ≤ j ∧ j < 2 ^ 62) ∧ rFor (Itr i (j - i).toNat) g tb D σ H1) : tFor (iRng2 t) g tb D σ H := h
theorem st_forL (h : tl σ H fun x H1 => ∃ a, x = .ref a ∧ (∃ xs, SqL K H1 a xs) ∧ rFor (Itl K a) g tb D σ H1) : tFor (iList K tl) g tb D σ H := h
theorem st_forT (h : tl σ H fun x H1 => ∃ a, x = .ref a ∧ (∃ xs, SqT K H1 a xs) ∧ rFor (Itt K a) g tb D σ H1) : tFor (iTup K tl) g tb D σ H := h
theorem st_forE (h : t σ H fun us H1 => ∃ a xs, us = [.ref a] ∧ SqL K H1 a xs ∧ rFor (Ite K a) g tb D σ H1) : tFor (iEnum K t) g tb D σ H := h
theorem st_eE {P : Addr → Prop} (h : H a = some (.lst xs)) (q : P a) : ∃ a' xs, [V.ref a] = [.ref a'] ∧ SqL K H a' xs ∧ P a' := ⟨a, xs, rfl, SqL.of h, q⟩
end
section
end
end Gh
end
section
set_option Elab.async false
set_option linter.all false
set_option maxRecDepth 100000
set_option maxHeartbeats 4000000
namespace Gh
open PySem PySem.Spec PyProof.Rows L2
section
variable {H H' : Hp} {a l p c t : Addr} {o u : HO} {b : Nat} {xs : List V} {T : List (Addr × Str)} {C dx : Addr} {fs : List (Str × V)}
theorem Pen.extN (n : LamX.ExtN H H') (h : Pen H p c b) : Pen H' p c b := by
  obtain ⟨ns, i, z, h1, h2, h3⟩ := h
  exact ⟨ns, i, z, n _ _ h1 (fun _ z => by cases z), n _ _ h2 (fun _ z => by cases z), h3⟩
theorem tabs_of (h : LamX.Tabs T H) (k1 : ∀ a ps, H a = some (.tbl ps) → H' a = some (.tbl ps)) (k2 : ∀ a c q, H a = some (LamX.CodeO c q) → H' a = some (LamX.CodeO c q)) : LamX.Tabs T H' := fun q hq => by
  obtain ⟨ps, h1, h2, h3⟩ := h q hq
  refine ⟨ps, k1 _ _ h1, h2, fun pos cv hc => ?_⟩
  obtain ⟨c', e1, e2⟩ := h3 pos cv hc
  exact ⟨c', e1, k2 _ _ _ e2⟩
theorem tabs_keepL (n : Keep H H' l) (e : H l = some (.lst xs)) (h : LamX.Tabs T H) : LamX.Tabs T H' :=
  tabs_of h (fun a ps q => n _ _ q (ne_of q e (by intro z; cases z))) (fun a c q z => n _ _ z (ne_of z e (by intro y; unfold LamX.CodeO at y; cases y)))
theorem tabs_keepP (n : Keep H H' p) (pn : Pen H p c b) (h : LamX.Tabs T H) : LamX.Tabs T H' := by
  obtain ⟨ns, i, z, h1, h2, h3⟩ := pn
  exact tabs_keepL n h1 h
theorem tabs_muI (n : Mu H H' l o) (e : H l = some (.ins C dx fs)) (h : LamX.Tabs T H) : LamX.Tabs T H' :=
  tabs_of h (fun a ps q => n.up (ne_of q e (by intro z; cases z)) q) (fun a c q z => n.up (ne_of z e (by intro y; unfold LamX.CodeO at y; cases y)) z)
theorem keep_fr (n : Keep H H' p) : Fr H H' p := fun a o h e _ => n a o h e
theorem ext_fr (n : LamX.ExtN H H') : Fr H H' p := fun a o h _ z => n a o h z
end
section
variable {X : Cx} {H : Hp} {σ : L2.St} {Q : VK} {T : List (Addr × Str)} {TT : (XK → Hp → VK → Prop) → Hp → VK → Prop} {t : XK → TE}
def tAct (f c' : Addr) (q : Str) (tl : Hp → VK → Prop) : TE := fun σ H Q => σ[0]? = some (some (.ref f)) ∧ H c' = some (LamX.CodeO c' q) ∧ tl H Q
theorem takes_len {W : WX} (t : Takes X W) : Takes X (fun c d σ H => σ.length = X.N.length → W c d σ H) := fun u s' ⟨a, B, sI, pins, σ, H, cls, d, e, I, nb, up, sky, na, os, ag, w⟩ =>
  t u s' ⟨a, B, sI, pins, σ, H, cls, d, e, I, nb, up, sky, na, os, ag, w I.len⟩
def tTry (n : Nat) (body : XK → TS) : WX → TS := fun W D σ H => ∃ E : XK, (∀ cls d σ' H', E cls d H' → σ'.length = n → W cls d σ' H') ∧ body E D σ H
theorem try_act {W : WX} {st : List Stmt} {body : XK → TS} (n : Nat) (hn : X.N.length = n) (tk : Takes X W) (h : ∀ E : XK, (∃ W' : WX, Takes X W' ∧ ∀ cls d σ' H', E cls d H' → W' cls d σ' H') → PSs X st (body E)) : PSs X st (tTry n body W) := by
  refine ⟨fun pins s σ H D I h' => ?_⟩
  obtain ⟨E, hW, h1⟩ := h'
  refine (h E ⟨_, takes_len tk, fun cls d σ' H' e l => hW cls d σ' H' e (l.trans hn)⟩).run pins s σ H D I h1
end
end Gh
end
section
set_option Elab.async false
set_option linter.all false
set_option maxRecDepth 100000
set_option maxHeartbeats 4000000
namespace Gp
open PySem PySem.Spec PyProof.Rows L2 Gh
section
variable {α β γ : Type}
def nox : Tr α → Tr α
  | .ok a => .ok a
  | .ex _ _ => .bad
  | .bad => .bad
  | .draw m f => .draw m fun d => nox (f d)
theorem bd_ex (c : Str) (fs : Fs) (k : α → Tr β) : bd (.ex c fs) k = .ex c fs := rfl
theorem bd_bd (m : Tr α) (k : α → Tr β) (l : β → Tr γ) : bd (bd m k) l = bd m fun a => bd (k a) l := by
  induction m with
  | draw m f ih =>
    show Tr.draw m _ = Tr.draw m _
    congr 1
    funext d
    exact ih d
  | _ => rfl
theorem al_bd {P : β → Nat → Prop} {E : Str → Fs → Nat → Prop} {m : Tr α} {k : α → Tr β} {b : Nat} : Al P E (bd m k) b ↔ Al (fun a b1 => Al P E (k a) b1) E m b := by
  induction m generalizing b with
  | draw m f ih =>
    constructor
    · rintro ⟨b', e, h1, h2, h3⟩
      exact ⟨b', e, h1, h2, fun d d0 d1 => (ih d).mp (h3 d d0 d1)⟩
    · rintro ⟨b', e, h1, h2, h3⟩
      exact ⟨b', e, h1, h2, fun d d0 d1 => (ih d).mpr (h3 d d0 d1)⟩
  | _ => exact Iff.rfl
theorem al_nox {P : α → Nat → Prop} {E E' : Str → Fs → Nat → Prop} {m : Tr α} {b : Nat} (h : Al P E (nox m) b) : Al P E' m b := by
  induction m generalizing b with
  | ok a => exact h
  | ex c fs => exact h.elim
  | bad => exact h
  | draw m f ih =>
    obtain ⟨b', e, h1, h2, h3⟩ := h
    exact ⟨b', e, h1, h2, fun d d0 d1 => ih d (h3 d d0 d1)⟩
end
section
variable {g : Gw} {U U' : Addr → Prop} {H H' : Hp}
theorem DenL.get : ∀ {vs : List V} {ds : List D} {i : Nat} {v : V}, DenL g U H vs ds → vs[i]? = some v → ∃ d, ds[i]? = some d ∧ Den g U H v d
  | _, _, i, v, .nil, e => by simp at e
  | _, _, 0, v, .cons a r, e => by simp at e; subst e; exact ⟨_, rfl, a⟩
  | _, _, i + 1, v, .cons a r, e => by
    obtain ⟨d, h1, h2⟩ := DenL.get (i := i) (v := v) r (by simpa using e)
    exact ⟨d, by simpa using h1, h2⟩
theorem DenL.take : ∀ {vs : List V} {ds : List D} (n : Nat), DenL g U H vs ds → DenL g U H (vs.take n) (ds.take n)
  | _, _, 0, _ => .nil
  | _, _, _ + 1, .nil => .nil
  | _, _, n + 1, .cons a r => .cons a (DenL.take n r)
theorem DenL.drop : ∀ {vs : List V} {ds : List D} (n : Nat), DenL g U H vs ds → DenL g U H (vs.drop n) (ds.drop n)
  | _, _, 0, r => r
  | _, _, _ + 1, .nil => .nil
  | _, _, n + 1, .cons a r => DenL.drop n r
theorem DenL.set : ∀ {vs : List V} {ds : List D} (n : Nat) {v : V} {d : D}, Den g U H v d → DenL g U H vs ds → DenL g U H (vs.set n v) (ds.set n d)
  | _, _, _, _, _, _, .nil => .nil
  | _, _, 0, _, _, h, .cons _ r => .cons h r
  | _, _, n + 1, _, _, h, .cons a r => .cons a (DenL.set n h r)
theorem DenL.ints : ∀ ns : List Int, DenL g U H (ns.map V.int) (ns.map D.int)
  | [] => .nil
  | n :: r => .cons (.int n) (DenL.ints r)
theorem DenF.look0 : ∀ {vs : List (Str × V)} {ds : List (Str × D)} {n : Str}, DenF g U H vs ds → ds.lookup n = none → vs.lookup n = none
  | _, _, _, .nil, _ => rfl
  | _, _, n, .cons (n := m) a r, e => by
    simp only [List.lookup] at e ⊢
    cases q : (n == m) with
    | true => rw [q] at e; cases e
    | false => rw [q] at e; exact DenF.look0 r e
def putD (f : Str) (v : D) : List (Str × D) → List (Str × D)
  | [] => [(f, v)]
  | (g, x) :: r => if g = f then (g, v) :: r else (g, x) :: putD f v r
theorem DenF.put {f : Str} {v : V} {d : D} (h : Den g U H v d) : ∀ {vs : List (Str × V)} {ds : List (Str × D)}, DenF g U H vs ds → DenF g U H (putF f v vs) (putD f d ds)
  | _, _, .nil => .cons h .nil
  | _, _, .cons (n := m) a r => by
    unfold putF putD
    split
    · exact .cons h r
    · exact .cons a (DenF.put h r)
end
section
variable {g : Gw} {U U' : Addr → Prop} {H H' H1 H2 : Hp} {b : Nat}
theorem UOk.extU (u : UOk g U H) (f : Fr H H' g.p) : ExtU U H H' := fun a o h n z => f a o h (fun e => n (e ▸ u.p)) z
theorem UOk.fr (u : UOk g U H) (f : Fr H H' g.p) (w : Wd g H' b) : UOk g U H' := ⟨u.p, u.c, fun a ha => by
  by_cases e : a = g.p
  · subst e
    obtain ⟨ns, i, z, h, _⟩ := w.pen
    exact ⟨_, h, fun _ z => by cases z⟩
  · obtain ⟨o, h, n⟩ := u.al a ha
    exact ⟨o, f a o h e n, n⟩⟩
theorem Den.fr (u : UOk g U H) (f : Fr H H' g.p) {v : V} {d : D} (h : Den g U H v d) : Den g U H' v d := h.ext (u.extU f)
theorem DenL.fr (u : UOk g U H) (f : Fr H H' g.p) {v : List V} {d : List D} (h : DenL g U H v d) : DenL g U H' v d := h.ext (u.extU f)
theorem fr_same (s : L2.Same H H') {p : Addr} : Fr H H' p := fun a o h _ _ => s a o h
theorem UOk.new (u : UOk g U H) {a : Addr} (h : H a = none) : ¬ U a := fun z => by
  obtain ⟨o, e, _⟩ := u.al a z
  rw [h] at e
  cases e
end
section
variable {g : Gw} {U U' : Addr → Prop} {H H' H1 H2 : Hp} {b : Nat} {σ : L2.St} {ε : Env}
theorem extU_of (hp : U g.p) (f : Fr H H' g.p) : ExtU U H H' := fun a o h n z => f a o h (fun e => n (e ▸ hp)) z
theorem SlR.frp (hp : U g.p) (f : Fr H H' g.p) {o : Option V} : ∀ {s : Sl}, SlR g U H o s → SlR g U H' o s
  | .no, _ => trivial
  | .fz d, ⟨v, e, h⟩ => ⟨v, e, h.ext (extU_of hp f)⟩
  | .ow ds, ⟨a, vs, e, h, l, k, ua, n1, n2⟩ => ⟨a, vs, e, f _ _ h n1 (fun _ z => by cases z), l, k.ext (extU_of hp f), ua, n1, n2⟩
  | .oi c fs, ⟨a, dx, fvs, e, h, k, ua, n1, n2⟩ => ⟨a, dx, fvs, e, f _ _ h n1 (fun _ z => by cases z), k.ext (extU_of hp f), ua, n1, n2⟩
theorem SlR.fr (u : UOk g U H) (f : Fr H H' g.p) {o : Option V} {s : Sl} (h : SlR g U H o s) : SlR g U H' o s := h.frp u.p f
theorem Rel.frp (r : Rel g U H σ ε) (hp : U g.p) (f : Fr H H' g.p) : Rel g U H' σ ε := ⟨r.len, fun i s e => by
  obtain ⟨o, h1, h2⟩ := r.at_ i s e
  exact ⟨o, h1, h2.frp hp f⟩, r.apart⟩
theorem Rel.fr (r : Rel g U H σ ε) (u : UOk g U H) (f : Fr H H' g.p) : Rel g U H' σ ε := ⟨r.len, fun i s e => by
  obtain ⟨o, h1, h2⟩ := r.at_ i s e
  exact ⟨o, h1, h2.fr u f⟩, r.apart⟩
mutual
theorem Den.grow {x : Addr} (n : H x = none) : ∀ {v : V} {d : D}, Den g U H v d → Den g (fun a => U a ∨ a = x) H v d
  | _, _, .non => .non
  | _, _, .bl b => .bl b
  | _, _, .int i => .int i
  | _, _, .str x h => .str x h
  | _, _, .tup h k l r => .tup h (fun z => z.elim k (ne_of_none h n)) l (DenL.grow n r)
  | _, _, .tupW h l r => .tupW h l (DenL.grow n r)
  | _, _, .lst h k l r => .lst h (fun z => z.elim k (ne_of_none h n)) l (DenL.grow n r)
  | _, _, .obj h k r => .obj h (fun z => z.elim k (ne_of_none h n)) (DenF.grow n r)
  | _, _, .err h k h2 k2 r => .err h (fun z => z.elim k (ne_of_none h n)) h2 (fun z => z.elim k2 (ne_of_none h2 n)) (DenF.grow n r)
  | _, _, .pen => .pen
  | _, _, .cls c => .cls c
  | _, _, .dct h k => .dct h (fun z => z.elim k (ne_of_none h n))
theorem DenL.grow {x : Addr} (n : H x = none) : ∀ {vs : List V} {ds : List D}, DenL g U H vs ds → DenL g (fun a => U a ∨ a = x) H vs ds
  | _, _, .nil => .nil
  | _, _, .cons a r => .cons (Den.grow n a) (DenL.grow n r)
theorem DenF.grow {x : Addr} (n : H x = none) : ∀ {vs : List (Str × V)} {ds : List (Str × D)}, DenF g U H vs ds → DenF g (fun a => U a ∨ a = x) H vs ds
  | _, _, .nil => .nil
  | _, _, .cons a r => .cons (Den.grow n a) (DenF.grow n r)
end
theorem SlR.grow {x : Addr} (n : H x = none) {o : Option V} : ∀ {s : Sl}, SlR g U H o s → SlR g (fun a => U a ∨ a = x) H o s
  | .no, _ => trivial
  | .fz d, ⟨v, e, h⟩ => ⟨v, e, h.grow n⟩
  | .ow ds, ⟨a, vs, e, h, l, k, ua, n1, n2⟩ => ⟨a, vs, e, h, l, k.grow n, .inl ua, n1, n2⟩
  | .oi c fs, ⟨a, dx, fvs, e, h, k, ua, n1, n2⟩ => ⟨a, dx, fvs, e, h, k.grow n, .inl ua, n1, n2⟩
theorem Rel.grow {x : Addr} (r : Rel g U H σ ε) (n : H x = none) : Rel g (fun a => U a ∨ a = x) H σ ε := ⟨r.len, fun i s e => by
  obtain ⟨o, h1, h2⟩ := r.at_ i s e
  exact ⟨o, h1, h2.grow n⟩, r.apart⟩
def okL (g : Gw) (U : Addr → Prop) (H : Hp) (Q : List V → Hp → Prop) : List D → Nat → Prop := fun d b => ∀ v H', DenL g U H' v d → Wd g H' b → Fr H H' g.p → Q v H'
def okB (g : Gw) (U : Addr → Prop) (H : Hp) (Q : Bool → Hp → Prop) : Bool → Nat → Prop := fun d b => ∀ H', Wd g H' b → Fr H H' g.p → Q d H'
def SE (g : Gw) (E : XK) (ε : Env) (t : TE) (m : Tr D) : Prop := ∀ U σ H b Q, Rel g U H σ ε → Wd g H b → UOk g U H → Al (okP g U H Q) (exP g U E H) m b → t σ H Q
def SA (g : Gw) (E : XK) (ε : Env) (t : TA) (m : Tr (List D)) : Prop := ∀ U σ H b Q, Rel g U H σ ε → Wd g H b → UOk g U H → Al (okL g U H Q) (exP g U E H) m b → t σ H Q
def ST (g : Gw) (E : XK) (ε : Env) (t : TT) (m : Tr Bool) : Prop := ∀ U σ H b Q, Rel g U H σ ε → Wd g H b → UOk g U H → Al (okB g U H Q) (exP g U E H) m b → t σ H Q
def SR1 (g : Gw) (E : XK) (r : V → Hp → VK → Prop) (f : D → Tr D) : Prop := ∀ U H b x dx Q, Den g U H x dx → Wd g H b → UOk g U H → Al (okP g U H Q) (exP g U E H) (f dx) b → r x H Q
def SR2 (g : Gw) (E : XK) (r : R2) (f : D → D → Tr D) : Prop := ∀ U H b x y dx dy Q, Den g U H x dx → Den g U H y dy → Wd g H b → UOk g U H → Al (okP g U H Q) (exP g U E H) (f dx dy) b → r x y H Q
def SRL (g : Gw) (E : XK) (r : List V → Hp → VK → Prop) (f : List D → Tr D) : Prop := ∀ U H b xs dxs Q, DenL g U H xs dxs → Wd g H b → UOk g U H → Al (okP g U H Q) (exP g U E H) (f dxs) b → r xs H Q
theorem exP.fr {E : XK} {c : Str} {fs : Fs} (f : Fr H H1 g.p) (h : exP g U E H c fs b) : exP g U E H1 c fs b := fun dd fvs H' h1 h2 h3 h4 h5 => h dd fvs H' h1 h2 h3 h4 (f.trans h5)
theorem okP.fr {Q : VK} {d : D} (f : Fr H H1 g.p) (h : okP g U H Q d b) : okP g U H1 Q d b := fun v H' h1 h2 h3 => h v H' h1 h2 (f.trans h3)
theorem al_frX {α : Type} {E : XK} {P : α → Nat → Prop} {m : Tr α} (f : Fr H H1 g.p) (h : Al P (exP g U E H) m b) : Al P (exP g U E H1) m b := h.mono (fun _ _ h => h) (fun _ _ _ h => h.fr f)
variable {E : XK} {ta tb tc : TE} {ma mb : Tr D}
theorem SE.step {α : Type} {k : D → Tr α} {P : α → Nat → Prop} {Q : VK} (ha : SE g E ε ta ma) (R : Rel g U H σ ε) (W : Wd g H b) (u : UOk g U H) (h : Al P (exP g U E H) (bd ma k) b)
    (hk : ∀ v d H1 b1, Den g U H1 v d → Wd g H1 b1 → Fr H H1 g.p → Rel g U H1 σ ε → UOk g U H1 → Al P (exP g U E H1) (k d) b1 → Q v H1) : ta σ H Q :=
  ha U σ H b Q R W u ((al_bd.mp h).mono (fun d b1 h1 v H1 d1 w1 f1 => hk v d H1 b1 d1 w1 f1 (R.fr u f1) (u.fr f1 w1) (al_frX f1 h1)) (fun _ _ _ h => h))
theorem SA.step {α : Type} {t : TA} {m : Tr (List D)} {k : List D → Tr α} {P : α → Nat → Prop} {Q : List V → Hp → Prop} (ha : SA g E ε t m) (R : Rel g U H σ ε) (W : Wd g H b) (u : UOk g U H) (h : Al P (exP g U E H) (bd m k) b)
    (hk : ∀ v d H1 b1, DenL g U H1 v d → Wd g H1 b1 → Fr H H1 g.p → Rel g U H1 σ ε → UOk g U H1 → Al P (exP g U E H1) (k d) b1 → Q v H1) : t σ H Q :=
  ha U σ H b Q R W u ((al_bd.mp h).mono (fun d b1 h1 v H1 d1 w1 f1 => hk v d H1 b1 d1 w1 f1 (R.fr u f1) (u.fr f1 w1) (al_frX f1 h1)) (fun _ _ _ h => h))
theorem ST.step {α : Type} {t : TT} {m : Tr Bool} {k : Bool → Tr α} {P : α → Nat → Prop} {Q : Bool → Hp → Prop} (ha : ST g E ε t m) (R : Rel g U H σ ε) (W : Wd g H b) (u : UOk g U H) (h : Al P (exP g U E H) (bd m k) b)
    (hk : ∀ d H1 b1, Wd g H1 b1 → Fr H H1 g.p → Rel g U H1 σ ε → UOk g U H1 → Al P (exP g U E H1) (k d) b1 → Q d H1) : t σ H Q :=
  ha U σ H b Q R W u ((al_bd.mp h).mono (fun d b1 h1 H1 w1 f1 => hk d H1 b1 w1 f1 (R.fr u f1) (u.fr f1 w1) (al_frX f1 h1)) (fun _ _ _ h => h))
theorem se_var {i : Nat} {d : D} (h : ε[i]? = some (.fz d) := by rfl) : SE g E ε (tVar i) (.ok d) := fun U σ H b Q R W u q => by
  obtain ⟨o, e, v, rfl, dn⟩ := R.at_ i _ h
  exact ⟨v, e, okP.here q W dn⟩
theorem se_c {v : V} {d : D} (h : ∀ U H, Den g U H v d) : SE g E ε (tC v) (.ok d) := fun U σ H b Q R W u q => okP.here q W (h U H)
theorem se_int {i : Int} : SE g E ε (tC (.int i)) (.ok (.int i)) := se_c fun _ _ => .int i
theorem se_bl {i : Bool} : SE g E ε (tC (.bl i)) (.ok (.bl i)) := se_c fun _ _ => .bl i
theorem se_non : SE g E ε (tC .non) (.ok .non) := se_c fun _ _ => .non
theorem se_str {x : Str} (h : x.length ≤ sizeLine) : SE g E ε (tC (.str x)) (.ok (.str x)) := se_c fun _ _ => .str x h
theorem se_op {r : R2} {f : D → D → Tr D} (hr : SR2 g E r f) (ha : SE g E ε ta ma) (hb : SE g E ε tb mb) : SE g E ε (tOp r ta tb) (bd ma fun x => bd mb fun y => f x y) := fun U σ H b Q R W u q =>
  ha.step R W u q fun v d H1 b1 d1 w1 f1 R1 u1 q1 => hb.step R1 w1 u1 q1 fun v2 e H2 b2 d2 w2 f2 R2 u2 q2 => hr U H2 b2 v v2 d e Q (d1.fr u1 f2) d2 w2 u2 (q2.mono (fun _ _ h => h.fr (f1.trans f2)) (fun _ _ _ h => h))
theorem se_un {r : V → Hp → VK → Prop} {f : D → Tr D} (hr : SR1 g E r f) (ha : SE g E ε ta ma) : SE g E ε (tUn r ta) (bd ma f) := fun U σ H b Q R W u q =>
  ha.step R W u q fun v d H1 b1 d1 w1 f1 R1 u1 q1 => hr U H1 b1 v d Q d1 w1 u1 (q1.mono (fun _ _ h => h.fr f1) (fun _ _ _ h => h))
theorem sa_nil : SA g E ε tNil (.ok []) := fun U σ H b Q R W u q => q [] H .nil W Fr.refl
theorem sa_cons {t : TA} {m : Tr (List D)} (ha : SE g E ε ta ma) (hb : SA g E ε t m) : SA g E ε (tCons ta t) (bd ma fun x => bd m fun xs => .ok (x :: xs)) := fun U σ H b Q R W u q =>
  ha.step R W u q fun v d H1 b1 d1 w1 f1 R1 u1 q1 => hb.step R1 w1 u1 q1 fun v2 e H2 b2 d2 w2 f2 R2 u2 q2 => q2 (v :: v2) H2 (.cons (d1.fr u1 f2) d2) w2 (f1.trans f2)
theorem se_cl {r : List V → Hp → VK → Prop} {f : List D → Tr D} {t : TA} {m : Tr (List D)} (hr : SRL g E r f) (ha : SA g E ε t m) : SE g E ε (tCl r t) (bd m f) := fun U σ H b Q R W u q =>
  ha.step R W u q fun v d H1 b1 d1 w1 f1 R1 u1 q1 => hr U H1 b1 v d Q d1 w1 u1 (q1.mono (fun _ _ h => h.fr f1) (fun _ _ _ h => h))
theorem se_cb {r : List V → Hp → VK → Prop} {f : List D → Tr D} {t : TA} {m : Tr (List D)} (hr : SRL g E r f) (ha : SA g E ε t m) : SE g E ε (tCB r t) (bd m f) := se_cl hr ha
def asB : D → Tr Bool
  | .bl b => .ok b
  | _ => .bad
theorem al_asB {P : Bool → Nat → Prop} {X : Str → Fs → Nat → Prop} {d : D} (h : Al P X (asB d) b) : ∃ k, d = .bl k ∧ P k b := by
  cases d with
  | bl k => exact ⟨k, rfl, h⟩
  | _ => exact h.elim
theorem al_asBk {α : Type} {P : α → Nat → Prop} {X : Str → Fs → Nat → Prop} {d : D} {k : Bool → Tr α} (h : Al P X (bd (asB d) k) b) : ∃ c, d = .bl c ∧ Al P X (k c) b := al_asB (al_bd.mp h)
theorem den_bl {v : V} {k : Bool} (h : Den g U H v (.bl k)) : v = .bl k := by cases h; rfl
theorem sb_tst (ha : SE g E ε ta ma) : ST g E ε (tTest ta) (bd ma asB) := fun U σ H b Q R W u q =>
  ha.step R W u q fun v d H1 b1 d1 w1 f1 R1 u1 q1 => by
    obtain ⟨k, rfl, q2⟩ := al_asB q1
    exact ⟨k, den_bl d1, q2 H1 w1 f1⟩
theorem sb_tb (ha : SE g E ε ta ma) : ST g E ε (tB ta) (bd ma asB) := sb_tst ha
theorem sb_and {c d : TT} {m n : Tr Bool} (ha : ST g E ε c m) (hb : ST g E ε d n) : ST g E ε (tAnd c d) (bd m fun k => if k = true then n else .ok false) := fun U σ H b Q R W u q =>
  ha.step R W u q fun k H1 b1 w1 f1 R1 u1 q1 => by
    cases k with
    | true => exact hb U σ H1 b1 Q R1 w1 u1 (q1.mono (fun _ _ h H' w f => h H' w (f1.trans f)) (fun _ _ _ h => h))
    | false => exact q1 H1 w1 f1
theorem sb_or {c d : TT} {m n : Tr Bool} (ha : ST g E ε c m) (hb : ST g E ε d n) : ST g E ε (tOr c d) (bd m fun k => if k = true then .ok true else n) := fun U σ H b Q R W u q =>
  ha.step R W u q fun k H1 b1 w1 f1 R1 u1 q1 => by
    cases k with
    | false => exact hb U σ H1 b1 Q R1 w1 u1 (q1.mono (fun _ _ h H' w f => h H' w (f1.trans f)) (fun _ _ _ h => h))
    | true => exact q1 H1 w1 f1
theorem sb_not {c : TT} {m : Tr Bool} (ha : ST g E ε c m) : ST g E ε (tNot c) (bd m fun k => .ok (!k)) := fun U σ H b Q R W u q =>
  ha.step R W u q fun k H1 b1 w1 f1 R1 u1 q1 => q1 H1 w1 f1
theorem se_if {c : TT} {m : Tr Bool} (hc : ST g E ε c m) (ha : SE g E ε ta ma) (hb : SE g E ε tb mb) : SE g E ε (tIf c ta tb) (bd m fun k => if k = true then ma else mb) := fun U σ H b Q R W u q =>
  hc.step R W u q fun k H1 b1 w1 f1 R1 u1 q1 => by
    have q2 := q1.mono (P' := okP g U H1 Q) (fun _ _ h => okP.fr f1 h) (fun _ _ _ h => h)
    cases k with
    | true => exact ha U σ H1 b1 Q R1 w1 u1 q2
    | false => exact hb U σ H1 b1 Q R1 w1 u1 q2
theorem se_andV (ha : SE g E ε ta ma) (hb : SE g E ε tb mb) : SE g E ε (tAndV ta tb) (bd (bd ma asB) fun k => if k = true then mb else .ok (.bl false)) := fun U σ H b Q R W u q => by
  rw [bd_bd] at q
  refine ha.step R W u q fun v d H1 b1 d1 w1 f1 R1 u1 q1 => ?_
  obtain ⟨k, rfl, q2⟩ := al_asBk q1
  refine ⟨k, den_bl d1, ?_⟩
  replace q2 := q2.mono (P' := okP g U H1 Q) (fun _ _ h => okP.fr f1 h) (fun _ _ _ h => h)
  cases k with
  | true => exact hb U σ H1 b1 Q R1 w1 u1 q2
  | false => exact okP.here q2 w1 (.bl false)
theorem se_notV (ha : SE g E ε ta ma) : SE g E ε (tNotV ta) (bd (bd ma asB) fun k => .ok (.bl (!k))) := fun U σ H b Q R W u q => by
  rw [bd_bd] at q
  refine ha.step R W u q fun v d H1 b1 d1 w1 f1 R1 u1 q1 => ?_
  obtain ⟨k, rfl, q2⟩ := al_asBk q1
  exact ⟨k, den_bl d1, q2 _ H1 (.bl (!k)) w1 f1⟩
theorem se_chain {r r' : R2} {f f' : D → D → Tr D} {mc : Tr D} (hr : SR2 g E r f) (hr' : SR2 g E r' f') (ha : SE g E ε ta ma) (hb : SE g E ε tb mb) (hc : SE g E ε tc mc) :
    SE g E ε (tChain r r' ta tb tc) (bd ma fun x => bd mb fun y => bd (bd (f x y) asB) fun k => if k = true then bd mc fun z => f' y z else .ok (.bl false)) := fun U σ H b Q R W u q =>
  ha.step R W u q fun v d H1 b1 d1 w1 f1 R1 u1 q1 => hb.step R1 w1 u1 q1 fun v2 e H2 b2 d2 w2 f2 R2 u2 q2 => by
    rw [bd_bd] at q2
    refine hr U H2 b2 v v2 d e _ (d1.fr u1 f2) d2 w2 u2 ((al_bd.mp q2).mono (fun z b3 h3 v3 H3 d3 w3 f3 => ?_) (fun _ _ _ h => h))
    obtain ⟨k, rfl, q3⟩ := al_asBk h3
    refine ⟨k, den_bl d3, ?_⟩
    have q4 := q3.mono (P' := okP g U H3 Q) (E' := exP g U E H3) (fun _ _ h => okP.fr ((f1.trans f2).trans f3) h) (fun _ _ _ h => h.fr f3)
    cases k with
    | false => exact okP.here q4 w3 (.bl false)
    | true =>
      refine hc.step (R2.fr u2 f3) w3 (u2.fr f3 w3) q4 fun v4 z H4 b4 d4 w4 f4 R4 u4 q5 => ?_
      exact hr' U H4 b4 v2 v4 e z Q (d2.fr u2 (f3.trans f4)) d4 w4 u4 (q5.mono (fun _ _ h => h.fr f4) (fun _ _ _ h => h))
theorem se_lst {t : TA} {m : Tr (List D)} (ha : SA g E ε t m) : SE g E ε (tLst t) (bd m fun ds => if ds.length ≤ sizeLine then .ok (.lst ds) else .bad) := fun U σ H b Q R W u q =>
  ha.step R W u q fun v d H1 b1 d1 w1 f1 R1 u1 q1 => by
    by_cases hl : d.length ≤ sizeLine
    · rw [if_pos hl] at q1
      have hl' : v.length ≤ sizeLine := by rw [d1.length]; exact hl
      refine ⟨hl', fun p np => ?_⟩
      have s := same_new (o := .lst v) np
      exact q1 _ _ (.lst upd_same (u1.new np) hl' (d1.ext (u1.extU (fr_same s)))) (w1.same s) (f1.trans (fr_same s))
    · rw [if_neg hl] at q1
      exact q1.elim
theorem se_tup {t : TA} {m : Tr (List D)} (ha : SA g E ε t m) : SE g E ε (tTup t) (bd m fun ds => if ds.length ≤ sizeLine then .ok (.tup ds) else .bad) := fun U σ H b Q R W u q =>
  ha.step R W u q fun v d H1 b1 d1 w1 f1 R1 u1 q1 => by
    by_cases hl : d.length ≤ sizeLine
    · rw [if_pos hl] at q1
      have hl' : v.length ≤ sizeLine := by rw [d1.length]; exact hl
      refine ⟨hl', fun p np => ?_⟩
      have s := same_new (o := .tup v) np
      exact q1 _ _ (.tup upd_same (u1.new np) hl' (d1.ext (u1.extU (fr_same s)))) (w1.same s) (f1.trans (fr_same s))
    · rw [if_neg hl] at q1
      exact q1.elim
theorem se_nox (ha : SE g (fun _ _ _ => False) ε ta ma) : SE g E ε ta (nox ma) := fun U σ H b Q R W u q => ha U σ H b Q R W u (al_nox q)
end
end Gp
end
section
set_option Elab.async false
set_option linter.all false
set_option maxRecDepth 100000
set_option maxHeartbeats 4000000
namespace Gp
open PySem PySem.Spec PyProof.Rows L2 Gh
section
variable {g : Gw} {Mt U0 U U' : Addr → Prop} {H0 H H' H1 H2 : Hp} {b b1 : Nat} {σ : L2.St} {ε ε' : Env} {E : XK} {W L W' : Type}
theorem UOk.ev (u : UOk g U H) (f : Fr H H' g.p) : Ev U H U H' := ⟨fun a o e n t => f a o e (fun z => n (z ▸ u.p)) t, fun _ _ _ n _ => n⟩
mutual
theorem Den.ev (e : Ev U H U' H') : ∀ {v : V} {d : D}, Den g U H v d → Den g U' H' v d
  | _, _, .non => .non
  | _, _, .bl b => .bl b
  | _, _, .int i => .int i
  | _, _, .str x h => .str x h
  | _, _, .tup h n l k => .tup (e.keep _ _ h n (fun _ z => by cases z)) (e.out _ _ h n (fun _ z => by cases z)) l (DenL.ev e k)
  | _, _, .tupW h l k => .tupW h l (DenL.ev e k)
  | _, _, .lst h n l k => .lst (e.keep _ _ h n (fun _ z => by cases z)) (e.out _ _ h n (fun _ z => by cases z)) l (DenL.ev e k)
  | _, _, .obj h n k => .obj (e.keep _ _ h n (fun _ z => by cases z)) (e.out _ _ h n (fun _ z => by cases z)) (DenF.ev e k)
  | _, _, .err h n h2 n2 k => .err (e.keep _ _ h n (fun _ z => by unfold exk at z; cases z)) (e.out _ _ h n (fun _ z => by unfold exk at z; cases z)) (e.keep _ _ h2 n2 (fun _ z => by cases z)) (e.out _ _ h2 n2 (fun _ z => by cases z)) (DenF.ev e k)
  | _, _, .pen => .pen
  | _, _, .cls c => .cls c
  | _, _, .dct h n => .dct (e.keep _ _ h n (fun _ z => by cases z)) (e.out _ _ h n (fun _ z => by cases z))
theorem DenL.ev (e : Ev U H U' H') : ∀ {vs : List V} {ds : List D}, DenL g U H vs ds → DenL g U' H' vs ds
  | _, _, .nil => .nil
  | _, _, .cons a r => .cons (Den.ev e a) (DenL.ev e r)
theorem DenF.ev (e : Ev U H U' H') : ∀ {vs : List (Str × V)} {ds : List (Str × D)}, DenF g U H vs ds → DenF g U' H' vs ds
  | _, _, .nil => .nil
  | _, _, .cons a r => .cons (Den.ev e a) (DenF.ev e r)
end
theorem Stt.fr (s : Stt g Mt U0 H0 U σ H b ε) (f : Fr H H' g.p) (w : Wd g H' b1) : Stt g Mt U0 H0 U σ H' b1 ε := ⟨s.rel.fr s.uok f, w, s.uok.fr f w, s.sub, s.own, s.ext.trans f, s.nu0, s.oim⟩
theorem flP.ev {U1 : Addr → Prop} {H1 : Hp} {D : Ends} {env : W → Env} {envL : L → Env} (e : Ev U H U1 H1) : ∀ {f : Fl W L}, flP g Mt U0 H0 U H D env envL f b → flP g Mt U0 H0 U1 H1 D env envL f b
  | .nx w, h => fun U' σ' H' e1 => h U' σ' H' (e.trans e1)
  | .rt d, h => h
  | .bk w, h => fun U' σ' H' e1 => h U' σ' H' (e.trans e1)
  | .ct w, h => fun U' σ' H' e1 => h U' σ' H' (e.trans e1)
def SS (g : Gw) (E : XK) (ε : Env) (t : TS) (env : W → Env) (envL : L → Env) (m : Tr (Fl W L)) : Prop := ∀ Mt U0 H0 U D σ H b, Stt g Mt U0 H0 U σ H b ε → Al (flP g Mt U0 H0 U H D env envL) (exS g Mt U0 H0 E) m b → t D σ H
theorem SE.sstep {t : TE} {m : Tr D} {k : D → Tr (Fl W L)} {Ds : Ends} {env : W → Env} {envL : L → Env} {Q : VK} (he : SE g E ε t m) (s : Stt g Mt U0 H0 U σ H b ε) (h : Al (flP g Mt U0 H0 U H Ds env envL) (exS g Mt U0 H0 E) (bd m k) b)
    (hk : ∀ v d H1 b1, Den g U H1 v d → Stt g Mt U0 H0 U σ H1 b1 ε → Al (flP g Mt U0 H0 U H1 Ds env envL) (exS g Mt U0 H0 E) (k d) b1 → Q v H1) : t σ H Q :=
  he U σ H b Q s.rel s.wd s.uok ((al_bd.mp h).mono (fun d b1 h1 v H1 d1 w1 f1 => hk v d H1 b1 d1 (s.fr f1 w1) (h1.mono (fun _ _ z => z.ev (s.uok.ev f1)) (fun _ _ _ z => z))) (fun _ _ _ h => exS.exP s h))
theorem SA.sstep {t : TA} {m : Tr (List D)} {k : (List D) → Tr (Fl W L)} {Ds : Ends} {env : W → Env} {envL : L → Env} {Q : List V → Hp → Prop} (he : SA g E ε t m) (s : Stt g Mt U0 H0 U σ H b ε) (h : Al (flP g Mt U0 H0 U H Ds env envL) (exS g Mt U0 H0 E) (bd m k) b)
    (hk : ∀ v d H1 b1, DenL g U H1 v d → Stt g Mt U0 H0 U σ H1 b1 ε → Al (flP g Mt U0 H0 U H1 Ds env envL) (exS g Mt U0 H0 E) (k d) b1 → Q v H1) : t σ H Q :=
  he U σ H b Q s.rel s.wd s.uok ((al_bd.mp h).mono (fun d b1 h1 v H1 d1 w1 f1 => hk v d H1 b1 d1 (s.fr f1 w1) (h1.mono (fun _ _ z => z.ev (s.uok.ev f1)) (fun _ _ _ z => z))) (fun _ _ _ h => exS.exP s h))
theorem ST.sstep {t : TT} {m : Tr Bool} {k : Bool → Tr (Fl W L)} {Ds : Ends} {env : W → Env} {envL : L → Env} {Q : Bool → Hp → Prop} (he : ST g E ε t m) (s : Stt g Mt U0 H0 U σ H b ε) (h : Al (flP g Mt U0 H0 U H Ds env envL) (exS g Mt U0 H0 E) (bd m k) b)
    (hk : ∀ d H1 b1,  Stt g Mt U0 H0 U σ H1 b1 ε → Al (flP g Mt U0 H0 U H1 Ds env envL) (exS g Mt U0 H0 E) (k d) b1 → Q d H1) : t σ H Q :=
  he U σ H b Q s.rel s.wd s.uok ((al_bd.mp h).mono (fun d b1 h1 H1 w1 f1 => hk d H1 b1 (s.fr f1 w1) (h1.mono (fun _ _ z => z.ev (s.uok.ev f1)) (fun _ _ _ z => z))) (fun _ _ _ h => exS.exP s h))
theorem ownAt_set {i j : Nat} {v : V} {d : D} {a : Addr} (h : OwnAt (σ.set i (some v)) (ε.set i (.fz d)) j a) : i ≠ j ∧ OwnAt σ ε j a := by
  obtain ⟨h1, h2⟩ := h
  by_cases e : i = j
  · subst e
    exfalso
    rcases h2 with ⟨ds, h2⟩ | ⟨c, fs, h2⟩
    · rw [List.getElem?_set_self' ] at h2
      cases q : ε[i]? with
      | none => rw [q] at h2; cases h2
      | some z => rw [q] at h2; cases h2
    · rw [List.getElem?_set_self'] at h2
      cases q : ε[i]? with
      | none => rw [q] at h2; cases h2
      | some z => rw [q] at h2; cases h2
  · rw [List.getElem?_set_ne e] at h1 h2
    exact ⟨e, h1, h2⟩
theorem Rel.set (r : Rel g U H σ ε) {v : V} {d : D} (i : Nat) (h : Den g U H v d) : Rel g U H (σ.set i (some v)) (ε.set i (.fz d)) := by
  refine ⟨by rw [List.length_set, List.length_set]; exact r.len, fun j s e => ?_, fun j k a n h1 h2 => r.apart j k a n (ownAt_set h1).2 (ownAt_set h2).2⟩
  by_cases q : i = j
  · subst q
    have hl : i < ε.length := by
      cases z : ε[i]? with
      | none => rw [List.getElem?_set_self', z] at e; cases e
      | some w => exact (List.getElem?_eq_some_iff.mp z).1
    rw [List.getElem?_set_self hl] at e
    cases e
    exact ⟨some v, List.getElem?_set_self (by rw [r.len]; exact hl), v, rfl, h⟩
  · rw [List.getElem?_set_ne q] at e ⊢
    exact r.at_ j s e
theorem Stt.set (s : Stt g Mt U0 H0 U σ H b ε) {v : V} {d : D} (i : Nat) (h : Den g U H v d) : Stt g Mt U0 H0 U (σ.set i (some v)) H b (ε.set i (.fz d)) :=
  ⟨s.rel.set i h, s.wd, s.uok, s.sub, fun j a o => s.own j a (ownAt_set o).2, s.ext, fun j ds a e1 e2 => (by
    obtain ⟨_, e3, e4⟩ := ownAt_set (a := a) (j := j) ⟨e2, .inl ⟨ds, e1⟩⟩
    rcases e4 with ⟨ds', e4⟩ | ⟨_, _, e4⟩
    · exact s.nu0 j ds' a e4 e3
    · by_cases q : i = j
      · subst q
        cases z : ε[i]? with
        | none => rw [List.getElem?_set_self', z] at e1; cases e1
        | some w => rw [List.getElem?_set_self', z] at e1; cases e1
      · rw [List.getElem?_set_ne q, e4] at e1
        cases e1), fun j c fs a e1 e2 => by
    by_cases q : i = j
    · subst q
      cases z : ε[i]? with
      | none => rw [List.getElem?_set_self', z] at e1; cases e1
      | some w => rw [List.getElem?_set_self', z] at e1; cases e1
    · rw [List.getElem?_set_ne q] at e1 e2
      exact s.oim j c fs a e1 e2⟩
theorem Le.get : ∀ {a b : Env}, Le a b → ∀ {i : Nat} {s : Sl}, a[i]? = some s → s = .no ∧ (∃ z, b[i]? = some z) ∨ b[i]? = some s
  | _, _, .nil, _, _, e => by simp at e
  | _, _, .s h, 0, _, e => .inr e
  | _, _, .n h, 0, _, e => by simp at e; exact .inl ⟨e.symm, _, rfl⟩
  | _, _, .s h, i + 1, z, e => by simpa using h.get (i := i) (s := z) (by simpa using e)
  | _, _, .n h, i + 1, z, e => by simpa using h.get (i := i) (s := z) (by simpa using e)
theorem ownAt_le (l : Le ε' ε) {i : Nat} {a : Addr} (h : OwnAt σ ε' i a) : OwnAt σ ε i a := by
  obtain ⟨h1, h2⟩ := h
  refine ⟨h1, ?_⟩
  rcases h2 with ⟨ds, h2⟩ | ⟨c, fs, h2⟩
  · rcases l.get h2 with ⟨z, _⟩ | z
    · cases z
    · exact .inl ⟨ds, z⟩
  · rcases l.get h2 with ⟨z, _⟩ | z
    · cases z
    · exact .inr ⟨c, fs, z⟩
theorem Stt.le (s : Stt g Mt U0 H0 U σ H b ε) (l : Le ε' ε) : Stt g Mt U0 H0 U σ H b ε' :=
  ⟨⟨s.rel.len.trans l.len.symm, fun i x e => by
    rcases l.get e with ⟨rfl, z, h⟩ | h
    · obtain ⟨o, h1, _⟩ := s.rel.at_ i z h
      exact ⟨o, h1, trivial⟩
    · exact s.rel.at_ i x h, fun i j a n h1 h2 => s.rel.apart i j a n (ownAt_le l h1) (ownAt_le l h2)⟩, s.wd, s.uok, s.sub, fun i a o => s.own i a (ownAt_le l o), s.ext, fun i ds a e1 e2 => (by
    rcases l.get e1 with ⟨z, _⟩ | z
    · cases z
    · exact s.nu0 i ds a z e2), fun i c fs a e1 e2 => by
    rcases l.get e1 with ⟨z, _⟩ | z
    · cases z
    · exact s.oim i c fs a z e2⟩
variable {env : W → Env} {envL : L → Env} {env' : W' → Env} {u ta tb : TS} {te : TE} {me : Tr D}
theorem ss_nx {w : W} (l : Le (env w) ε) : SS g E ε tNext env envL (.ok (.nx w)) := fun Mt U0 H0 U D σ H b s q => q U σ H Ev.refl (s.le l)
theorem ss_asg {i : Nat} {k : D → Tr (Fl W L)} (he : SE g E ε te me) (hk : ∀ d, SS g E (ε.set i (.fz d)) u env envL (k d)) : SS g E ε (tSeq (tAsg te (gName i)) u) env envL (bd me k) := fun Mt U0 H0 U D σ H b s q =>
  he.sstep s q fun v d H1 b1 d1 s1 q1 => hk d Mt U0 H0 U D _ H1 b1 (s1.set i d1) q1
theorem ss_ret (he : SE g E ε te me) : SS g E ε (tSeq (tRet te) u) env envL (bd me fun d => .ok (.rt d)) := fun Mt U0 H0 U D σ H b s q =>
  he.sstep s q fun v d H1 b1 d1 s1 q1 => q1 v H1 (d1.sub fun a _ z => s1.sub a z) s1.wd s1.ext
theorem ss_drop {k : Tr (Fl W L)} (he : SE g E ε te me) (hk : SS g E ε u env envL k) : SS g E ε (tSeq (tDrop te) u) env envL (bd me fun _ => k) := fun Mt U0 H0 U D σ H b s q =>
  he.sstep s q fun v d H1 b1 d1 s1 q1 => hk Mt U0 H0 U D σ H1 b1 s1 q1
theorem ss_never : SS g E ε (tSeq tNever u) env envL .bad := fun Mt U0 H0 U D σ H b s q => q.elim
def ul0 {α : Type} (k : Tr α) (ds : List D) : Tr α := match ds with
  | [] => k
  | _ => .bad
def ul1 {α : Type} (k : D → Tr α) (ds : List D) : Tr α := match ds with
  | [x] => k x
  | _ => .bad
def ul2 {α : Type} (k : D → D → Tr α) (ds : List D) : Tr α := match ds with
  | [x, y] => k x y
  | _ => .bad
def ul3 {α : Type} (k : D → D → D → Tr α) (ds : List D) : Tr α := match ds with
  | [x, y, z] => k x y z
  | _ => .bad
def ul4 {α : Type} (k : D → D → D → D → Tr α) (ds : List D) : Tr α := match ds with
  | [x, y, z, w] => k x y z w
  | _ => .bad
section
variable {α : Type} {P : α → Nat → Prop} {X : Str → Fs → Nat → Prop} {ds : List D}
theorem al_ul1 {k : D → Tr α} (h : Al P X (ul1 k ds) b) : ∃ x, ds = [x] ∧ Al P X (k x) b := by
  unfold ul1 at h; split at h
  · exact ⟨_, rfl, h⟩
  · exact h.elim
theorem al_ul2 {k : D → D → Tr α} (h : Al P X (ul2 k ds) b) : ∃ x y, ds = [x, y] ∧ Al P X (k x y) b := by
  unfold ul2 at h; split at h
  · exact ⟨_, _, rfl, h⟩
  · exact h.elim
theorem al_ul3 {k : D → D → D → Tr α} (h : Al P X (ul3 k ds) b) : ∃ x y z, ds = [x, y, z] ∧ Al P X (k x y z) b := by
  unfold ul3 at h; split at h
  · exact ⟨_, _, _, rfl, h⟩
  · exact h.elim
theorem al_ul4 {k : D → D → D → D → Tr α} (h : Al P X (ul4 k ds) b) : ∃ x y z w, ds = [x, y, z, w] ∧ Al P X (k x y z w) b := by
  unfold ul4 at h; split at h
  · exact ⟨_, _, _, _, rfl, h⟩
  · exact h.elim
end
theorem denL_nil {vs : List V} (h : DenL g U H vs []) : vs = [] := by cases h; rfl
theorem denL_cons {vs : List V} {d : D} {ds : List D} (h : DenL g U H vs (d :: ds)) : ∃ v r, vs = v :: r ∧ Den g U H v d ∧ DenL g U H r ds := by
  cases h with
  | cons a r => exact ⟨_, _, rfl, a, r⟩
theorem denL_1 {vs : List V} {x : D} (h : DenL g U H vs [x]) : ∃ v, vs = [v] ∧ Den g U H v x := by
  obtain ⟨v, r, rfl, h1, h2⟩ := denL_cons h
  cases denL_nil h2
  exact ⟨v, rfl, h1⟩
theorem denL_2 {vs : List V} {x y : D} (h : DenL g U H vs [x, y]) : ∃ v w, vs = [v, w] ∧ Den g U H v x ∧ Den g U H w y := by
  obtain ⟨v, r, rfl, h1, h2⟩ := denL_cons h
  obtain ⟨w, rfl, h3⟩ := denL_1 h2
  exact ⟨v, w, rfl, h1, h3⟩
theorem ss_par {i j : Nat} {t : TA} {m : Tr (List D)} {k : D → D → Tr (Fl W L)} (he : SA g E ε t m) (hk : ∀ x y, SS g E ((ε.set i (.fz x)).set j (.fz y)) u env envL (k x y)) :
    SS g E ε (tSeq (tPar i j t) u) env envL (bd m (ul2 k)) := fun Mt U0 H0 U D σ H b s q =>
  he.sstep s q fun v d H1 b1 d1 s1 q1 => by
    obtain ⟨x, y, rfl, q2⟩ := al_ul2 q1
    obtain ⟨v1, v2, rfl, e1, e2⟩ := denL_2 d1
    exact ⟨v1, v2, rfl, hk x y Mt U0 H0 U D _ H1 b1 ((s1.set i e1).set j e2) q2⟩
def bdF (m : Tr (Fl W' L)) (k : W' → Tr (Fl W L)) : Tr (Fl W L) := bd m fun f => match f with
  | .nx w => k w
  | .rt d => .ok (.rt d)
  | .bk l => .ok (.bk l)
  | .ct l => .ok (.ct l)
theorem SS.seq {m : Tr (Fl W' L)} {k : W' → Tr (Fl W L)} (h1 : SS g E ε ta env' envL m) (h2 : ∀ w, SS g E (env' w) u env envL (k w)) : SS g E ε (tSeq ta u) env envL (bdF m k) := fun Mt U0 H0 U D σ H b s q => by
  refine h1 Mt U0 H0 U { D with nx := u D } σ H b s ((al_bd.mp q).mono (fun f b1 h => ?_) (fun _ _ _ h => h))
  cases f with
  | nx w => exact fun U1 σ1 H1 e1 s1 => h2 w Mt U0 H0 U1 D σ1 H1 b1 s1 (Al.mono (fun _ _ z => z.ev e1) (fun _ _ _ z => z) h)
  | rt d => exact h
  | bk l => exact h
  | ct l => exact h
theorem ss_if0 {c : TT} {mc : Tr Bool} {m n : Tr (Fl W' L)} (hc : ST g E ε c mc) (ha : SS g E ε ta env' envL m) (hb : SS g E ε tb env' envL n) : SS g E ε (tIfS c ta tb) env' envL (bd mc fun k => if k = true then m else n) := fun Mt U0 H0 U D σ H b s q =>
  hc.sstep s q fun k H1 b1 s1 q1 => by
    cases k with
    | true => exact ha Mt U0 H0 U D σ H1 b1 s1 q1
    | false => exact hb Mt U0 H0 U D σ H1 b1 s1 q1
theorem ss_if {c : TT} {mc : Tr Bool} {m n : Tr (Fl W' L)} {k : W' → Tr (Fl W L)} (env' : W' → Env) (hc : ST g E ε c mc) (ha : SS g E ε ta env' envL m) (hb : SS g E ε tb env' envL n) (hk : ∀ w, SS g E (env' w) u env envL (k w)) :
    SS g E ε (tSeq (tIfS c ta tb) u) env envL (bdF (bd mc fun k => if k = true then m else n) k) := (ss_if0 hc ha hb).seq hk
theorem sx_name {i : Nat} {d : D} {m : Tr (Fl W L)} (h : SS g E (ε.set i (.fz d)) tb env envL m) : SX g E ε d (gName i) tb env envL m := fun Mt U0 H0 U D σ H b v s dn q => h Mt U0 H0 U D _ H b (s.set i dn) q
def un2 {α : Type} (d : D) (k : D → D → Tr α) : Tr α := match d with
  | .tup [x, y] => k x y
  | _ => .bad
theorem den_tup {v : V} {ds : List D} (h : Den g U H v (.tup ds)) : ∃ a vs, v = .ref a ∧ SqT g.K H a vs ∧ vs.length ≤ sizeLine ∧ DenL g U H vs ds := by
  cases h with
  | tup h n l k => exact ⟨_, _, rfl, SqT.of h, l, k⟩
  | tupW h l k => exact ⟨_, _, rfl, h H, l, k⟩
theorem al_un2 {α : Type} {P : α → Nat → Prop} {X : Str → Fs → Nat → Prop} {d : D} {k : D → D → Tr α} (h : Al P X (un2 d k) b) : ∃ x y, d = .tup [x, y] ∧ Al P X (k x y) b := by
  unfold un2 at h
  split at h
  · exact ⟨_, _, rfl, h⟩
  · exact h.elim
theorem sx_tup2 {i j : Nat} {d : D} {m : D → D → Tr (Fl W L)} (h : ∀ x y, SS g E ((ε.set i (.fz x)).set j (.fz y)) tb env envL (m x y)) : SX g E ε d (gTup g.K 2 (gCons (gName i) (gCons (gName j) gNil))) tb env envL (un2 d m) := fun Mt U0 H0 U D σ H b v s dn q => by
  obtain ⟨x, y, rfl, q1⟩ := al_un2 q
  obtain ⟨a, vs, rfl, sq, _, k⟩ := den_tup dn
  obtain ⟨v1, v2, rfl, e1, e2⟩ := denL_2 k
  exact ⟨a, [v1, v2], rfl, sq, rfl, v1, [v2], rfl, v2, [], rfl, rfl, h x y Mt U0 H0 U D _ H b ((s.set i e1).set j e2) q1⟩
theorem ss_unp {gt : TG} {k : D → Tr (Fl W L)} (he : SE g E ε te me) (hk : ∀ d, SX g E ε d gt u env envL (k d)) : SS g E ε (tSeq (tAsg te gt) u) env envL (bd me k) := fun Mt U0 H0 U D σ H b s q =>
  he.sstep s q fun v d H1 b1 d1 s1 q1 => hk d Mt U0 H0 U D σ H1 b1 v s1 d1 q1
def ItD (g : Gw) (U : Addr → Prop) (H : Hp) (J : It) (ds : List D) : Prop := ∀ i U1 H1 b, Ev U H U1 H1 → Wd g H1 b → UOk g U1 H1 →
  (∀ d, ds[i]? = some d → J.go i H1 ∧ ∀ x H2, J.yld i H1 x H2 → Den g U1 H2 x d ∧ L2.Same H1 H2) ∧ (ds.length = i → J.stop i H1)
def okI (g : Gw) (U : Addr → Prop) (H : Hp) (R : It → Hp → Prop) : List D → Nat → Prop := fun ds b => ∀ J H', ds.length ≤ sizeLine → ItD g U H' J ds → Wd g H' b → Fr H H' g.p → R J H'
def SI (g : Gw) (E : XK) (ε : Env) (wi : TI) (m : Tr (List D)) : Prop := ∀ U σ H b R, Rel g U H σ ε → Wd g H b → UOk g U H → Al (okI g U H R) (exP g U E H) m b → wi σ H R
def forF (f : D → W → Tr (Fl W W)) : List D → W → Tr (Fl W L)
  | [], w => .ok (.nx w)
  | x :: xs, w => bd (f x w) fun r => match r with
    | .nx w' => forF f xs w'
    | .ct w' => forF f xs w'
    | .bk w' => .ok (.nx w')
    | .rt d => .ok (.rt d)
theorem forF_cons (f : D → W → Tr (Fl W W)) (x : D) (xs : List D) (w : W) : forF (L := L) f (x :: xs) w = bd (f x w) fun r => match r with
    | .nx w' => forF f xs w'
    | .ct w' => forF f xs w'
    | .bk w' => .ok (.nx w')
    | .rt d => .ok (.rt d) := rfl
theorem ss_for0 {wi : TI} {gt : TG} {mi : Tr (List D)} {f : D → W → Tr (Fl W W)} {w0 : W} {tb : TS} (hi : SI g E ε wi mi) (l : Le (env w0) ε) (hb : ∀ d w, SX g E (env w) d gt tb env env (f d w)) : SS g E ε (tFor wi gt tb) env envL (bd mi fun ds => forF f ds w0) := fun Mt U0 H0 U D σ H b s q => by
  refine hi U σ H b _ s.rel s.wd s.uok ((al_bd.mp q).mono (fun ds b1 h1 J H1 hsz it w1 f1 => ?_) (fun _ _ _ h => exS.exP s h))
  refine ⟨fun i m σ' H' => ∃ b' w U', m = ds.length - i ∧ i ≤ ds.length ∧ Stt g Mt U0 H0 U' σ' H' b' (env w) ∧ Ev U H1 U' H' ∧ Al (flP g Mt U0 H0 U' H' D env envL) (exS g Mt U0 H0 E) (forF f (ds.drop i) w) b',
    ⟨ds.length, b1, w0, U, by simp, Nat.zero_le _, (s.fr f1 w1).le l, Ev.refl, Al.mono (fun _ _ z => z.ev (s.uok.ev f1)) (fun _ _ _ z => z) h1⟩, ?_⟩
  rintro i m σ' H' ⟨b', w, U', rfl, hle, s', e', q'⟩
  obtain ⟨it1, it2⟩ := it i U' H' b' e' s'.wd s'.uok
  by_cases hlt : i < ds.length
  · have ei : ds[i]? = some ds[i] := List.getElem?_eq_getElem hlt
    obtain ⟨go, y⟩ := it1 _ ei
    rw [List.drop_eq_getElem_cons hlt, forF_cons] at q'
    refine .inr ⟨go, fun σ2 H2 => ∃ b' w U2, Stt g Mt U0 H0 U2 σ2 H2 b' (env w) ∧ Ev U H1 U2 H2 ∧ Al (flP g Mt U0 H0 U2 H2 D env envL) (exS g Mt U0 H0 E) (forF f (ds.drop (i + 1)) w) b', ?_, ?_⟩
    · rintro σ2 H2 ⟨b2, w2, U2, s2, e2, q2⟩
      exact ⟨ds.length - (i + 1), by omega, b2, w2, U2, rfl, hlt, s2, e2, q2⟩
    · intro x H2 hy
      obtain ⟨dn, sm⟩ := y x H2 hy
      have s2 := s'.fr (fr_same sm) (s'.wd.same sm)
      have ev2 : Ev U' H' U' H2 := s'.uok.ev (fr_same sm)
      refine hb _ w Mt U0 H0 U' _ σ' H2 b' x s2 dn ((al_bd.mp q').mono (fun r b2 h2 => ?_) (fun _ _ _ z => z))
      cases r with
      | nx w' => exact fun U3 σ3 H3 e3 s3 => ⟨b2, w', U3, s3, e'.trans (ev2.trans e3), Al.mono (fun _ _ z => z.ev (ev2.trans e3)) (fun _ _ _ z => z) h2⟩
      | ct w' => exact fun U3 σ3 H3 e3 s3 => ⟨b2, w', U3, s3, e'.trans (ev2.trans e3), Al.mono (fun _ _ z => z.ev (ev2.trans e3)) (fun _ _ _ z => z) h2⟩
      | bk w' => exact fun U3 σ3 H3 e3 s3 => h2 U3 σ3 H3 (ev2.trans e3) s3
      | rt d => exact h2
  · have e : i = ds.length := by omega
    subst e
    rw [List.drop_length] at q'
    exact .inl ⟨it2 (rfl), q' U' σ' H' Ev.refl s'⟩
end
end Gp
end
section
set_option Elab.async false
set_option linter.all false
set_option maxRecDepth 100000
set_option maxHeartbeats 4000000
namespace Gp
open PySem PySem.Spec PyProof.Rows L2 Gh
section
variable {g : Gw} {Mt U0 U U' : Addr → Prop} {H0 H H' H1 H2 : Hp} {b b1 : Nat} {σ : L2.St} {ε ε' : Env} {E : XK} {W L W' : Type}
variable {env : W → Env} {envL : L → Env} {env' : W' → Env} {u ta tb : TS} {te : TE} {me : Tr D}
theorem ss_for {wi : TI} {gt : TG} {mi : Tr (List D)} {f : D → W' → Tr (Fl W' W')} {w0 : W'} {tb : TS} {k : W' → Tr (Fl W L)} (env' : W' → Env) (hi : SI g E ε wi mi) (l : Le (env' w0) ε) (hb : ∀ d w, SX g E (env' w) d gt tb env' env' (f d w)) (hk : ∀ w, SS g E (env' w) u env envL (k w)) :
    SS g E ε (tSeq (tFor wi gt tb) u) env envL (bdF (bd mi fun ds => forF f ds w0) k) := (ss_for0 hi l hb).seq hk
def whF (c : W → Tr Bool) (f : W → Tr (Fl W W)) : Nat → W → Tr (Fl W L)
  | 0, _ => .bad
  | n + 1, w => bd (c w) fun k => if k = true then bd (f w) fun r => match r with
    | .nx w' => whF c f n w'
    | .ct w' => whF c f n w'
    | .bk w' => .ok (.nx w')
    | .rt d => .ok (.rt d) else .ok (.nx w)
theorem whF_succ (c : W → Tr Bool) (f : W → Tr (Fl W W)) (n : Nat) (w : W) : whF (L := L) c f (n + 1) w = bd (c w) fun k => if k = true then bd (f w) fun r => match r with
    | .nx w' => whF c f n w'
    | .ct w' => whF c f n w'
    | .bk w' => .ok (.nx w')
    | .rt d => .ok (.rt d) else .ok (.nx w) := rfl
theorem ss_wh0 {c : TT} {mc : W → Tr Bool} {f : W → Tr (Fl W W)} {w0 : W} (n : Nat) (l : Le (env w0) ε) (hc : ∀ w, ST g E (env w) c (mc w)) (hb : ∀ w, SS g E (env w) tb env env (f w)) : SS g E ε (tWhile c tb) env envL (whF mc f n w0) := fun Mt U0 H0 U D σ H b s q => by
  refine ⟨fun m σ' H' => ∃ b' w U', Stt g Mt U0 H0 U' σ' H' b' (env w) ∧ Al (flP g Mt U0 H0 U' H' D env envL) (exS g Mt U0 H0 E) (whF mc f m w) b', ⟨n, b, w0, U, s.le l, q⟩, ?_⟩
  rintro m σ' H' ⟨b', w, U', s', q'⟩
  cases m with
  | zero => exact q'.elim
  | succ m =>
    rw [whF_succ] at q'
    refine (hc w).sstep s' q' fun k H1 b1 s1 q1 => ?_
    cases k with
    | false => exact q1 U' σ' H1 Ev.refl s1
    | true =>
      refine ⟨fun σ2 H2 => ∃ b' w U', Stt g Mt U0 H0 U' σ2 H2 b' (env w) ∧ Al (flP g Mt U0 H0 U' H2 D env envL) (exS g Mt U0 H0 E) (whF mc f m w) b', fun σ2 H2 h => ⟨m, Nat.lt_succ_self _, h⟩, ?_⟩
      refine hb w Mt U0 H0 U' _ σ' H1 b1 s1 ((al_bd.mp q1).mono (fun r b2 h2 => ?_) (fun _ _ _ z => z))
      cases r with
      | nx w' => exact fun U3 σ3 H3 e3 s3 => ⟨b2, w', U3, s3, Al.mono (fun _ _ z => z.ev e3) (fun _ _ _ z => z) h2⟩
      | ct w' => exact fun U3 σ3 H3 e3 s3 => ⟨b2, w', U3, s3, Al.mono (fun _ _ z => z.ev e3) (fun _ _ _ z => z) h2⟩
      | bk w' => exact fun U3 σ3 H3 e3 s3 => h2 U3 σ3 H3 e3 s3
      | rt d => exact h2
theorem ss_wh {c : TT} {mc : W' → Tr Bool} {f : W' → Tr (Fl W' W')} {w0 : W'} {k : W' → Tr (Fl W L)} (env' : W' → Env) (n : Nat) (l : Le (env' w0) ε) (hc : ∀ w, ST g E (env' w) c (mc w)) (hb : ∀ w, SS g E (env' w) tb env' env' (f w)) (hk : ∀ w, SS g E (env' w) u env envL (k w)) :
    SS g E ε (tSeq (tWhile c tb) u) env envL (bdF (whF mc f n w0) k) := (ss_wh0 n l hc hb).seq hk
def itD : D → Tr (List D)
  | .lst ds => .ok ds
  | .tup ds => .ok ds
  | .str x => .ok (x.cps.toList.map fun c => .str ⟨#[c]⟩)
  | _ => .bad
theorem den_lst {v : V} {ds : List D} (h : Den g U H v (.lst ds)) : ∃ a vs, v = .ref a ∧ H a = some (.lst vs) ∧ ¬ U a ∧ vs.length ≤ sizeLine ∧ DenL g U H vs ds := by
  cases h with
  | lst h n l k => exact ⟨_, _, rfl, h, n, l, k⟩
theorem den_str {v : V} {x : Str} (h : Den g U H v (.str x)) : v = .str x ∧ x.length ≤ sizeLine := by
  cases h with
  | str x h => exact ⟨rfl, h⟩
theorem den_int {v : V} {i : Int} (h : Den g U H v (.int i)) : v = .int i := by cases h; rfl
theorem den1 {c : Nat} : Den g U H (.str ⟨#[c]⟩) (.str ⟨#[c]⟩) := .str _ (by show 1 ≤ sizeLine; decide)
theorem itd_lst {a : Addr} {vs : List V} {ds : List D} (h : H a = some (.lst vs)) (n : ¬ U a) (k : DenL g U H vs ds) : ItD g U H (Itl g.K a) ds := fun i U1 H1 b e w u => by
  have h1 : H1 a = some (.lst vs) := e.keep _ _ h n (fun _ z => by cases z)
  refine ⟨fun d hd => ?_, fun hl => ⟨vs, SqL.of h1, by rw [k.length]; exact Nat.le_of_eq hl⟩⟩
  obtain ⟨v, hv, dn⟩ := k.getD hd
  refine ⟨⟨vs, v, SqL.of h1, hv⟩, ?_⟩
  rintro x H2 ⟨rfl, hx⟩
  have e2 := hx vs (SqL.of h1)
  rw [hv] at e2
  cases e2
  exact ⟨dn.ev e, fun _ _ z => z⟩
theorem itd_tup {a : Addr} {vs : List V} {ds : List D} (h : ∀ U1 H1, Ev U H U1 H1 → SqT g.K H1 a vs) (k : DenL g U H vs ds) : ItD g U H (Itt g.K a) ds := fun i U1 H1 b e w u => by
  have h1 := h U1 H1 e
  refine ⟨fun d hd => ?_, fun hl => ⟨vs, h1, by rw [k.length]; exact Nat.le_of_eq hl⟩⟩
  obtain ⟨v, hv, dn⟩ := k.getD hd
  refine ⟨⟨vs, v, h1, hv⟩, ?_⟩
  rintro x H2 ⟨rfl, hx⟩
  have e2 := hx vs h1
  rw [hv] at e2
  cases e2
  exact ⟨dn.ev e, fun _ _ z => z⟩
theorem den_tupE {v : V} {ds : List D} (h : Den g U H v (.tup ds)) : ∃ a vs, v = .ref a ∧ (∀ U1 H1, Ev U H U1 H1 → SqT g.K H1 a vs) ∧ vs.length ≤ sizeLine ∧ DenL g U H vs ds := by
  cases h with
  | tup h n l k => exact ⟨_, _, rfl, fun U1 H1 e => SqT.of (e.keep _ _ h n (fun _ z => by cases z)), l, k⟩
  | tupW h l k => exact ⟨_, _, rfl, fun U1 H1 e => h H1, l, k⟩
theorem itd_str (x : Str) : ItD g U H (Its x) (x.cps.toList.map fun c => .str ⟨#[c]⟩) := fun i U1 H1 b e w u => by
  refine ⟨fun d hd => ?_, fun hl => by rw [List.length_map, Array.length_toList] at hl; exact Nat.le_of_eq hl⟩
  rw [List.getElem?_map] at hd
  cases q : x.cps.toList[i]? with
  | none => rw [q] at hd; cases hd
  | some c =>
    rw [q] at hd
    cases hd
    have hi : i < x.cps.size := by
      have := (List.getElem?_eq_some_iff.mp q).1
      rw [Array.length_toList] at this
      exact this
    refine ⟨hi, ?_⟩
    rintro y H2 ⟨rfl, c', hc, rfl⟩
    rw [Array.getElem?_toList] at q
    rw [q] at hc
    cases hc
    exact ⟨den1, fun _ _ z => z⟩
def iSeq (K : PySem.W.Frag) (te : TE) : TI := fun σ H R => te σ H fun x H1 => (∃ a, x = .ref a ∧ (∃ xs, SqL K H1 a xs) ∧ R (Itl K a) H1) ∨ (∃ a, x = .ref a ∧ (∃ xs, SqT K H1 a xs) ∧ R (Itt K a) H1) ∨ ∃ z, x = .str z ∧ R (Its z) H1
theorem pi_seq {X : Cx} {K : PySem.W.Frag} {tg e : Expr} {te : TE} (hK : X.K = K) (he : PE X e te) : PI X tg e (iSeq K te) := by
  subst hK
  refine ⟨fun pins s σ H R I h => ?_⟩
  refine thn (he.run pins s σ H _ I h) fun v s1 ⟨x, H1, I1, r1, q1⟩ => ?_
  rcases q1 with ⟨a, e, ⟨xs, hq⟩, q⟩ | ⟨a, e, ⟨xs, hq⟩, q⟩ | ⟨z, ex, q⟩
  · subst e
    cases r1
    obtain ⟨its, rv, p, hz⟩ := I1.list hq
    refine wpAny_pyIter_list p.isList ?_
    refine ⟨s1.heap.objs.size, [s1.heap.objs.size], _, _, H1, rfl, I1.kept (t' := s1.toks) fun b o e => Heap.get?_push_of_some _ e, turn_list a _, ⟨_, Heap.get?_push_size _ rfl, rfl, rfl⟩, fun b hb => ?_, q⟩
    have e : b = s1.heap.objs.size := by simpa using hb
    subst e
    exact I1.fpOk (Nat.le_refl _) (I1.hok.fresh (Nat.le_refl _))
  · subst e
    cases r1
    obtain ⟨its, rv, p, hz⟩ := I1.tuple hq
    refine wpAny_pyIter_tuple (show s1.heap.IsTuple a its.toArray from p) ?_
    refine ⟨s1.heap.objs.size, [s1.heap.objs.size], _, _, H1, rfl, I1.kept (t' := s1.toks) fun b o e => Heap.get?_push_of_some _ e, turn_tuple a _, ⟨_, Heap.get?_push_size _ rfl, rfl, rfl⟩, fun b hb => ?_, q⟩
    have e : b = s1.heap.objs.size := by simpa using hb
    subst e
    exact I1.fpOk (Nat.le_refl _) (I1.hok.fresh (Nat.le_refl _))
  · subst ex
    obtain ⟨t, rfl⟩ := r1
    cases ha : z.cps.all (· < 128)
    · exact wpAny_pyIter_wide ha (pi_one (tk := s1.toks) I1 _ (turn_str _ z t "str_iterator" (.inr rfl)) ⟨_, Heap.get?_push_size _ rfl, rfl, rfl⟩ q)
    · exact wpAny_pyIter_ascii ha (pi_one (tk := s1.toks) I1 _ (turn_str _ z t "str_ascii_iterator" (.inl rfl)) ⟨_, Heap.get?_push_size _ rfl, rfl, rfl⟩ q)
theorem si_seq (he : SE g E ε te me) : SI g E ε (iSeq g.K te) (bd me itD) := fun U σ H b R rl wd u q =>
  he.step rl wd u q fun v d H1 b1 d1 w1 f1 R1 u1 q1 => by
    cases d with
    | lst ds =>
      obtain ⟨a, vs, rfl, h, n, l, k⟩ := den_lst d1
      exact .inl ⟨a, rfl, ⟨vs, SqL.of h⟩, q1 _ H1 (by rw [← k.length]; exact l) (itd_lst h n k) w1 f1⟩
    | tup ds =>
      obtain ⟨a, vs, rfl, h, l, k⟩ := den_tupE d1
      exact .inr (.inl ⟨a, rfl, ⟨vs, h U H1 Ev.refl⟩, q1 _ H1 (by rw [← k.length]; exact l) (itd_tup h k) w1 f1⟩)
    | str x =>
      obtain ⟨rfl, l⟩ := den_str d1
      exact .inr (.inr ⟨x, rfl, q1 _ H1 (by rw [List.length_map, Array.length_toList]; exact l) (itd_str x) w1 f1⟩)
    | _ => exact q1.elim
def rgD (lo : Int) (n : Nat) : List D := (List.range n).map fun i => .int (lo + (i : Nat))
theorem itd_rg (lo : Int) (n : Nat) : ItD g U H (Itr lo n) (rgD lo n) := fun i U1 H1 b e w u => by
  refine ⟨fun d hd => ?_, fun hl => by unfold rgD at hl; rw [List.length_map, List.length_range] at hl; exact Nat.le_of_eq hl⟩
  unfold rgD at hd
  rw [List.getElem?_map] at hd
  have hi : i < n := by
    cases q : (List.range n)[i]? with
    | none => rw [q] at hd; cases hd
    | some c =>
      have := (List.getElem?_eq_some_iff.mp q).1
      rwa [List.length_range] at this
  rw [List.getElem?_range hi] at hd
  cases hd
  refine ⟨hi, ?_⟩
  rintro y H2 ⟨rfl, rfl⟩
  exact ⟨.int _, fun _ _ z => z⟩
def rg1 (x : D) : Tr (List D) := match x with
  | .int j => if -(2 ^ 62) ≤ j ∧ j ≤ 16777216 then .ok (rgD 0 j.toNat) else .bad
  | _ => .bad
theorem si_rg1 {t : TA} {m : Tr (List D)} (ha : SA g E ε t m) : SI g E ε (iRng1 t) (bd m (ul1 rg1)) := fun U σ H b R rl wd u q =>
  ha.step rl wd u q fun v d H1 b1 d1 w1 f1 R1 u1 q1 => by
    obtain ⟨x, rfl, q2⟩ := al_ul1 q1
    obtain ⟨v, rfl, e1⟩ := denL_1 d1
    cases x with
    | int j =>
      cases den_int e1
      unfold rg1 at q2
      dsimp only at q2
      split at q2
      · rename_i hj
        exact ⟨j, rfl, hj.1, by omega, q2 _ H1 (by unfold rgD; rw [List.length_map, List.length_range, sizeLine_eq]; omega) (itd_rg 0 _) w1 f1⟩
      · exact q2.elim
    | _ => exact q2.elim
def lcF (f : D → Tr (Option D)) : List D → Tr (List D)
  | [] => .ok []
  | x :: xs => bd (f x) fun o => bd (lcF f xs) fun r => .ok (match o with | some y => y :: r | none => r)
theorem lcF_nil (f : D → Tr (Option D)) : lcF f [] = .ok [] := rfl
theorem lcF_cons (f : D → Tr (Option D)) (x : D) (xs : List D) : lcF f (x :: xs) = bd (f x) fun o => bd (lcF f xs) fun r => .ok (match o with | some y => y :: r | none => r) := rfl
def okO (g : Gw) (U : Addr → Prop) (H : Hp) (Q : Option V → Hp → Prop) : Option D → Nat → Prop
  | some y, b => ∀ w H', Den g U H' w y → Wd g H' b → Fr H H' g.p → Q (some w) H'
  | none, b => ∀ H', Wd g H' b → Fr H H' g.p → Q none H'
def SC (g : Gw) (ε : Env) (d : D) (gt : TG) (tt : TT) (te : TE) (vs : List Nat) (m : Tr (Option D)) : Prop := ∀ U σ H b v (Q : Option V → Hp → Prop), Rel g U H σ ε → Wd g H b → UOk g U H → Den g U H v d → Al (okO g U H Q) (fun _ _ _ => False) m b →
  gt v (wipe σ vs) H fun σ2 H2 => wipe σ2 vs = wipe σ vs ∧ tt σ2 H2 fun k H3 => if k = true then te σ2 H3 (fun y H4 => Q (some y) H4) else Q none H3
theorem al_noX {α : Type} {P : α → Nat → Prop} {X : Str → Fs → Nat → Prop} {m : Tr α} (h : Al P X (nox m) b) : Al P (fun _ _ _ => False) m b := al_nox h
theorem se_lc {wi : TI} {gt : TG} {tt : TT} {vs : List Nat} {mi : Tr (List D)} {f : D → Tr (Option D)} (hi : SI g E ε wi mi) (hf : ∀ d, SC g ε d gt tt te vs (f d)) : SE g E ε (tLc wi gt tt te vs) (bd mi fun ds => bd (lcF (fun d => nox (f d)) ds) fun r => .ok (.lst r)) := fun U σ H b Q rl wd u q => by
  refine hi U σ H b _ rl wd u ((al_bd.mp q).mono (fun ds b1 h1 J H1 hsz it w1 f1 => ?_) (fun _ _ _ h => h))
  intro A nA
  have u1 := u.fr f1 w1
  have nUA : ¬ U A := u1.new nA
  have hp : A ≠ g.p := fun z => nUA (z ▸ u.p)
  have hc : A ≠ g.c := fun z => nUA (z ▸ u.c)
  have rl1 := (rl.fr u f1).grow nA
  generalize hV : (fun a => U a ∨ a = A) = V at rl1
  have VA : V A := by rw [← hV]; exact .inr rfl
  have VU : ∀ a, U a → V a := fun a z => by rw [← hV]; exact .inl z
  have VO : ∀ a o, H1 a = some o → ¬ U a → ¬ V a := fun a o e n => by
    rw [← hV]
    rintro (z | z)
    · exact n z
    · exact ne_of_none e nA z
  have uv : ∀ {H' : Hp} {b : Nat} {o : List L2.V}, Fr H1 H' g.p → Wd g H' b → H' A = some (.lst o) → UOk g V H' := fun f w h => ⟨VU _ u.p, VU _ u.c, fun a ha => by
    rw [← hV] at ha
    rcases ha with ha | rfl
    · exact (u1.fr f w).al a ha
    · exact ⟨_, h, fun _ z => by cases z⟩⟩
  refine ⟨fun i m H' => ∃ b' accV accD, m = ds.length - i ∧ i ≤ ds.length ∧ accV.length ≤ i ∧ H' A = some (.lst accV) ∧ DenL g V H' accV accD ∧ Wd g H' b' ∧ Fr H1 H' g.p ∧ Al (fun r b => okP g U H Q (.lst (accD ++ r)) b) (exP g U E H) (lcF (fun d => nox (f d)) (ds.drop i)) b', ?_, ?_⟩
  · refine ⟨ds.length, b1, [], [], by simp, Nat.zero_le _, Nat.zero_le _, upd_same, .nil, w1.same (same_new nA), fr_same (same_new nA), ?_⟩
    exact (al_bd.mp h1).mono (fun r b h => h) (fun _ _ _ h => h)
  · rintro i m H' ⟨b', accV, accD, rfl, hle, hla, hA, dA, w', f', q'⟩
    have u' := uv f' w' hA
    have ev' : Ev U H1 V H' := ⟨fun a o e n t => f' a o e (fun z => n (z ▸ u.p)) t, fun a o e n _ => VO a o e n⟩
    obtain ⟨it1, it2⟩ := it i V H' b' ev' w' u'
    by_cases hlt : i < ds.length
    · have ei : ds[i]? = some ds[i] := List.getElem?_eq_getElem hlt
      obtain ⟨go, y⟩ := it1 _ ei
      rw [List.drop_eq_getElem_cons hlt, lcF_cons] at q'
      refine .inr ⟨go, fun H' => ∃ b' accV accD, accV.length ≤ i + 1 ∧ H' A = some (.lst accV) ∧ DenL g V H' accV accD ∧ Wd g H' b' ∧ Fr H1 H' g.p ∧ Al (fun r b => okP g U H Q (.lst (accD ++ r)) b) (exP g U E H) (lcF (fun d => nox (f d)) (ds.drop (i + 1))) b', ?_, ?_⟩
      · rintro H2 ⟨b2, av, ad, h1, h2⟩
        exact ⟨ds.length - (i + 1), by omega, b2, av, ad, rfl, hlt, h1, h2⟩
      · intro x H2 hy
        obtain ⟨dn, sm⟩ := y x H2 hy
        have w2 := w'.same sm
        have f2 : Fr H1 H2 g.p := f'.trans (fr_same sm)
        have hA2 := sm _ _ hA
        refine hf ds[i] V σ H2 b' x (fun o H4 => match o with
          | some y => ∃ acc, H4 A = some (.lst acc) ∧ acc.length < sizeLine ∧ ∃ b' accV accD, accV.length ≤ i + 1 ∧ (upd H4 A (.lst (acc ++ [y]))) A = some (.lst accV) ∧ DenL g V (upd H4 A (.lst (acc ++ [y]))) accV accD ∧ Wd g (upd H4 A (.lst (acc ++ [y]))) b' ∧ Fr H1 (upd H4 A (.lst (acc ++ [y]))) g.p ∧ Al (fun r b => okP g U H Q (.lst (accD ++ r)) b) (exP g U E H) (lcF (fun d => nox (f d)) (ds.drop (i + 1))) b'
          | none => ∃ b' accV accD, accV.length ≤ i + 1 ∧ H4 A = some (.lst accV) ∧ DenL g V H4 accV accD ∧ Wd g H4 b' ∧ Fr H1 H4 g.p ∧ Al (fun r b => okP g U H Q (.lst (accD ++ r)) b) (exP g U E H) (lcF (fun d => nox (f d)) (ds.drop (i + 1))) b')
          (rl1.frp (VU _ u.p) f2) w2 (uv f2 w2 hA2) dn ((al_noX (al_bd.mp q')).mono (fun o b2 h2 => ?_) (fun _ _ _ z => z))
        have h3 := al_bd.mp h2
        cases o with
        | some y =>
          intro w H4 dw w4 f4
          have hA4 := f4 _ _ hA2 hp (fun _ z => by cases z)
          have e4 : ExtU V H4 (upd H4 A (.lst (accV ++ [w]))) := fun a o e n _ => by
            rw [upd_ne (fun z => n (by rw [z]; exact VA))]
            exact e
          have k4 : Keep H4 (upd H4 A (.lst (accV ++ [w]))) A := fun a o e n => by rw [upd_ne n]; exact e
          refine ⟨accV, hA4, Nat.lt_of_le_of_lt hla (Nat.lt_of_lt_of_le hlt hsz), b2, accV ++ [w], accD ++ [y], ?_, upd_same, ?_, ?_, ?_, ?_⟩
          · rw [List.length_append]
            exact Nat.add_le_add_right hla 1
          · exact DenL.append ((dA.ext (extU_of (VU _ u.p) ((fr_same sm).trans f4))).ext e4) (.cons (dw.ext e4) .nil)
          · exact ⟨w4.pen.keep k4 hp hc, tabs_keepL k4 hA4 w4.tabs⟩
          · intro a o e n t
            rw [upd_ne (ne_of_none e nA)]
            exact f4 _ _ (f2 a o e n t) n t
          · exact h3.mono (fun r b h => by
              have : okP g U H Q (.lst (accD ++ (y :: r))) b := h
              rw [List.append_cons] at this
              exact this) (fun _ _ _ z => z)
        | none =>
          intro H4 w4 f4
          exact ⟨b2, accV, accD, Nat.le_succ_of_le hla, f4 _ _ hA2 hp (fun _ z => by cases z), dA.ext (extU_of (VU _ u.p) ((fr_same sm).trans f4)), w4, f2.trans f4, h3.mono (fun r b h => h) (fun _ _ _ z => z)⟩
    · have e : i = ds.length := by omega
      subst e
      rw [List.drop_length, lcF_nil] at q'
      refine .inl ⟨it2 (rfl), ?_⟩
      have q2 : okP g U H Q (.lst (accD ++ [])) b' := q'
      rw [List.append_nil] at q2
      exact q2 _ H' (.lst hA nUA (Nat.le_trans hla hsz) (dA.sub fun a _ z => VU a z)) w' (f1.trans f')
end
end Gp
end
section
set_option Elab.async false
set_option linter.all false
set_option maxRecDepth 100000
set_option maxHeartbeats 4000000
namespace Gp
open PySem PySem.Spec PyProof.Rows L2 Gh
section
variable {g : Gw} {Mt U0 U U' : Addr → Prop} {H0 H H' H1 H2 : Hp} {b b1 : Nat} {σ : L2.St} {ε ε' : Env} {E : XK} {W L W' : Type}
variable {env : W → Env} {envL : L → Env} {env' : W' → Env} {u ta tb : TS} {te : TE} {me : Tr D}
theorem sc_name {i : Nat} {d : D} {tt : TT} {mt : Tr Bool} (ht : ST g EF (ε.set i (.fz d)) tt mt) (he : SE g EF (ε.set i (.fz d)) te me) : SC g ε d (gName i) tt te [i] (bd mt fun k => if k = true then bd me fun y => .ok (some y) else .ok none) := fun U σ H b v Q rl wd u dn q => by
  have e1 : wipe σ [i] = σ.set i none := rfl
  rw [e1]
  show wipe ((σ.set i none).set i (some v)) [i] = _ ∧ _
  rw [List.set_set]
  refine ⟨?_, ?_⟩
  · show (σ.set i (some v)).set i none = _
    rw [List.set_set]
  · refine ht.step (rl.set i dn) wd u (q.mono (fun _ _ z => z) (fun _ _ _ z => exP.F z)) fun k H1 b1 w1 f1 R1 u1 q1 => ?_
    cases k with
    | true =>
      refine he.step R1 w1 u1 q1 fun y e H2 b2 d2 w2 f2 R2 u2 q2 => ?_
      exact q2 y H2 d2 w2 (f1.trans f2)
    | false => exact q1 H1 w1 f1
theorem sc_map {i : Nat} {d : D} (he : SE g EF (ε.set i (.fz d)) te me) : SC g ε d (gName i) tYes te [i] (bd me fun y => .ok (some y)) := fun U σ H b v Q rl wd u dn q => by
  have e1 : wipe σ [i] = σ.set i none := rfl
  rw [e1]
  show wipe ((σ.set i none).set i (some v)) [i] = _ ∧ _
  rw [List.set_set]
  refine ⟨?_, ?_⟩
  · show (σ.set i (some v)).set i none = _
    rw [List.set_set]
  · show te (σ.set i (some v)) H fun y H4 => Q (some y) H4
    refine he.step (rl.set i dn) wd u (q.mono (fun _ _ z => z) (fun _ _ _ z => exP.F z)) fun y e H2 b2 d2 w2 f2 R2 u2 q2 => ?_
    exact q2 y H2 d2 w2 f2
theorem ownAt_setO {i j : Nat} {v : V} {ds : List D} {a : Addr} (h : OwnAt (σ.set i (some v)) (ε.set i (.ow ds)) j a) : (i = j ∧ v = .ref a) ∨ (i ≠ j ∧ OwnAt σ ε j a) := by
  obtain ⟨h1, h2⟩ := h
  by_cases e : i = j
  · subst e
    rw [List.getElem?_set_self'] at h1
    cases q : σ[i]? with
    | none => rw [q] at h1; cases h1
    | some z => rw [q] at h1; cases h1; exact .inl ⟨rfl, rfl⟩
  · rw [List.getElem?_set_ne e] at h1 h2
    exact .inr ⟨e, h1, h2⟩
def okN (g : Gw) (U : Addr → Prop) (H : Hp) (Q : VK) : List D → Nat → Prop := fun ds b => ∀ A vs H1, H1 A = none → vs.length ≤ sizeLine → DenL g U H1 vs ds → Wd g H1 b → Fr H H1 g.p → Q (.ref A) (upd H1 A (.lst vs))
def SN (g : Gw) (E : XK) (ε : Env) (t : TE) (m : Tr (List D)) : Prop := ∀ U σ H b Q, Rel g U H σ ε → Wd g H b → UOk g U H → Al (okN g U H Q) (exP g U E H) m b → t σ H Q
theorem own_mut {vs' : List V} {ds ds' : List D} {i : Nat} (s : Stt g Mt U0 H0 U σ H b ε) (hi : ε[i]? = some (.ow ds)) : ∃ a vs, σ[i]? = some (some (.ref a)) ∧ H a = some (.lst vs) ∧ vs.length ≤ sizeLine ∧ DenL g U H vs ds ∧ U a ∧ a ≠ g.p ∧ a ≠ g.c ∧
    ∀ vs' ds', vs'.length ≤ sizeLine → DenL g U H vs' ds' → Stt g Mt U0 H0 U σ (upd H a (.lst vs')) b (ε.set i (.ow ds')) ∧ Ev U H U (upd H a (.lst vs')) := by
  obtain ⟨o, eo, a, vs, rfl, h, l, dn, ua, n1, n2⟩ := s.rel.at_ i _ hi
  refine ⟨a, vs, eo, h, l, dn, ua, n1, n2, fun vs' ds' l' dn' => ?_⟩
  have kp : Keep H (upd H a (.lst vs')) a := fun x o e ne => by rw [upd_ne ne]; exact e
  have xt : ExtU U H (upd H a (.lst vs')) := fun x o e ne _ => kp x o e (fun z => ne (z ▸ ua))
  have il : i < ε.length := (List.getElem?_eq_some_iff.mp hi).1
  have ow : ∀ j x, OwnAt σ (ε.set i (.ow ds')) j x → OwnAt σ ε j x := fun j x z => by
    obtain ⟨z1, z2⟩ := z
    by_cases q : i = j
    · subst q
      exact ⟨z1, .inl ⟨ds, hi⟩⟩
    · rw [List.getElem?_set_ne q] at z2
      exact ⟨z1, z2⟩
  have apart : ∀ j x, i ≠ j → OwnAt σ ε j x → x ≠ a := fun j x ne z e => by
    subst e
    exact s.rel.apart i j x ne ⟨eo, .inl ⟨ds, hi⟩⟩ z
  refine ⟨⟨⟨by rw [List.length_set]; exact s.rel.len, fun j x e => ?_, fun j k x ne z1 z2 => s.rel.apart j k x ne (ow _ _ z1) (ow _ _ z2)⟩, ⟨s.wd.pen.keep kp n1 n2, tabs_keepL kp h s.wd.tabs⟩, ⟨s.uok.p, s.uok.c, fun x hx => ?_⟩, s.sub, fun j x z => s.own j x (ow _ _ z), fun x o e m1 m2 m3 => ?_, fun j xs x e1 e2 => ?_, fun j c fs x e1 e2 => ?_⟩, xt, fun _ _ _ n _ => n⟩
  · by_cases q : i = j
    · subst q
      rw [List.getElem?_set_self il] at e
      cases e
      exact ⟨_, eo, a, vs', rfl, upd_same, l', dn'.ext xt, ua, n1, n2⟩
    · rw [List.getElem?_set_ne q] at e
      obtain ⟨o, e1, e2⟩ := s.rel.at_ j x e
      refine ⟨o, e1, ?_⟩
      cases x with
      | no => trivial
      | fz d =>
        obtain ⟨v, e3, e4⟩ := e2
        exact ⟨v, e3, e4.ext xt⟩
      | ow ds2 =>
        obtain ⟨a2, v2, rfl, h2, l2, d2, u2, m1, m2⟩ := e2
        have ne := apart j a2 q ⟨e1, .inl ⟨ds2, e⟩⟩
        exact ⟨a2, v2, rfl, kp _ _ h2 ne, l2, d2.ext xt, u2, m1, m2⟩
      | oi c fs =>
        obtain ⟨a2, dx, v2, rfl, h2, d2, u2, m1, m2⟩ := e2
        have ne := apart j a2 q ⟨e1, .inr ⟨c, fs, e⟩⟩
        exact ⟨a2, dx, v2, rfl, kp _ _ h2 ne, d2.ext xt, u2, m1, m2⟩
  · by_cases q : x = a
    · subst q
      exact ⟨_, upd_same, fun _ z => by cases z⟩
    · obtain ⟨o, e, t⟩ := s.uok.al x hx
      exact ⟨o, kp x o e q, t⟩
  · have q : x ≠ a := fun z => by
      subst z
      rcases s.own i x ⟨eo, .inl ⟨ds, hi⟩⟩ with w | w
      · exact m2 w
      · obtain ⟨ps, z⟩ := w o e
        exact m3 ps z
    exact kp x o (s.ext x o e m1 m2 m3) q
  · by_cases q : i = j
    · subst q
      exact s.nu0 i ds x hi e2
    · rw [List.getElem?_set_ne q] at e1
      exact s.nu0 j xs x e1 e2
  · by_cases q : i = j
    · subst q
      rw [List.getElem?_set_self il] at e1
      cases e1
    · rw [List.getElem?_set_ne q] at e1
      exact s.oim j c fs x e1 e2
theorem ss_fz {i : Nat} {ds : List D} {m : Tr (Fl W L)} (hi : ε[i]? = some (.ow ds)) (h : SS g E (ε.set i (.fz (.lst ds))) u env envL m) : SS g E ε u env envL m := fun Mt U0 H0 U D σ H b s q => by
  obtain ⟨a, vs, e1, h1, l1, d1, ua, n1, n2, _⟩ := own_mut (vs' := []) (ds' := []) s hi
  have il : i < ε.length := (List.getElem?_eq_some_iff.mp hi).1
  have sub : ∀ x, (∃ o, H x = some o) → (U x ∧ x ≠ a) → U x := fun x _ z => z.1
  have ow : ∀ j x, OwnAt σ (ε.set i (.fz (.lst ds))) j x → i ≠ j ∧ OwnAt σ ε j x := fun j x z => by
    obtain ⟨z1, z2⟩ := z
    by_cases q : i = j
    · subst q
      exfalso
      rcases z2 with ⟨y, z2⟩ | ⟨y1, y2, z2⟩
      · rw [List.getElem?_set_self il] at z2
        cases z2
      · rw [List.getElem?_set_self il] at z2
        cases z2
    · rw [List.getElem?_set_ne q] at z2
      exact ⟨q, z1, z2⟩
  have apart : ∀ j x, i ≠ j → OwnAt σ ε j x → x ≠ a := fun j x ne z e => by
    subst e
    exact s.rel.apart i j x ne ⟨e1, .inl ⟨ds, hi⟩⟩ z
  have ev : Ev U H (fun x => U x ∧ x ≠ a) H := ⟨fun _ _ e _ _ => e, fun _ _ _ n _ z => n z.1⟩
  refine h Mt U0 H0 (fun x => U x ∧ x ≠ a) D σ H b ⟨⟨by rw [List.length_set]; exact s.rel.len, fun j x e => ?_, fun j k x ne z1 z2 => s.rel.apart j k x ne (ow _ _ z1).2 (ow _ _ z2).2⟩, s.wd, ⟨⟨s.uok.p, n1.symm⟩, ⟨s.uok.c, n2.symm⟩, fun x hx => s.uok.al x hx.1⟩, fun x z => ⟨s.sub x z, fun e => s.nu0 i ds x hi (by rw [e1, e]) z⟩, fun j x z => s.own j x (ow _ _ z).2, s.ext, fun j xs x z1 z2 => ?_, fun j c fs x z1 z2 => ?_⟩ (q.mono (fun _ _ z => z.ev ev) (fun _ _ _ z => z))
  · by_cases q : i = j
    · subst q
      rw [List.getElem?_set_self il] at e
      cases e
      exact ⟨_, e1, _, rfl, .lst h1 (fun z => z.2 rfl) l1 (d1.sub sub)⟩
    · rw [List.getElem?_set_ne q] at e
      obtain ⟨o, e3, e2⟩ := s.rel.at_ j x e
      refine ⟨o, e3, ?_⟩
      cases x with
      | no => trivial
      | fz d =>
        obtain ⟨v, e4, e5⟩ := e2
        exact ⟨v, e4, e5.sub sub⟩
      | ow ds2 =>
        obtain ⟨a2, v2, rfl, h2, l2, d2, u2, m1, m2⟩ := e2
        have ne := apart j a2 q ⟨e3, .inl ⟨ds2, e⟩⟩
        exact ⟨a2, v2, rfl, h2, l2, d2.sub sub, ⟨u2, ne⟩, m1, m2⟩
      | oi c fs =>
        obtain ⟨a2, dx, v2, rfl, h2, d2, u2, m1, m2⟩ := e2
        have ne := apart j a2 q ⟨e3, .inr ⟨c, fs, e⟩⟩
        exact ⟨a2, dx, v2, rfl, h2, d2.sub sub, ⟨u2, ne⟩, m1, m2⟩
  · obtain ⟨q, _, z3⟩ := ow j x ⟨z2, .inl ⟨xs, z1⟩⟩
    rw [List.getElem?_set_ne q] at z1
    exact s.nu0 j xs x z1 z2
  · by_cases q : i = j
    · subst q
      rw [List.getElem?_set_self il] at z1
      cases z1
    · rw [List.getElem?_set_ne q] at z1
      exact s.oim j c fs x z1 z2
end
end Gp
end
section
set_option Elab.async false
set_option linter.all false
set_option maxRecDepth 100000
set_option maxHeartbeats 4000000
namespace Gp
open PySem PySem.Spec PyProof.Rows L2 Gh
section
variable {g : Gw} {Mt U0 U U' : Addr → Prop} {H0 H H' H1 H2 : Hp} {b b1 : Nat} {σ : L2.St} {ε ε' : Env} {E : XK} {W L W' : Type}
variable {env : W → Env} {envL : L → Env} {env' : W' → Env} {u ta tb : TS} {te : TE} {me : Tr D}
def spF (K : PySem.W.Frag) (T : List (Addr × Str)) (F : List D → Tr D) : Sp := fun vs H Q E => ∃ p c U ds b, DenL ⟨K, T, p, c⟩ U H vs ds ∧ Wd ⟨K, T, p, c⟩ H b ∧ UOk ⟨K, T, p, c⟩ U H ∧ Al (okP ⟨K, T, p, c⟩ U H Q) (exP ⟨K, T, p, c⟩ U E H) (F ds) b
def envE : Empty → Env := fun e => nomatch e
theorem rel_start {N : List Str} {vs : List V} {ds : List D} (h : DenL g U H vs ds) : Rel g U H (L2.start N vs) (ds.map Sl.fz ++ List.replicate (N.length - ds.length) Sl.no) := by
  have no : ∀ i a, ¬ OwnAt (L2.start N vs) (ds.map Sl.fz ++ List.replicate (N.length - ds.length) Sl.no) i a := fun i a ⟨_, z⟩ => by
    have : ∀ s : Sl, (ds.map Sl.fz ++ List.replicate (N.length - ds.length) Sl.no)[i]? = some s → (∃ d, s = .fz d) ∨ s = .no := fun s e => by
      have m := List.mem_of_getElem? e
      rcases List.mem_append.mp m with m | m
      · obtain ⟨d, _, e⟩ := List.mem_map.mp m
        exact .inl ⟨d, e.symm⟩
      · exact .inr (List.mem_replicate.mp m).2
    rcases z with ⟨x, z⟩ | ⟨x, y, z⟩
    · rcases this _ z with ⟨d, e⟩ | e <;> cases e
    · rcases this _ z with ⟨d, e⟩ | e <;> cases e
  have hl := h.length
  refine ⟨?_, fun i s e => ?_, fun i j a _ h1 _ => (no i a h1).elim⟩
  · unfold L2.start
    simp only [List.length_append, List.length_map, List.length_replicate, hl]
  · unfold L2.start
    by_cases q : i < ds.length
    · rw [List.getElem?_append_left (by rw [List.length_map]; exact q), List.getElem?_map] at e
      rw [List.getElem?_append_left (by rw [List.length_map, hl]; exact q), List.getElem?_map]
      cases z : ds[i]? with
      | none => rw [z] at e; cases e
      | some d =>
        rw [z] at e
        cases e
        obtain ⟨v, hv, dn⟩ := h.getD z
        rw [hv]
        exact ⟨some v, rfl, v, rfl, dn⟩
    · rw [List.getElem?_append_right (by rw [List.length_map]; omega), List.length_map] at e
      rw [List.getElem?_append_right (by rw [List.length_map, hl]; omega), List.length_map, hl]
      have m := List.mem_of_getElem? e
      obtain ⟨n0, rfl⟩ := List.mem_replicate.mp m
      have i1 := (List.getElem?_eq_some_iff.mp e).1
      rw [List.length_replicate] at i1
      exact ⟨none, by rw [List.getElem?_replicate, if_pos i1], trivial⟩
theorem fn_of {K : PySem.W.Frag} {T : List (Addr × Str)} {N : List Str} {F : List D → Tr D} {vs : List V} {Q : VK} {t : TS} {envU : Unit → Env} (h : spF K T F vs H Q E)
    (hs : ∀ p c ds, (∃ (P : D → Nat → Prop) (X : Str → Fs → Nat → Prop) (b : Nat), Al P X (F ds) b) → ∃ m, F ds = fin m ∧ SS ⟨K, T, p, c⟩ E (ds.map Sl.fz ++ List.replicate (N.length - ds.length) Sl.no) t envU envE m) : t { nx := fun _ H' => Q .non H', rt := Q } (L2.start N vs) H := by
  obtain ⟨p, c, U, ds, b, dn, wd, u, al⟩ := h
  obtain ⟨m, e, ss⟩ := hs p c ds ⟨_, _, _, al⟩
  rw [e] at al
  have nn : ∀ i a, ¬ OwnAt (L2.start N vs) (ds.map Sl.fz ++ List.replicate (N.length - ds.length) Sl.no) i a := fun i a ⟨_, z⟩ => by
    have : ∀ s : Sl, (ds.map Sl.fz ++ List.replicate (N.length - ds.length) Sl.no)[i]? = some s → (∃ d, s = .fz d) ∨ s = .no := fun s e => by
      have m := List.mem_of_getElem? e
      rcases List.mem_append.mp m with m | m
      · obtain ⟨d, _, e⟩ := List.mem_map.mp m
        exact .inl ⟨d, e.symm⟩
      · exact .inr (List.mem_replicate.mp m).2
    rcases z with ⟨x, z⟩ | ⟨x, y, z⟩
    · rcases this _ z with ⟨d, e⟩ | e <;> cases e
    · rcases this _ z with ⟨d, e⟩ | e <;> cases e
  refine ss (fun _ => False) U H U _ _ H b ⟨rel_start dn, wd, u, fun _ z => z, fun i a z => (nn i a z).elim, fun _ _ z _ _ _ => z, fun i ds' a z1 z2 => (nn i a ⟨z2, .inl ⟨ds', z1⟩⟩).elim, fun i c fs a z1 z2 => (nn i a ⟨z2, .inr ⟨c, fs, z1⟩⟩).elim⟩ ((al_bd.mp al).mono (fun f b1 h1 => ?_) (fun c fs b1 h1 => ?_))
  · cases f with
    | nx w => exact fun U' σ' H' e s => h1 .non H' .non s.wd fun a o z1 z2 z3 => s.ext a o z1 z2 (fun z => z) z3
    | rt d => exact fun v H' dn w f => h1 v H' dn w fun a o z1 z2 z3 => f a o z1 z2 (fun z => z) z3
    | bk e => exact nomatch e
    | ct e => exact nomatch e
  · exact fun dd fvs H' z1 z2 z3 z4 z5 => h1 dd fvs H' z1 z2 z3 z4 fun a o y1 y2 y3 => z5 a o y1 y2 (fun z => z) y3
theorem le_no : ∀ (ε : Env) {n : Nat}, ε.length = n → Le (List.replicate n Sl.no) ε
  | [], _, rfl => .nil
  | x :: r, _, rfl => by
    show Le (List.replicate (r.length + 1) Sl.no) (x :: r)
    rw [List.replicate_succ]
    exact .n (le_no r rfl)
theorem fn_of1 {K : PySem.W.Frag} {T : List (Addr × Str)} {N : List Str} {F : D → Tr D} {vs : List V} {Q : VK} {t : TS} {envU : Unit → Env} {m : D → Tr (Fl Unit Empty)} (h : spF K T (ul1 F) vs H Q E) (hF : ∀ x, F x = fin (m x)) (hs : ∀ p c x, SS ⟨K, T, p, c⟩ E ([x].map Sl.fz ++ List.replicate (N.length - 1) Sl.no) t envU envE (m x)) : t { nx := fun _ H' => Q .non H', rt := Q } (L2.start N vs) H :=
  fn_of h fun p c ds ⟨_, _, _, al⟩ => by
    obtain ⟨x, rfl, _⟩ := al_ul1 al
    exact ⟨m x, hF x, hs p c x⟩
theorem fn_of2 {K : PySem.W.Frag} {T : List (Addr × Str)} {N : List Str} {F : D → D → Tr D} {vs : List V} {Q : VK} {t : TS} {envU : Unit → Env} {m : D → D → Tr (Fl Unit Empty)} (h : spF K T (ul2 F) vs H Q E) (hF : ∀ x y, F x y = fin (m x y)) (hs : ∀ p c x y, SS ⟨K, T, p, c⟩ E ([x, y].map Sl.fz ++ List.replicate (N.length - 2) Sl.no) t envU envE (m x y)) : t { nx := fun _ H' => Q .non H', rt := Q } (L2.start N vs) H :=
  fn_of h fun p c ds ⟨_, _, _, al⟩ => by
    obtain ⟨x, y, rfl, _⟩ := al_ul2 al
    exact ⟨m x y, hF x y, hs p c x y⟩
theorem fn_of3 {K : PySem.W.Frag} {T : List (Addr × Str)} {N : List Str} {F : D → D → D → Tr D} {vs : List V} {Q : VK} {t : TS} {envU : Unit → Env} {m : D → D → D → Tr (Fl Unit Empty)} (h : spF K T (ul3 F) vs H Q E) (hF : ∀ x y z, F x y z = fin (m x y z)) (hs : ∀ p c x y z, SS ⟨K, T, p, c⟩ E ([x, y, z].map Sl.fz ++ List.replicate (N.length - 3) Sl.no) t envU envE (m x y z)) : t { nx := fun _ H' => Q .non H', rt := Q } (L2.start N vs) H :=
  fn_of h fun p c ds ⟨_, _, _, al⟩ => by
    obtain ⟨x, y, z, rfl, _⟩ := al_ul3 al
    exact ⟨m x y z, hF x y z, hs p c x y z⟩
theorem fn_of4 {K : PySem.W.Frag} {T : List (Addr × Str)} {N : List Str} {F : D → D → D → D → Tr D} {vs : List V} {Q : VK} {t : TS} {envU : Unit → Env} {m : D → D → D → D → Tr (Fl Unit Empty)} (h : spF K T (ul4 F) vs H Q E) (hF : ∀ x y z w, F x y z w = fin (m x y z w)) (hs : ∀ p c x y z w, SS ⟨K, T, p, c⟩ E ([x, y, z, w].map Sl.fz ++ List.replicate (N.length - 4) Sl.no) t envU envE (m x y z w)) : t { nx := fun _ H' => Q .non H', rt := Q } (L2.start N vs) H :=
  fn_of h fun p c ds ⟨_, _, _, al⟩ => by
    obtain ⟨x, y, z, w, rfl, _⟩ := al_ul4 al
    exact ⟨m x y z w, hF x y z w, hs p c x y z w⟩
theorem spF_len {K : PySem.W.Frag} {T : List (Addr × Str)} {F : List D → Tr D} {n : Nat} (hn : ∀ (P : D → Nat → Prop) (X : Str → Fs → Nat → Prop) ds b, Al P X (F ds) b → ds.length = n) {vs : List V} {Q : VK} (h : spF K T F vs H Q E) : vs.length = n := by
  obtain ⟨p, c, U, ds, b, dn, wd, u, al⟩ := h
  rw [dn.length]
  exact hn _ _ _ _ al
theorem len1 {F : D → Tr D} (P : D → Nat → Prop) (X : Str → Fs → Nat → Prop) (ds : List D) (b : Nat) (h : Al P X (ul1 F ds) b) : ds.length = 1 := by obtain ⟨_, rfl, _⟩ := al_ul1 h; rfl
theorem len2 {F : D → D → Tr D} (P : D → Nat → Prop) (X : Str → Fs → Nat → Prop) (ds : List D) (b : Nat) (h : Al P X (ul2 F ds) b) : ds.length = 2 := by obtain ⟨_, _, rfl, _⟩ := al_ul2 h; rfl
theorem len3 {F : D → D → D → Tr D} (P : D → Nat → Prop) (X : Str → Fs → Nat → Prop) (ds : List D) (b : Nat) (h : Al P X (ul3 F ds) b) : ds.length = 3 := by obtain ⟨_, _, _, rfl, _⟩ := al_ul3 h; rfl
theorem len4 {F : D → D → D → D → Tr D} (P : D → Nat → Prop) (X : Str → Fs → Nat → Prop) (ds : List D) (b : Nat) (h : Al P X (ul4 F ds) b) : ds.length = 4 := by obtain ⟨_, _, _, _, rfl, _⟩ := al_ul4 h; rfl
theorem srl_sp0 {F : List D → Tr D} : SRL g E (rSp (spF g.K g.T F) [] E) F := fun U H b xs dxs Q dn wd u q =>
  ⟨g.p, g.c, U, dxs, b, by rw [List.append_nil]; exact dn, wd, u, q⟩
theorem al_isO {α : Type} {P : α → Nat → Prop} {X : Str → Fs → Nat → Prop} {c : Str} {o : D} {k : Fs → Tr α} (h : Al P X (isO c o k) b) : ∃ fs, o = .obj c fs ∧ Al P X (k fs) b := by
  unfold isO at h
  split at h
  · split at h
    · rename_i e
      subst e
      exact ⟨_, rfl, h⟩
    · exact h.elim
  · exact h.elim
theorem den_obj {v : V} {c : Str} {fs : Fs} (h : Den g U H v (.obj c fs)) : ∃ a dx fvs, v = .ref a ∧ H a = some (.ins (gd c g.K) dx fvs) ∧ ¬ U a ∧ DenF g U H fvs fs := by
  cases h with
  | obj h n k => exact ⟨_, _, _, rfl, h, n, k⟩
theorem se_mt {c m : Str} {r : List V → Hp → VK → Prop} {f : List D → Tr D} {ta : TE} {ma : Tr D} {t : TA} {mt : Tr (List D)} (hr : SRL g E r f) (ha : SE g E ε ta ma) (ht : SA g E ε t mt) :
    SE g E ε (tMt (gd c g.K) m r ta t) (bd ma fun o => isO c o fun fs => if fs.lookup m = none then bd mt fun ds => f (o :: ds) else .bad) := fun U σ H b Q R W u q =>
  ha.step R W u q fun v d H1 b1 d1 w1 f1 R1 u1 q1 => by
    obtain ⟨fs, rfl, q2⟩ := al_isO q1
    obtain ⟨a, dx, fvs, rfl, ea, na, df⟩ := den_obj d1
    by_cases hl : fs.lookup m = none
    · rw [if_pos hl] at q2
      refine ⟨a, dx, fvs, rfl, ea, df.look0 hl, ?_⟩
      refine ht.step R1 w1 u1 q2 fun vs ds H2 b2 d2 w2 f2 R2 u2 q3 => ?_
      exact hr U H2 b2 _ _ Q (.cons (d1.fr u1 f2) d2) w2 u2 (q3.mono (fun _ _ h => h.fr (f1.trans f2)) (fun _ _ _ h => h))
    · rw [if_neg hl] at q2
      exact q2.elim
theorem se_pr {c : Str} {F : List D → Tr D} {ta : TE} {ma : Tr D} (ha : SE g EF ε ta ma) : SE g EF ε (tPr (gd c g.K) (spF g.K g.T F) [] EF ta) (bd ma fun o => isO c o fun _ => F [o]) := fun U σ H b Q R W u q =>
  ha.step R W u q fun v d H1 b1 d1 w1 f1 R1 u1 q1 => by
    obtain ⟨fs, rfl, q2⟩ := al_isO q1
    obtain ⟨a, dx, fvs, rfl, ea, na, df⟩ := den_obj d1
    exact ⟨a, dx, fvs, rfl, ea, g.p, g.c, U, [.obj c fs], b1, .cons d1 .nil, w1, u1, q2.mono (fun _ _ h => h.fr f1) (fun _ _ _ h => h)⟩
def fldD (c f : Str) (o : D) : Tr D := isO c o fun fs => match fs.lookup f with
  | some d => .ok d
  | none => .bad
theorem sr_fld {c f : Str} : SR1 g E (rFld (gd c g.K) f) (fldD c f) := fun U H b x dx Q dn wd u q => by
  obtain ⟨fs, rfl, q2⟩ := al_isO q
  obtain ⟨a, dx, fvs, rfl, ea, na, df⟩ := den_obj dn
  cases e : fs.lookup f with
  | none => rw [e] at q2; exact q2.elim
  | some d =>
    rw [e] at q2
    obtain ⟨v, hv, d1⟩ := df.look e
    exact st_fld ea hv (okP.here q2 wd d1)
def spI (K : PySem.W.Frag) (T : List (Addr × Str)) (cn : Str) (F : Fs → List D → Tr Fs) : Sp := fun vs H Q E => ∃ p c U ds b x dx fvs fs rest, vs = .ref x :: rest ∧ H x = some (.ins (gd cn K) dx fvs) ∧ DenF ⟨K, T, p, c⟩ U H fvs fs ∧ U x ∧ x ≠ p ∧ x ≠ c ∧ DenL ⟨K, T, p, c⟩ U H rest ds ∧
  Wd ⟨K, T, p, c⟩ H b ∧ UOk ⟨K, T, p, c⟩ U H ∧ Al (fun fs' b' => ∀ dx' fvs' H', H' x = some (.ins (gd cn K) dx' fvs') → DenF ⟨K, T, p, c⟩ U H' fvs' fs' → Wd ⟨K, T, p, c⟩ H' b' → FrM ⟨K, T, p, c⟩ (· = x) H H' → Q .non H')
    (fun cn fs b => ∀ dd fvs H', H' dd = some (.xd fvs) → ¬ U dd → DenF ⟨K, T, p, c⟩ U H' fvs fs → Wd ⟨K, T, p, c⟩ H' b → FrM ⟨K, T, p, c⟩ (· = x) H H' → E (.ref (gd cn K)) (some dd) H') (F fs ds) b
theorem srl_mk {cn : Str} {F : Fs → List D → Tr Fs} {dvs : List V} {dds : List D} (hd : ∀ U H, DenL g U H dvs dds) : SRL g E (rMk (gd cn g.K) (spI g.K g.T cn F) dvs E) (fun ds => bd (F [] (ds ++ dds)) fun fs => .ok (.obj cn fs)) := fun U H b xs dxs Q dn wd u q => by
  unfold rMk
  intro x dx nx ndx ne
  have s1 : L2.Same H (upd (upd H dx (.own x)) x (.ins (gd cn g.K) dx [])) := fun a o e => by
    rw [upd_ne (ne_of_none e nx), upd_ne (ne_of_none e ndx)]
    exact e
  have nU : ¬ U x := u.new nx
  have hp : x ≠ g.p := fun z => nU (z ▸ u.p)
  have hc : x ≠ g.c := fun z => nU (z ▸ u.c)
  have sx : ∀ a, (∃ o, H a = some o) → (U a ∨ a = x) → U a := fun a ⟨o, e⟩ z => z.elim (fun z => z) (fun z => (ne_of_none e nx z).elim)
  have k1 : DenL g (fun a => U a ∨ a = x) (upd (upd H dx (.own x)) x (.ins (gd cn g.K) dx [])) (xs ++ dvs) (dxs ++ dds) := ((dn.append (hd U H)).grow nx).ext (fun a o e _ _ => s1 a o e)
  have k2 : UOk g (fun a => U a ∨ a = x) (upd (upd H dx (.own x)) x (.ins (gd cn g.K) dx [])) := ⟨.inl u.p, .inl u.c, fun a ha => by
    rcases ha with ha | rfl
    · obtain ⟨o, e, t⟩ := u.al a ha
      exact ⟨o, s1 a o e, t⟩
    · exact ⟨_, upd_same, fun _ z => by cases z⟩⟩
  have fr : ∀ {H' : Hp}, FrM g (· = x) (upd (upd H dx (.own x)) x (.ins (gd cn g.K) dx [])) H' → Fr H H' g.p := fun f1 a o e n t => f1 a o (s1 a o e) n (fun z => ne_of_none e nx z) t
  exact ⟨g.p, g.c, fun a => U a ∨ a = x, dxs ++ dds, b, x, dx, [], [], xs ++ dvs, rfl, upd_same, .nil, .inr rfl, hp, hc, k1, wd.same s1, k2,
    (al_bd.mp q).mono (fun fs b1 h1 dx' fvs' H' e1 d1 w1 f1 => ⟨rfl, h1 _ H' (.obj e1 nU (d1.sub fun a _ z => .inl z)) w1 (fr f1)⟩) (fun c fs b1 h1 dd fvs H' e1 n1 d1 w1 f1 => h1 dd fvs H' e1 (fun z => n1 (.inl z)) (d1.sub fun a _ z => .inl z) w1 (fr f1))⟩
theorem srl_mk0 {cn : Str} {F : Fs → List D → Tr Fs} : SRL g E (rMk (gd cn g.K) (spI g.K g.T cn F) [] E) (fun ds => bd (F [] ds) fun fs => .ok (.obj cn fs)) := by
  have h := srl_mk (g := g) (E := E) (cn := cn) (F := F) (dvs := []) (dds := []) (fun _ _ => .nil)
  intro U H b xs dxs Q dn wd u q
  refine h U H b xs dxs Q dn wd u ?_
  show Al _ _ (bd (F [] (dxs ++ [])) _) b
  rw [List.append_nil]
  exact q
def finI (m : Tr (Fl Fs Empty)) : Tr Fs := bd m fun f => match f with
  | .nx fs => .ok fs
  | .rt _ => .bad
  | .bk e => nomatch e
  | .ct e => nomatch e
theorem ini_of {K : PySem.W.Frag} {T : List (Addr × Str)} {N : List Str} {cn : Str} {F : Fs → List D → Tr Fs} {vs : List V} {Q : VK} {t : TS} {envI : Fs → Env} (h : spI K T cn F vs H Q E)
    (hs : ∀ p c fs ds, (∃ (P : Fs → Nat → Prop) (X : Str → Fs → Nat → Prop) (b : Nat), Al P X (F fs ds) b) → ∃ m, F fs ds = finI m ∧ SS ⟨K, T, p, c⟩ E (.oi cn fs :: (ds.map Sl.fz ++ List.replicate (N.length - (ds.length + 1)) Sl.no)) t envI envE m)
    (he : ∀ fs, (envI fs)[0]? = some (.oi cn fs)) : t { nx := fun _ H' => Q .non H', rt := Q } (L2.start N vs) H := by
  obtain ⟨p, c, U, ds, b, x, dx, fvs, fs, rest, rfl, hx, df, ux, np, nc, dn, wd, u, al⟩ := h
  obtain ⟨m, e, ss⟩ := hs p c fs ds ⟨_, _, _, al⟩
  rw [e] at al
  have st0 : L2.start N (.ref x :: rest) = some (.ref x) :: (rest.map some ++ List.replicate (N.length - (rest.length + 1)) none) := rfl
  have r1 : Rel ⟨K, T, p, c⟩ U H (rest.map some ++ List.replicate (N.length - (rest.length + 1)) none) (ds.map Sl.fz ++ List.replicate (N.length - (ds.length + 1)) Sl.no) := by
    have z := rel_start (g := ⟨K, T, p, c⟩) (N := N.drop 1) dn
    unfold L2.start at z
    rw [List.length_drop, Nat.sub_sub, Nat.sub_sub, Nat.add_comm 1, Nat.add_comm 1] at z
    exact z
  have nn : ∀ i a, ¬ OwnAt (rest.map some ++ List.replicate (N.length - (rest.length + 1)) none) (ds.map Sl.fz ++ List.replicate (N.length - (ds.length + 1)) Sl.no) i a := fun i a ⟨_, z⟩ => by
    have : ∀ s : Sl, (ds.map Sl.fz ++ List.replicate (N.length - (ds.length + 1)) Sl.no)[i]? = some s → (∃ d, s = .fz d) ∨ s = .no := fun s e => by
      have m := List.mem_of_getElem? e
      rcases List.mem_append.mp m with m | m
      · obtain ⟨d, _, e⟩ := List.mem_map.mp m
        exact .inl ⟨d, e.symm⟩
      · exact .inr (List.mem_replicate.mp m).2
    rcases z with ⟨x, z⟩ | ⟨x, y, z⟩
    · rcases this _ z with ⟨d, e⟩ | e <;> cases e
    · rcases this _ z with ⟨d, e⟩ | e <;> cases e
  have own : ∀ i a, OwnAt (L2.start N (.ref x :: rest)) (.oi cn fs :: (ds.map Sl.fz ++ List.replicate (N.length - (ds.length + 1)) Sl.no)) i a → i = 0 ∧ a = x := fun i a z => by
    rw [st0] at z
    obtain ⟨z1, z2⟩ := z
    cases i with
    | zero =>
      rw [List.getElem?_cons_zero] at z1
      cases z1
      exact ⟨rfl, rfl⟩
    | succ i =>
      rw [List.getElem?_cons_succ] at z1
      rw [List.getElem?_cons_succ] at z2
      exact (nn i a ⟨z1, z2⟩).elim
  refine ss (· = x) U H U _ _ H b ⟨⟨?_, fun i s e => ?_, fun i j a ne h1 h2 => ?_⟩, wd, u, fun _ z => z, fun i a z => .inl (own i a z).2, fun _ _ z _ _ _ => z, fun i ds' a z1 z2 => ?_, fun i c' fs' a z1 z2 => (own i a ⟨z2, .inr ⟨c', fs', z1⟩⟩).2⟩ ((al_bd.mp al).mono (fun f b1 h1 => ?_) (fun c fs b1 h1 => ?_))
  · rw [st0, List.length_cons, List.length_cons, r1.len]
  · rw [st0]
    cases i with
    | zero =>
      rw [List.getElem?_cons_zero] at e
      cases e
      exact ⟨_, rfl, x, dx, fvs, rfl, hx, df, ux, np, nc⟩
    | succ i =>
      rw [List.getElem?_cons_succ] at e
      rw [List.getElem?_cons_succ]
      exact r1.at_ i s e
  · exact ne ((own _ _ h1).1.trans (own _ _ h2).1.symm)
  · obtain ⟨rfl, _⟩ := own i a ⟨z2, .inl ⟨ds', z1⟩⟩
    cases z1
  · cases f with
    | nx w =>
      intro U' σ' H' ev s
      obtain ⟨o, e1, a, dx', fvs', rfl, ha, da, ua, _, _⟩ := s.rel.at_ 0 _ (he w)
      have ea := s.oim 0 cn w a (he w) e1
      subst ea
      exact h1 dx' fvs' H' ha (da.sub fun z _ y => s.sub z y) s.wd s.ext
    | rt d => exact h1.elim
    | bk e => exact nomatch e
    | ct e => exact nomatch e
  · exact fun dd fvs H' z1 z2 z3 z4 z5 => h1 dd fvs H' z1 z2 z3 z4 z5
end
end Gp
end
section
set_option Elab.async false
set_option linter.all false
set_option maxRecDepth 100000
set_option maxHeartbeats 4000000
namespace Gp
open PySem PySem.Spec PyProof.Rows L2 Gh
section
variable {g : Gw} {U : Addr → Prop} {H H' H1 : Hp} {b : Nat} {E : XK} {Q : VK}
theorem denL_dp {K : PySem.W.Frag} : ∀ {vs : List V} {ds : List D} {es : List PyData}, DenL g U H vs ds → (∀ d ∈ ds, ∀ v e, Den g U H v d → toPy d = some e → Dp g.K H v e) → toPyL ds = some es → DpAll g.K H vs es
  | _, _, _, .nil, _, h => by cases h; exact .nil
  | _, d :: ds, es, .cons a r, ih, h => by
    unfold toPyL at h
    cases e1 : toPy d with
    | none => rw [e1] at h; cases h
    | some e =>
      cases e2 : toPyL ds with
      | none => rw [e1, e2] at h; cases h
      | some es' =>
        rw [e1, e2] at h
        cases h
        exact .cons (ih d List.mem_cons_self _ _ a e1) (denL_dp (K := K) r (fun d hd => ih d (List.mem_cons_of_mem _ hd)) e2)
theorem den_dp : ∀ (d : D) {v : V} {e : PyData}, Den g U H v d → toPy d = some e → Dp g.K H v e
  | .non, _, _, h, z => by cases h; cases z; exact .non
  | .bl b, _, _, h, z => by cases h; cases z; exact .bl b
  | .int i, _, _, h, z => by cases h; cases z; exact .int i
  | .str x, _, _, h, z => by cases h; cases z; exact .str x
  | .tup ds, v, e, h, z => by
    unfold toPy at z
    cases q : toPyL ds with
    | none => rw [q] at z; cases z
    | some es =>
      rw [q] at z
      cases z
      obtain ⟨a, vs, rfl, sq, _, k⟩ := den_tup h
      exact .tup sq (denL_dp (K := g.K) k (fun d hd v e h1 h2 => den_dp d h1 h2) q)
  | .lst ds, v, e, h, z => by
    unfold toPy at z
    cases q : toPyL ds with
    | none => rw [q] at z; cases z
    | some es =>
      rw [q] at z
      cases z
      obtain ⟨a, vs, rfl, hh, _, _, k⟩ := den_lst h
      exact .lst (SqL.of hh) (denL_dp (K := g.K) k (fun d hd v e h1 h2 => den_dp d h1 h2) q)
  | .obj _ _, _, _, _, z => by cases z
  | .err _ _, _, _, _, z => by cases z
  | .pen, _, _, _, z => by cases z
theorem new_lst {vs : List V} {ds : List D} (q : okP g U H Q (.lst ds) b) (w : Wd g H b) (u : UOk g U H) (l : vs.length ≤ sizeLine) (dn : DenL g U H vs ds) : ∀ p, H p = none → Q (.ref p) (upd H p (.lst vs)) := fun p np =>
  q _ _ (.lst upd_same (u.new np) l (dn.ext (fun a o e _ _ => same_new np a o e))) (w.same (same_new np)) (fr_same (same_new np))
theorem new_tup {vs : List V} {ds : List D} (q : okP g U H Q (.tup ds) b) (w : Wd g H b) (u : UOk g U H) (l : vs.length ≤ sizeLine) (dn : DenL g U H vs ds) : ∀ p, H p = none → Q (.ref p) (upd H p (.tup vs)) := fun p np =>
  q _ _ (.tup upd_same (u.new np) l (dn.ext (fun a o e _ _ => same_new np a o e))) (w.same (same_new np)) (fr_same (same_new np))
def iiD (f : Int → Int → D) (x y : D) : Tr D := match x, y with
  | .int i, .int j => .ok (f i j)
  | _, _ => .bad
def iicD (c : Int → Int → Prop) [∀ i j, Decidable (c i j)] (f : Int → Int → D) (x y : D) : Tr D := match x, y with
  | .int i, .int j => if c i j then .ok (f i j) else .bad
  | _, _ => .bad
theorem al_ii {P : D → Nat → Prop} {X : Str → Fs → Nat → Prop} {f : Int → Int → D} {x y : D} (h : Al P X (iiD f x y) b) : ∃ i j, x = .int i ∧ y = .int j ∧ P (f i j) b := by
  unfold iiD at h
  split at h
  · exact ⟨_, _, rfl, rfl, h⟩
  · exact h.elim
theorem al_iic {P : D → Nat → Prop} {X : Str → Fs → Nat → Prop} {c : Int → Int → Prop} [∀ i j, Decidable (c i j)] {f : Int → Int → D} {x y : D} (h : Al P X (iicD c f x y) b) : ∃ i j, x = .int i ∧ y = .int j ∧ c i j ∧ P (f i j) b := by
  unfold iicD at h
  split at h
  · split at h
    · exact ⟨_, _, rfl, rfl, by assumption, h⟩
    · exact h.elim
  · exact h.elim
theorem sr_ii {f : Int → Int → D} {f' : Int → Int → V} (hf : ∀ i j U H, Den g U H (f' i j) (f i j)) : SR2 g E (rI0 f') (iiD f) := fun U H b x y dx dy Q d1 d2 w u q => by
  obtain ⟨i, j, rfl, rfl, q1⟩ := al_ii q
  cases den_int d1
  cases den_int d2
  exact ⟨i, j, rfl, rfl, okP.here q1 w (hf i j U H)⟩
theorem sr_iic {c : Int → Int → Prop} [∀ i j, Decidable (c i j)] {c' : Int → Int → Prop} {f : Int → Int → D} {f' : Int → Int → V} (hc : ∀ i j, c i j → c' i j) (hf : ∀ i j U H, Den g U H (f' i j) (f i j)) : SR2 g E (rI c' f') (iicD c f) := fun U H b x y dx dy Q d1 d2 w u q => by
  obtain ⟨i, j, rfl, rfl, hij, q1⟩ := al_iic q
  cases den_int d1
  cases den_int d2
  exact ⟨i, j, rfl, rfl, hc i j hij, okP.here q1 w (hf i j U H)⟩
def ltD : D → D → Tr D := iiD fun i j => .bl (decide (i < j))
def leD : D → D → Tr D := iiD fun i j => .bl (decide (i ≤ j))
def gtD : D → D → Tr D := iiD fun i j => .bl (decide (j < i))
def geD : D → D → Tr D := iiD fun i j => .bl (decide (j ≤ i))
def subD : D → D → Tr D := iiD fun i j => .int (i - j)
def modD : D → D → Tr D := iicD (fun _ j => 0 < j) fun i j => .int (i % j)
def divD : D → D → Tr D := iicD (fun _ j => 0 < j ∧ j < 10 ^ 100) fun i j => .int (i / j)
theorem sr_lt : SR2 g E (rI0 fun i j => .bl (decide (i < j))) ltD := sr_ii fun _ _ _ _ => .bl _
theorem sr_le : SR2 g E (rI0 fun i j => .bl (decide (i ≤ j))) leD := sr_ii fun _ _ _ _ => .bl _
theorem sr_gt : SR2 g E (rI0 fun i j => .bl (decide (j < i))) gtD := sr_ii fun _ _ _ _ => .bl _
theorem sr_sub : SR2 g E (rI0 fun i j => .int (i - j)) subD := sr_ii fun _ _ _ _ => .int _
theorem sr_mod : SR2 g E (rI (fun _ j => 0 < j) fun i j => .int (i % j)) modD := sr_iic (fun _ _ h => h) fun _ _ _ _ => .int _
theorem sr_div : SR2 g E (rI CDivW fun i j => .int (i / j)) divD := sr_iic (fun _ _ h => ⟨h.1, log_of h.1 h.2⟩) fun _ _ _ _ => .int _
def negD (x : D) : Tr D := match x with
  | .int i => .ok (.int (-i))
  | _ => .bad
theorem sr_neg : SR1 g E (rU fun i => .int (-i)) negD := fun U H b x dx Q d1 w u q => by
  cases dx with
  | int i =>
    cases den_int d1
    exact ⟨i, rfl, okP.here q w (.int _)⟩
  | _ => exact q.elim
def addD (x y : D) : Tr D := match x, y with
  | .int i, .int j => .ok (.int (i + j))
  | .str a, .str b => if a.length + b.length ≤ sizeLine then .ok (.str (a ++ b)) else .bad
  | .lst a, .lst b => if a.length + b.length ≤ sizeLine then .ok (.lst (a ++ b)) else .bad
  | .tup a, .tup b => if a.length + b.length ≤ sizeLine then .ok (.tup (a ++ b)) else .bad
  | _, _ => .bad
def rAddA (K : PySem.W.Frag) : R2 := fun x y H Q => rI0 (fun i j => .int (i + j)) x y H Q ∨ (∃ i j, x = .str i ∧ y = .str j ∧ i.length + j.length ≤ sizeLine ∧ Q (.str (i ++ j)) H) ∨ rCat x y H Q ∨ rCatA K x y H Q
theorem op_addA {X : Cx} {K : PySem.W.Frag} (h : X.K = K) : OpR X (binaryOp .Add) (rAddA K) := h ▸ op_add.or (op_add_str.or (op_cat.or op_catA))
theorem str_app_len (a b : Str) : (a ++ b).length = a.length + b.length := by
  show (a.cps ++ b.cps).size = _
  rw [Array.size_append]
  rfl
theorem sr_add : SR2 g E (rAddA g.K) addD := fun U H b x y dx dy Q d1 d2 w u q => by
  unfold addD at q
  split at q
  · rename_i i j
    cases den_int d1
    cases den_int d2
    exact .inl ⟨i, j, rfl, rfl, okP.here q w (.int _)⟩
  · rename_i a c
    split at q
    · rename_i h
      obtain ⟨rfl, l1⟩ := den_str d1
      obtain ⟨rfl, l2⟩ := den_str d2
      exact .inr (.inl ⟨a, c, rfl, rfl, h, okP.here q w (.str _ (by rw [str_app_len]; exact h))⟩)
    · exact q.elim
  · rename_i a c
    split at q
    · rename_i h
      obtain ⟨p1, v1, rfl, h1, n1, l1, k1⟩ := den_lst d1
      obtain ⟨p2, v2, rfl, h2, n2, l2, k2⟩ := den_lst d2
      have hl : v1.length + v2.length ≤ sizeLine := by rw [k1.length, k2.length]; exact h
      exact .inr (.inr (.inl ⟨p1, p2, v1, v2, rfl, rfl, h1, h2, hl, new_lst q w u (by rw [List.length_append]; exact hl) (k1.append k2)⟩))
    · exact q.elim
  · rename_i a c
    split at q
    · rename_i h
      obtain ⟨p1, v1, rfl, h1, l1, k1⟩ := den_tup d1
      obtain ⟨p2, v2, rfl, h2, l2, k2⟩ := den_tup d2
      have hl : v1.length + v2.length ≤ sizeLine := by rw [k1.length, k2.length]; exact h
      refine .inr (.inr (.inr ⟨p1, p2, v1, v2, rfl, rfl, h1, h2, hl, fun e => ?_, fun _ e => ?_, fun _ _ => new_tup q w u (by rw [List.length_append]; exact hl) (k1.append k2)⟩))
      · subst e
        cases k1
        exact okP.here q w d2
      · subst e
        cases k2
        rw [List.append_nil] at q
        exact okP.here q w d1
    · exact q.elim
  · exact q.elim
def mulD (x y : D) : Tr D := match x, y with
  | .int i, .int j => if (-(2 ^ 64) < i ∧ i < 2 ^ 64) ∨ (-(2 ^ 64) < j ∧ j < 2 ^ 64) then .ok (.int (i * j)) else .bad
  | .lst a, .int k => if -(2 ^ 63) ≤ k ∧ k < 2 ^ 63 ∧ a.length * k.toNat ≤ sizeLine then .ok (.lst (List.replicate k.toNat a).flatten) else .bad
  | _, _ => .bad
def rMulA : R2 := fun x y H Q => rI CMul (fun i j => .int (i * j)) x y H Q ∨ rRep x y H Q
theorem op_mulA {X : Cx} : OpR X (binaryOp .Mult) rMulA := op_mul.or op_rep
theorem denL_rep {vs : List V} {ds : List D} (h : DenL g U H vs ds) : ∀ n : Nat, DenL g U H (List.replicate n vs).flatten (List.replicate n ds).flatten
  | 0 => .nil
  | n + 1 => by
    rw [List.replicate_succ, List.replicate_succ, List.flatten_cons, List.flatten_cons]
    exact h.append (denL_rep h n)
theorem sr_mul : SR2 g E rMulA mulD := fun U H b x y dx dy Q d1 d2 w u q => by
  unfold mulD at q
  split at q
  · rename_i i j
    split at q
    · rename_i h
      cases den_int d1
      cases den_int d2
      exact .inl ⟨i, j, rfl, rfl, h, okP.here q w (.int _)⟩
    · exact q.elim
  · rename_i a k
    split at q
    · rename_i h
      obtain ⟨p1, v1, rfl, h1, n1, l1, k1⟩ := den_lst d1
      cases den_int d2
      have e : v1.length * k.toNat ≤ sizeLine := by rw [k1.length]; exact h.2.2
      refine .inr ⟨p1, k, v1, rfl, rfl, h1, h.1, h.2.1, e, new_lst q w u ?_ (denL_rep k1 _)⟩
      rw [(denL_rep k1 k.toNat).length, List.length_flatten, List.map_replicate, List.sum_replicate_nat, Nat.mul_comm]
      exact h.2.2
    · exact q.elim
  · exact q.elim
def eqS : D → D → Option Bool
  | .non, .non => some true | .non, .int _ => some false | .int _, .non => some false | .non, .bl _ => some false | .bl _, .non => some false | .non, .str _ => some false | .str _, .non => some false
  | .int i, .int j => some (decide (i = j)) | .bl a, .bl c => some (decide (a = c)) | .str a, .str c => some (decide (a = c))
  | .int _, .str _ => some false | .str _, .int _ => some false | .bl _, .str _ => some false | .str _, .bl _ => some false
  | _, _ => none
def eqB (x y : D) : Tr Bool := match eqS x y with
  | some b => .ok b
  | none => match toPy x, toPy y with
    | some a, some c => if SeqAt.shaped a = true ∧ SeqAt.shaped c = true then .ok (PyData.eqv a c) else .bad
    | _, _ => .bad
def eqD (x y : D) : Tr D := bd (eqB x y) fun k => .ok (.bl k)
def neD (x y : D) : Tr D := bd (eqB x y) fun k => .ok (.bl (!k))
def rEqA (K : PySem.W.Frag) : R2 := fun x y H Q => rEq x y H Q ∨ rEqD K x y H Q
def rNeA (K : PySem.W.Frag) : R2 := fun x y H Q => rNe x y H Q ∨ rNeD K x y H Q
theorem op_eqA {X : Cx} {K : PySem.W.Frag} (h : X.K = K) (hu : X.A.units + 64 < cLine) : OpR X (compareOp .Eq) (rEqA K) := h ▸ op_eq.or (op_eqD hu)
theorem op_neA {X : Cx} {K : PySem.W.Frag} (h : X.K = K) (hu : X.A.units + 64 < cLine) : OpR X (compareOp .NotEq) (rNeA K) := h ▸ op_ne.or (op_neD hu)
theorem eqS_scal {x y : D} {v w : V} {k : Bool} (h : eqS x y = some k) (d1 : Den g U H v x) (d2 : Den g U H w y) : scal v w = true ∧ decide (v = w) = k := by
  cases x <;> cases y <;> first
    | (cases h; done)
    | (cases d1; cases d2; cases h; exact ⟨rfl, by simp⟩)
theorem al_eqB {P : Bool → Nat → Prop} {X : Str → Fs → Nat → Prop} {x y : D} (h : Al P X (eqB x y) b) : (∃ k, eqS x y = some k ∧ P k b) ∨ ∃ a c, toPy x = some a ∧ toPy y = some c ∧ SeqAt.shaped a = true ∧ SeqAt.shaped c = true ∧ P (PyData.eqv a c) b := by
  unfold eqB at h
  split at h
  · exact .inl ⟨_, by assumption, h⟩
  · split at h
    · split at h
      · rename_i e1 e2 z
        exact .inr ⟨_, _, e1, e2, z.1, z.2, h⟩
      · exact h.elim
    · exact h.elim
theorem sr_eq : SR2 g E (rEqA g.K) eqD := fun U H b x y dx dy Q d1 d2 w u q => by
  rcases al_eqB (al_bd.mp q) with ⟨k, e, q1⟩ | ⟨a, c, e1, e2, s1, s2, q1⟩
  · obtain ⟨h1, h2⟩ := eqS_scal e d1 d2
    refine .inl ⟨h1, ?_⟩
    rw [h2]
    exact okP.here q1 w (.bl _)
  · exact .inr ⟨a, c, den_dp dx d1 e1, den_dp dy d2 e2, s1, s2, okP.here q1 w (.bl _)⟩
theorem sr_ne : SR2 g E (rNeA g.K) neD := fun U H b x y dx dy Q d1 d2 w u q => by
  rcases al_eqB (al_bd.mp q) with ⟨k, e, q1⟩ | ⟨a, c, e1, e2, s1, s2, q1⟩
  · obtain ⟨h1, h2⟩ := eqS_scal e d1 d2
    refine .inl ⟨h1, ?_⟩
    rw [h2]
    exact okP.here q1 w (.bl _)
  · exact .inr ⟨a, c, den_dp dx d1 e1, den_dp dy d2 e2, s1, s2, okP.here q1 w (.bl _)⟩
def ixD (x y : D) : Tr D := match x, y with
  | .lst ds, .int i => match atI ds i with | some d => .ok d | none => .bad
  | .tup ds, .int i => match atI ds i with | some d => .ok d | none => .bad
  | .str z, .int i => match atI z.cps.toList i with | some c => .ok (.str ⟨#[c]⟩) | none => .bad
  | _, _ => .bad
theorem ix_seqK {X : Cx} {K : PySem.W.Frag} (h : X.K = K) : IxR X (rIx K) := h ▸ ix_seq
theorem denL_at {vs : List V} {ds : List D} {i : Int} {d : D} (h : DenL g U H vs ds) (e : atI ds i = some d) : ∃ v, atI vs i = some v ∧ Den g U H v d := by
  unfold atI at e ⊢
  rw [h.length]
  cases q : ixN ds.length i with
  | none => rw [q] at e; cases e
  | some j =>
    rw [q] at e
    exact h.getD e
theorem sr_ix : SR2 g E (rIx g.K) ixD := fun U H b x y dx dy Q d1 d2 w u q => by
  unfold ixD at q
  split at q
  · rename_i ds i
    split at q
    · rename_i d e
      obtain ⟨p, vs, rfl, h, n, l, k⟩ := den_lst d1
      cases den_int d2
      obtain ⟨v, hv, dv⟩ := denL_at k e
      exact .inl ⟨p, vs, i, v, rfl, rfl, SqL.of h, hv, okP.here q w dv⟩
    · exact q.elim
  · rename_i ds i
    split at q
    · rename_i d e
      obtain ⟨p, vs, rfl, h, l, k⟩ := den_tup d1
      cases den_int d2
      obtain ⟨v, hv, dv⟩ := denL_at k e
      exact .inr (.inl ⟨p, vs, i, v, rfl, rfl, h, hv, okP.here q w dv⟩)
    · exact q.elim
  · rename_i z i
    split at q
    · rename_i c e
      obtain ⟨rfl, l⟩ := den_str d1
      cases den_int d2
      exact .inr (.inr ⟨z, i, c, rfl, rfl, l, e, okP.here q w den1⟩)
    · exact q.elim
  · exact q.elim
def lenD (x : D) : Tr D := match x with
  | .lst ds => .ok (.int ds.length)
  | .tup ds => .ok (.int ds.length)
  | .str z => .ok (.int z.length)
  | _ => .bad
theorem srl_len : SRL g E (rLn g.K) (ul1 lenD) := fun U H b xs dxs Q dn w u q => by
  obtain ⟨x, rfl, q1⟩ := al_ul1 q
  obtain ⟨v, rfl, d1⟩ := denL_1 dn
  cases x with
  | lst ds =>
    obtain ⟨p, vs, rfl, h, n, l, k⟩ := den_lst d1
    refine st_lenL h ?_
    rw [k.length]
    exact okP.here q1 w (.int _)
  | tup ds =>
    obtain ⟨p, vs, rfl, h, l, k⟩ := den_tup d1
    unfold rLn
    exact ⟨_, _, rfl, .inr ⟨vs, h, rfl⟩, by rw [k.length]; exact okP.here q1 w (.int _)⟩
  | str z =>
    obtain ⟨rfl, l⟩ := den_str d1
    exact st_lenS l (okP.here q1 w (.int _))
  | _ => exact q1.elim
def listD (x : D) : Tr D := match x with
  | .lst ds => .ok (.lst ds)
  | .tup ds => .ok (.lst ds)
  | _ => .bad
theorem srl_list : SRL g E (rListOf g.K) (ul1 listD) := fun U H b xs dxs Q dn w u q => by
  obtain ⟨x, rfl, q1⟩ := al_ul1 q
  obtain ⟨v, rfl, d1⟩ := denL_1 dn
  unfold rListOf
  cases x with
  | lst ds =>
    obtain ⟨p, vs, rfl, h, n, l, k⟩ := den_lst d1
    exact ⟨p, vs, rfl, .inl (SqL.of h), new_lst q1 w u l k⟩
  | tup ds =>
    obtain ⟨p, vs, rfl, h, l, k⟩ := den_tup d1
    exact ⟨p, vs, rfl, .inr h, new_lst q1 w u l k⟩
  | _ => exact q1.elim
def intD (x : D) : Tr D := match x with
  | .int i => .ok (.int i)
  | .bl k => .ok (.int (if k = true then 1 else 0))
  | _ => .bad
theorem srl_int : SRL g E rInt (ul1 intD) := fun U H b xs dxs Q dn w u q => by
  obtain ⟨x, rfl, q1⟩ := al_ul1 q
  obtain ⟨v, rfl, d1⟩ := denL_1 dn
  cases x with
  | int i => cases d1; exact st_int (okP.here q1 w (.int _))
  | bl k => cases d1; exact st_intB (okP.here q1 w (.int _))
  | _ => exact q1.elim
def absD (x : D) : Tr D := match x with
  | .int i => .ok (.int (if i < 0 then -i else i))
  | _ => .bad
end
end Gp
end
section
set_option Elab.async false
set_option linter.all false
set_option maxRecDepth 100000
set_option maxHeartbeats 4000000
namespace Gp
open PySem PySem.Spec PyProof.Rows L2 Gh
section
variable {g : Gw} {Mt U0 U U' : Addr → Prop} {H0 H H' H1 H2 : Hp} {b b1 : Nat} {σ : L2.St} {ε ε' : Env} {E : XK} {Q : VK} {W L W' : Type}
variable {env : W → Env} {envL : L → Env} {env' : W' → Env} {u ta tb : TS} {te : TE} {me : Tr D}
def flatD : D → Bool
  | .non => true
  | .bl _ => true
  | .int _ => true
  | .str _ => true
  | _ => false
def eqF : D → D → Bool
  | .non, .non => true
  | .bl a, .bl b => a == b
  | .bl a, .int b => (if a then 1 else 0) == b
  | .int a, .bl b => a == (if b then 1 else 0)
  | .int a, .int b => a == b
  | .str a, .str b => a == b
  | _, _ => false
theorem flat_den {v : V} {d : D} (h : Den g U H v d) (f : flatD d = true) : flatV v = true := by
  cases h <;> first
    | rfl
    | cases f
theorem eqF_den {v w : V} {d e : D} (h : Den g U H v d) (k : Den g U H w e) : eqF d e = eqV v w := by
  cases h <;> cases k <;> rfl
def inD (x : D) (ds : List D) : Bool := ds.any fun y => eqF y x
theorem inD_den {v : V} {d : D} (h : Den g U H v d) : ∀ {vs : List V} {ds : List D}, DenL g U H vs ds → inD d ds = inV v vs
  | _, _, .nil => rfl
  | _, _, .cons a r => by
    have := inD_den h r
    unfold inD inV at this ⊢
    rw [List.any_cons, List.any_cons, eqF_den a h, this]
theorem flats_den : ∀ {vs : List V} {ds : List D}, DenL g U H vs ds → ds.all flatD = true → vs.all flatV = true
  | _, _, .nil, _ => rfl
  | _, _, .cons a r, f => by
    rw [List.all_cons, Bool.and_eq_true] at f ⊢
    exact ⟨flat_den a f.1, flats_den r f.2⟩
def inB (x y : D) : Tr Bool := match y with
  | .lst ds => if flatD x = true ∧ ds.all flatD = true then .ok (inD x ds) else .bad
  | .tup ds => if flatD x = true ∧ ds.all flatD = true then .ok (inD x ds) else .bad
  | .str j => match x with
    | .str i => .ok (!(Builtin.Str.occurrences j i 0 j.length 1).isEmpty)
    | _ => .bad
  | _ => .bad
def inOD (x y : D) : Tr D := bd (inB x y) fun k => .ok (.bl k)
def notinD (x y : D) : Tr D := bd (inB x y) fun k => .ok (.bl (!k))
def rInA (K : PySem.W.Frag) : R2 := fun x y H Q => rIn K false x y H Q ∨ ∃ i j, x = .str i ∧ y = .str j ∧ Q (.bl (!(Builtin.Str.occurrences j i 0 j.length 1).isEmpty)) H
def rNotInA (K : PySem.W.Frag) : R2 := fun x y H Q => rIn K true x y H Q ∨ ∃ i j, x = .str i ∧ y = .str j ∧ Q (.bl (!(!(Builtin.Str.occurrences j i 0 j.length 1).isEmpty))) H
theorem op_inA {X : Cx} {K : PySem.W.Frag} (h : X.K = K) : OpR X (compareOp .In) (rInA K) := h ▸ op_in_seq.or op_in_str
theorem op_notinA {X : Cx} {K : PySem.W.Frag} (h : X.K = K) : OpR X (compareOp .NotIn) (rNotInA K) := h ▸ op_notIn_seq.or op_notin_str
theorem al_inB {P : Bool → Nat → Prop} {Z : Str → Fs → Nat → Prop} {x y : D} {v w : V} (d1 : Den g U H v x) (d2 : Den g U H w y) (h : Al P Z (inB x y) b) :
    (∃ p vs, w = .ref p ∧ (SqL g.K H p vs ∨ SqT g.K H p vs) ∧ flatV v = true ∧ vs.all flatV = true ∧ P (inV v vs) b) ∨ ∃ i j, v = .str i ∧ w = .str j ∧ P (!(Builtin.Str.occurrences j i 0 j.length 1).isEmpty) b := by
  unfold inB at h
  split at h
  · split at h
    · rename_i z
      obtain ⟨p, vs, rfl, hh, _, _, k⟩ := den_lst d2
      rw [inD_den d1 k] at h
      exact .inl ⟨p, vs, rfl, .inl (SqL.of hh), flat_den d1 z.1, flats_den k z.2, h⟩
    · exact h.elim
  · split at h
    · rename_i z
      obtain ⟨p, vs, rfl, hh, _, k⟩ := den_tup d2
      rw [inD_den d1 k] at h
      exact .inl ⟨p, vs, rfl, .inr hh, flat_den d1 z.1, flats_den k z.2, h⟩
    · exact h.elim
  · split at h
    · obtain ⟨rfl, _⟩ := den_str d1
      obtain ⟨rfl, _⟩ := den_str d2
      exact .inr ⟨_, _, rfl, rfl, h⟩
    · exact h.elim
  · exact h.elim
theorem sr_in : SR2 g E (rInA g.K) inOD := fun U H b x y dx dy Q d1 d2 w u q => by
  rcases al_inB d1 d2 (al_bd.mp q) with ⟨p, vs, rfl, h1, h2, h3, h4⟩ | ⟨i, j, rfl, rfl, h⟩
  · exact .inl ⟨p, vs, rfl, h1, h2, h3, okP.here h4 w (.bl _)⟩
  · exact .inr ⟨i, j, rfl, rfl, okP.here h w (.bl _)⟩
theorem sr_notin : SR2 g E (rNotInA g.K) notinD := fun U H b x y dx dy Q d1 d2 w u q => by
  rcases al_inB d1 d2 (al_bd.mp q) with ⟨p, vs, rfl, h1, h2, h3, h4⟩ | ⟨i, j, rfl, rfl, h⟩
  · exact .inl ⟨p, vs, rfl, h1, h2, h3, okP.here h4 w (.bl _)⟩
  · exact .inr ⟨i, j, rfl, rfl, okP.here h w (.bl _)⟩
def SO (g : Gw) (E : XK) (ε : Env) (t : TO) (m : Tr (Option Int)) : Prop := ∀ U σ H b (Q : Option Int → Hp → Prop), Rel g U H σ ε → Wd g H b → UOk g U H → Al (fun o b' => ∀ H', Wd g H' b' → Fr H H' g.p → Q o H') (exP g U E H) m b → t σ H Q
theorem SO.step {α : Type} {t : TO} {m : Tr (Option Int)} {k : Option Int → Tr α} {P : α → Nat → Prop} {Q : Option Int → Hp → Prop} (ha : SO g E ε t m) (R : Rel g U H σ ε) (W : Wd g H b) (u : UOk g U H) (h : Al P (exP g U E H) (bd m k) b)
    (hk : ∀ d H1 b1, Wd g H1 b1 → Fr H H1 g.p → Rel g U H1 σ ε → UOk g U H1 → Al P (exP g U E H1) (k d) b1 → Q d H1) : t σ H Q :=
  ha U σ H b Q R W u ((al_bd.mp h).mono (fun d b1 h1 H1 w1 f1 => hk d H1 b1 w1 f1 (R.fr u f1) (u.fr f1 w1) (al_frX f1 h1)) (fun _ _ _ h => h))
theorem DenL.reverse : ∀ {vs : List V} {ds : List D}, DenL g U H vs ds → DenL g U H vs.reverse ds.reverse
  | _, _, .nil => .nil
  | _, _, .cons a r => by
    rw [List.reverse_cons, List.reverse_cons]
    exact (DenL.reverse r).append (.cons a .nil)
def SRg (g : Gw) (E : XK) (ε : Env) (t : L2.St → Hp → (Int → Int → Hp → Prop) → Prop) (m : Tr (Int × Int)) : Prop := ∀ U σ H b (Q : Int → Int → Hp → Prop), Rel g U H σ ε → Wd g H b → UOk g U H → Al (fun o b' => ∀ H', Wd g H' b' → Fr H H' g.p → Q o.1 o.2 H') (exP g U E H) m b → t σ H Q
def rgA1 (d : D) : Tr (Int × Int) := match d with
  | .int n => .ok (0, n)
  | _ => .bad
theorem srg_1 (he : SE g E ε te me) : SRg g E ε (tRg1 te) (bd me rgA1) := fun U σ H b Q R W u q =>
  he.step R W u q fun v d H1 b1 d1 w1 f1 R1 u1 q1 => by
    cases d with
    | int i =>
      cases den_int d1
      exact ⟨i, rfl, q1 H1 w1 f1⟩
    | _ => exact q1.elim
def rgOk (a b : Int) : Prop := -(2 ^ 62) ≤ a ∧ a < 2 ^ 62 ∧ -(2 ^ 62) ≤ b ∧ b < 2 ^ 62 ∧ b - a ≤ 16777216
instance (a b : Int) : Decidable (rgOk a b) := by unfold rgOk; infer_instance
theorem denL_rg (a b : Int) : DenL g U H (rgV a b) (rgD a (b - a).toNat) := by
  have e : ∀ ns : List Nat, DenL g U H (ns.map fun i => V.int (a + (i : Nat))) (ns.map fun i => D.int (a + (i : Nat))) := fun ns => by
    induction ns with
    | nil => exact .nil
    | cons n r ih => exact .cons (.int _) ih
  exact e _
theorem rgV_ok {a b : Int} (h : rgOk a b) : (rgV a b).length ≤ sizeLine := by
  rw [rgV_length, sizeLine_eq]
  have := h.2.2.2.2
  omega
theorem se_lstRg {t : L2.St → Hp → (Int → Int → Hp → Prop) → Prop} {m : Tr (Int × Int)} (he : SRg g E ε t m) : SE g E ε (tLstRg t) (bd m fun r => if rgOk r.1 r.2 then .ok (.lst (rgD r.1 (r.2 - r.1).toNat)) else .bad) := fun U σ H b Q R W u q =>
  he U σ H b _ R W u ((al_bd.mp q).mono (fun r b1 h1 H1 w1 f1 => by
    by_cases h : rgOk r.1 r.2
    · rw [if_pos h] at h1
      exact ⟨⟨h.1, h.2.1, h.2.2.1, h.2.2.2.1, by have := h.2.2.2.2; omega⟩, new_lst (okP.fr f1 h1) w1 (u.fr f1 w1) (rgV_ok h) (denL_rg _ _)⟩
    · rw [if_neg h] at h1
      exact h1.elim) (fun _ _ _ h => h))
def IsT (g : Gw) (u : Value) (f : D → Option Bool) : Prop := ∀ U H v d k, Den g U H v d → f d = some k → (∃ t, TyX g.K H v t ∧ PySem.W.kitOne g.K t u = some k) ∨ ∃ a C dd fvs, v = .ref a ∧ H a = some (exk a C dd) ∧ H dd = some (.xd fvs) ∧ ErrT g.K C ∧ PySem.W.kitOne g.K (.ref C) u = some k
def opt {α : Type} (o : Option α) : Tr α := match o with
  | some a => .ok a
  | none => .bad
theorem se_isi {cv : V} {u : Value} {f : D → Option Bool} (hc : ClsV cv u) (hT : IsT g u f) (he : SE g E ε te me) : SE g E ε (tCB (rIsiZ g.K) (tCons te (tCons (tC cv) tNil))) (bd me fun d => bd (opt (f d)) fun k => .ok (.bl k)) := fun U σ H b Q R W uo q =>
  he.step R W uo q fun v d H1 b1 d1 w1 f1 R1 u1 q1 => by
    cases e : f d with
    | none => rw [e] at q1; exact q1.elim
    | some k =>
      rw [e] at q1
      have q2 := okP.here (okP.fr f1 q1) w1 (.bl k)
      rcases hT U H1 v d k d1 e with ⟨t, h1, h2⟩ | ⟨a, C, dd, fvs, rfl, h1, h2, h3, h4⟩
      · exact .inl ⟨v, cv, t, u, k, rfl, hc, h1, h2, q2⟩
      · exact .inr ⟨a, C, dd, fvs, cv, u, k, rfl, hc, h1, h2, h3, h4, q2⟩
def kdN : D → Option String
  | .non => some "NoneType"
  | .bl _ => some "bool"
  | .int _ => some "int"
  | .str _ => some "str"
  | .lst _ => some "list"
  | .tup _ => some "tuple"
  | .dct => some "dict"
  | _ => none
theorem kd_ty {v : V} {d : D} {n : String} (h : Den g U H v d) (e : kdN d = some n) : TyX g.K H v (.type n) := by
  cases h with
  | non => cases e; exact .base .non
  | bl b => cases e; exact .base (.bl b)
  | int i => cases e; exact .base (.int i)
  | str x _ => cases e; exact .base (.str x)
  | tup h _ _ _ => cases e; exact .base (.tup h)
  | tupW h _ _ =>
    cases e
    rcases h (fun _ => none) with (z | ⟨o, z⟩) | ⟨o, its, n, z1, z2, _⟩
    · cases z
    · cases z
    · exact .kTuple z1 z2
  | lst h _ _ _ => cases e; exact .base (.lst h)
  | obj _ _ _ => cases e
  | err _ _ _ _ _ => cases e
  | pen => cases e
  | cls _ => cases e
  | dct h _ => cases e; exact .base (.dK h)
def isF (kb : String → Option Bool) (tab etab : List (Str × Bool)) (d : D) : Option Bool := match d with
  | .obj c _ => tab.lookup c
  | .err c _ => etab.lookup c
  | d => (kdN d).bind kb
theorem isT_of {u : Value} {kb : String → Option Bool} {tab etab : List (Str × Bool)} (h1 : ∀ n k, kb n = some k → PySem.W.kitOne g.K (.type n) u = some k) (h2 : ∀ c k, tab.lookup c = some k → Cls g.K (gd c g.K) ∧ InsT g.K (gd c g.K) ∧ PySem.W.kitOne g.K (.ref (gd c g.K)) u = some k)
    (h3 : ∀ c k, etab.lookup c = some k → ErrT g.K (gd c g.K) ∧ PySem.W.kitOne g.K (.ref (gd c g.K)) u = some k) : IsT g u (isF kb tab etab) := fun U H v d k dn e => by
  have base : ∀ d, Den g U H v d → (kdN d).bind kb = some k → ∃ t, TyX g.K H v t ∧ PySem.W.kitOne g.K t u = some k := fun d dn e => by
    cases q : kdN d with
    | none => rw [q] at e; cases e
    | some n =>
      rw [q] at e
      exact ⟨_, kd_ty dn q, h1 n k e⟩
  cases d with
  | obj c fs =>
    obtain ⟨a, dx, fvs, rfl, ea, _, _⟩ := den_obj dn
    obtain ⟨z1, z2, z3⟩ := h2 c k e
    exact .inl ⟨_, z2.ty z1 ea, z3⟩
  | err c fs =>
    cases dn with
    | err ha _ hd _ _ =>
      obtain ⟨z1, z2⟩ := h3 c k e
      exact .inr ⟨_, _, _, _, rfl, ha, hd, z1, z2⟩
  | non => exact .inl (base _ dn e)
  | bl b => exact .inl (base _ dn e)
  | int i => exact .inl (base _ dn e)
  | str x => exact .inl (base _ dn e)
  | lst ds => exact .inl (base _ dn e)
  | tup ds => exact .inl (base _ dn e)
  | pen => exact .inl (base _ dn e)
  | cls c => exact .inl (base _ dn e)
  | dct => exact .inl (base _ dn e)
theorem den_shw {v : V} {d : D} {x : Str} (h : Den g U H v d) (e : shwD d = some x) : Shw g.K H v x := by
  have cmp : ∀ {a : Addr}, v = .ref a → (match toPy d with
    | some e => if e.showable = true ∧ e.hasDict = false ∧ e.depth ≤ 100 ∧ e.shown.length ≤ sizeLine then some e.shown else none
    | none => none) = some x → Shw g.K H v x := fun {a} ev e => by
    subst ev
    split at e
    · split at e
      · rename_i q z
        cases e
        exact .dp (den_dp d h q) z.1 z.2.1 z.2.2.1 z.2.2.2
      · cases e
    · cases e
  cases d with
  | non => cases h; cases e; exact .non
  | bl b => cases h; cases e; exact .bl b
  | int i =>
    cases h
    unfold shwD at e
    dsimp only at e
    split at e
    · cases e; exact .int i (by assumption)
    · cases e
  | str y =>
    cases h
    unfold shwD at e
    dsimp only at e
    split at e
    · cases e; exact .str y (by assumption)
    · cases e
  | tup ds =>
    obtain ⟨a, _, rfl, _⟩ := den_tup h
    exact cmp rfl e
  | lst ds =>
    obtain ⟨a, _, rfl, _⟩ := den_lst h
    exact cmp rfl e
  | obj c fs => cases e
  | err c fs => cases e
  | pen => cases e
  | cls c => cases e
  | dct => cases e
theorem srl_repr : SRL g E (rShow g.K) (ul1 reprD) := fun U H b xs dxs Q dn w u q => by
  obtain ⟨x, rfl, q1⟩ := al_ul1 q
  obtain ⟨v, rfl, d1⟩ := denL_1 dn
  unfold reprD at q1
  split at q1
  · rename_i z e
    split at q1
    · exact rShow_of (den_shw d1 e) (okP.here q1 w (.str _ (by assumption)))
    · exact q1.elim
  · exact q1.elim
def strD (d : D) : Tr D := match d with
  | .int i => if i.natAbs.log2 < 1920 ∧ (Str.ofString (toString i)).length ≤ sizeLine then .ok (.str (toString i)) else .bad
  | _ => .bad
theorem ss_setf {c f : Str} {fs : Fs} {k : D → Tr (Fl W L)} (he : SE g E ε te me) (hk : ∀ d, SS g E (ε.set 0 (.oi c (putD f d fs))) u env envL (k d)) (hi : ε[0]? = some (.oi c fs) := by rfl) :
    SS g E ε (tSeq (sF (gd c g.K) (tVar 0) te f) u) env envL (bd me fun d => if fs.length < 900 then k d else .bad) := fun Mt U0 H0 U Ds σ H b s q => by
  refine st_sF ?_
  refine he.sstep s q fun y d H1 b1 dy s1 q1 => ?_
  by_cases hl : fs.length < 900
  · rw [if_pos hl] at q1
    obtain ⟨o, eo, a, dx, fvs, rfl, ha, df, ua, n1, n2⟩ := s1.rel.at_ 0 _ hi
    refine ⟨.ref a, eo, st_setF ha (by rw [df.length]; omega) fun H2 m2 => ?_⟩
    have kp := m2.keep
    have xt : ExtU U H1 H2 := fun x o e ne _ => kp x o e (fun z => ne (z ▸ ua))
    have il : 0 < ε.length := (List.getElem?_eq_some_iff.mp hi).1
    have ow : ∀ j x, OwnAt σ (ε.set 0 (.oi c (putD f d fs))) j x → OwnAt σ ε j x := fun j x z => by
      obtain ⟨z1, z2⟩ := z
      by_cases q : 0 = j
      · subst q
        exact ⟨z1, .inr ⟨c, fs, hi⟩⟩
      · rw [List.getElem?_set_ne q] at z2
        exact ⟨z1, z2⟩
    have apart : ∀ j x, 0 ≠ j → OwnAt σ ε j x → x ≠ a := fun j x ne z e => by
      subst e
      exact s1.rel.apart 0 j x ne ⟨eo, .inr ⟨c, fs, hi⟩⟩ z
    have hmt := s1.oim 0 c fs a hi eo
    have ev : Ev U H1 U H2 := ⟨xt, fun _ _ _ n _ => n⟩
    refine hk d Mt U0 H0 U Ds σ H2 b1 ⟨⟨by rw [List.length_set]; exact s1.rel.len, fun j x e => ?_, fun j k x ne z1 z2 => s1.rel.apart j k x ne (ow _ _ z1) (ow _ _ z2)⟩, ⟨s1.wd.pen.keep kp n1 n2, tabs_muI m2 ha s1.wd.tabs⟩, ⟨s1.uok.p, s1.uok.c, fun x hx => ?_⟩, s1.sub, fun j x z => s1.own j x (ow _ _ z), fun x o e m1 m2 m3 => ?_, fun j xs x e1 e2 => ?_, fun j c' fs' x e1 e2 => ?_⟩ (q1.mono (fun _ _ z => z.ev ev) (fun _ _ _ z => z))
    · by_cases q : 0 = j
      · subst q
        rw [List.getElem?_set_self il] at e
        cases e
        exact ⟨_, eo, a, dx, _, rfl, m2.at_, (df.put dy).ext xt, ua, n1, n2⟩
      · rw [List.getElem?_set_ne q] at e
        obtain ⟨o, e1, e2⟩ := s1.rel.at_ j x e
        refine ⟨o, e1, ?_⟩
        cases x with
        | no => trivial
        | fz d =>
          obtain ⟨v, e3, e4⟩ := e2
          exact ⟨v, e3, e4.ext xt⟩
        | ow ds2 =>
          obtain ⟨a2, v2, rfl, h2, l2, d2, u2, m1, m2⟩ := e2
          have ne := apart j a2 q ⟨e1, .inl ⟨ds2, e⟩⟩
          exact ⟨a2, v2, rfl, kp _ _ h2 ne, l2, d2.ext xt, u2, m1, m2⟩
        | oi c fs =>
          obtain ⟨a2, dx, v2, rfl, h2, d2, u2, m1, m2⟩ := e2
          have ne := apart j a2 q ⟨e1, .inr ⟨c, fs, e⟩⟩
          exact ⟨a2, dx, v2, rfl, kp _ _ h2 ne, d2.ext xt, u2, m1, m2⟩
    · by_cases q : x = a
      · subst q
        exact ⟨_, m2.at_, fun _ z => by cases z⟩
      · obtain ⟨o, e, t⟩ := s1.uok.al x hx
        exact ⟨o, kp x o e q, t⟩
    · exact kp x o (s1.ext x o e m1 m2 m3) (fun z => m2 (z ▸ hmt))
    · by_cases q : 0 = j
      · subst q
        rw [List.getElem?_set_self il] at e1
        cases e1
      · rw [List.getElem?_set_ne q] at e1
        exact s1.nu0 j xs x e1 e2
    · by_cases q : 0 = j
      · subst q
        exact s1.oim 0 c fs x hi e2
      · rw [List.getElem?_set_ne q] at e1
        exact s1.oim j c' fs' x e1 e2
  · rw [if_neg hl] at q1
    exact q1.elim
theorem ss_raise1 {c f : Str} (he : SE g E ε te me) : SS g E ε (tSeq (fun _ σ H => tMkO (gd c g.K) (spErr1 (gd c g.K) f) [] (tCons te tNil) σ H (fun cls d H' => E cls d H')) u) env envL (bd me fun d => .ex c [(f, d)]) := fun Mt U0 H0 U Ds σ H b s q => by
  show te σ H _
  refine he.sstep s q fun v d H1 b1 dv s1 q1 => ?_
  refine mk_err1 fun dd H2 sm nd hd => ?_
  have q2 : exS g Mt U0 H0 E c [(f, d)] b1 := q1
  exact q2 dd _ H2 hd (fun z => s1.uok.new nd (s1.sub _ z)) (.cons ((dv.ext (fun a o e _ _ => sm a o e)).sub fun a _ z => s1.sub a z) .nil) (s1.wd.same sm) (s1.ext.trans (fr_same sm))
end
end Gp
end
section
set_option Elab.async false
set_option linter.all false
set_option maxRecDepth 100000
set_option maxHeartbeats 4000000
namespace Gp
open PySem PySem.Spec PyProof.Rows L2 Gh
section
variable {g : Gw} {Mt U0 U U' : Addr → Prop} {H0 H H' H1 H2 : Hp} {b b1 : Nat} {σ : L2.St} {ε ε' : Env} {E : XK} {Q : VK} {W L W' : Type}
variable {env : W → Env} {envL : L → Env} {env' : W' → Env} {u ta tb : TS} {te : TE} {me : Tr D}
theorem se_powK {a c r : Int} (h1 : 0 ≤ c ∧ c ≤ 1000) (h2 : -(2 ^ 60) < a ∧ a < 2 ^ 60) (h3 : a ^ c.toNat = r) : SE g E ε (tOp (rPowK r) (tC (.int a)) (tC (.int c))) (.ok (.int r)) := fun U σ H b Q R W u q =>
  st_powK ⟨h1.1, by omega, by omega⟩ h3 (okP.here q W (.int _))
theorem passA {X : Cx} {E : XK} : Passes CX0 X E := fun _ _ _ _ _ _ _ h => h.elim
theorem PE.or {X : Cx} {e : Expr} {t1 t2 : TE} (a : PE X e t1) (c : PE X e t2) : PE X e (fun σ H Q => t1 σ H Q ∨ t2 σ H Q) := ⟨fun pins s σ H Q I h => h.elim (a.run pins s σ H Q I) (c.run pins s σ H Q I)⟩
theorem spI_len {K : PySem.W.Frag} {T : List (Addr × Str)} {cn : Str} {F : Fs → List D → Tr Fs} {n : Nat} (hn : ∀ fs (P : Fs → Nat → Prop) (X : Str → Fs → Nat → Prop) ds b, Al P X (F fs ds) b → ds.length = n) {vs : List V} (h : spI K T cn F vs H Q E) : vs.length = n + 1 := by
  obtain ⟨p, c, U, ds, b, x, dx, fvs, fs, rest, rfl, hx, df, ux, np, nc, dn, wd, u, al⟩ := h
  rw [List.length_cons, dn.length, hn _ _ _ _ _ al]
theorem lenI1 {F : Fs → D → Tr Fs} (fs : Fs) (P : Fs → Nat → Prop) (X : Str → Fs → Nat → Prop) (ds : List D) (b : Nat) (h : Al P X (ul1 (F fs) ds) b) : ds.length = 1 := by obtain ⟨_, rfl, _⟩ := al_ul1 h; rfl
theorem lenI3 {F : Fs → D → D → D → Tr Fs} (fs : Fs) (P : Fs → Nat → Prop) (X : Str → Fs → Nat → Prop) (ds : List D) (b : Nat) (h : Al P X (ul3 (F fs) ds) b) : ds.length = 3 := by obtain ⟨_, _, _, rfl, _⟩ := al_ul3 h; rfl
theorem lenI4 {F : Fs → D → D → D → D → Tr Fs} (fs : Fs) (P : Fs → Nat → Prop) (X : Str → Fs → Nat → Prop) (ds : List D) (b : Nat) (h : Al P X (ul4 (F fs) ds) b) : ds.length = 4 := by obtain ⟨_, _, _, _, rfl, _⟩ := al_ul4 h; rfl
section
variable {K : PySem.W.Frag} {T : List (Addr × Str)} {N : List Str} {cn : Str} {vs : List V} {t : TS} {envI : Fs → Env}
theorem ini_of1 {F : Fs → D → Tr Fs} {m : Fs → D → Tr (Fl Fs Empty)} (h : spI K T cn (fun fs => ul1 (F fs)) vs H Q E) (hF : ∀ fs x, F fs x = finI (m fs x)) (hs : ∀ p c fs x, SS ⟨K, T, p, c⟩ E (.oi cn fs :: ([x].map Sl.fz ++ List.replicate (N.length - (1 + 1)) Sl.no)) t envI envE (m fs x)) (he : ∀ fs, (envI fs)[0]? = some (.oi cn fs) := by intro _; rfl) : t { nx := fun _ H' => Q .non H', rt := Q } (L2.start N vs) H :=
  ini_of h (fun p c fs ds ⟨_, _, _, al⟩ => by
    obtain ⟨x, rfl, _⟩ := al_ul1 al
    exact ⟨m fs x, hF fs x, hs p c fs x⟩) he
theorem ini_of3 {F : Fs → D → D → D → Tr Fs} {m : Fs → D → D → D → Tr (Fl Fs Empty)} (h : spI K T cn (fun fs => ul3 (F fs)) vs H Q E) (hF : ∀ fs x y z, F fs x y z = finI (m fs x y z)) (hs : ∀ p c fs x y z, SS ⟨K, T, p, c⟩ E (.oi cn fs :: ([x, y, z].map Sl.fz ++ List.replicate (N.length - (3 + 1)) Sl.no)) t envI envE (m fs x y z)) (he : ∀ fs, (envI fs)[0]? = some (.oi cn fs) := by intro _; rfl) : t { nx := fun _ H' => Q .non H', rt := Q } (L2.start N vs) H :=
  ini_of h (fun p c fs ds ⟨_, _, _, al⟩ => by
    obtain ⟨x, y, z, rfl, _⟩ := al_ul3 al
    exact ⟨m fs x y z, hF fs x y z, hs p c fs x y z⟩) he
theorem ini_of4 {F : Fs → D → D → D → D → Tr Fs} {m : Fs → D → D → D → D → Tr (Fl Fs Empty)} (h : spI K T cn (fun fs => ul4 (F fs)) vs H Q E) (hF : ∀ fs x y z w, F fs x y z w = finI (m fs x y z w)) (hs : ∀ p c fs x y z w, SS ⟨K, T, p, c⟩ E (.oi cn fs :: ([x, y, z, w].map Sl.fz ++ List.replicate (N.length - (4 + 1)) Sl.no)) t envI envE (m fs x y z w)) (he : ∀ fs, (envI fs)[0]? = some (.oi cn fs) := by intro _; rfl) : t { nx := fun _ H' => Q .non H', rt := Q } (L2.start N vs) H :=
  ini_of h (fun p c fs ds ⟨_, _, _, al⟩ => by
    obtain ⟨x, y, z, w, rfl, _⟩ := al_ul4 al
    exact ⟨m fs x y z w, hF fs x y z w, hs p c fs x y z w⟩) he
end
def spLaw (K : PySem.W.Frag) (T : List (Addr × Str)) : Sp := fun vs H Q _ => ∃ (a : Addr) (ns : List Int), vs = [.ref a] ∧ SqL K H a (ns.map V.int) ∧ ns.length ≤ 63 ∧ LamX.Tabs T H ∧ ∀ H', Q (.bl true) H'
theorem spLaw_len {K : PySem.W.Frag} {T : List (Addr × Str)} {vs : List V} (h : spLaw K T vs H Q E) : vs.length = 1 := by
  obtain ⟨a, ns, rfl, _⟩ := h
  rfl
theorem law_of {K : PySem.W.Frag} {T : List (Addr × Str)} {N : List Str} {i n : Nat} {F : Tr D} {m : Tr (Fl Unit Empty)} {vs : List V} {t : TS} {envU : Unit → Env} (yes : Yes F) (h : spLaw K T vs H Q E) (hN : N.length = n + 1) (hi : i < n + 1) (h0 : i ≠ 0) (hF : F = fin m)
    (hs : ∀ p c, SS ⟨K, T, p, c⟩ EF ((List.replicate (n + 1) Sl.no).set i (.fz .pen)) t envU envE m) : tSeq (tAsg (tCl (rSp (spPn K) [] E) (tCons (tVar 0) tNil)) (gName i)) t { nx := fun _ H' => Q .non H', rt := Q } (L2.start N vs) H := by
  obtain ⟨a, ns, rfl, hS, hl, hT, q⟩ := h
  have st0 : L2.start N [V.ref a] = some (.ref a) :: List.replicate n none := by
    unfold L2.start
    rw [List.length_singleton, hN]
    rfl
  rw [st0]
  refine ⟨.ref a, rfl, ?_⟩
  refine ⟨a, ns, rfl, hS, hl, fun p c H1 np pn s => ?_⟩
  obtain ⟨ns', i', z', h1, h2, _⟩ := id pn
  have wd : Wd ⟨K, T, p, c⟩ H1 1000000 := ⟨pn, hT.ext s⟩
  have u : UOk ⟨K, T, p, c⟩ (fun x => x = p ∨ x = c) H1 := ⟨.inl rfl, .inr rfl, fun x hx => by
    rcases hx with rfl | rfl
    · exact ⟨_, h1, fun _ z => by cases z⟩
    · exact ⟨_, h2, fun _ z => by cases z⟩⟩
  have own : ∀ j x, ¬ OwnAt ((some (V.ref a) :: List.replicate n none).set i (some (.ref p))) ((List.replicate (n + 1) Sl.no).set i (.fz .pen)) j x := fun j x z => by
    obtain ⟨_, z2⟩ := ownAt_set z
    rcases z2.2 with ⟨ds, e⟩ | ⟨c, fs, e⟩
    · cases (List.mem_replicate.mp (List.mem_of_getElem? e)).2
    · cases (List.mem_replicate.mp (List.mem_of_getElem? e)).2
  have rl0 : Rel ⟨K, T, p, c⟩ (fun x => x = p ∨ x = c) H1 (some (V.ref a) :: List.replicate n none) (List.replicate (n + 1) Sl.no) := by
    refine ⟨by rw [List.length_cons, List.length_replicate, List.length_replicate], fun j s e => ?_, fun j k x ne z1 z2 => ?_⟩
    · have hj := (List.getElem?_eq_some_iff.mp e).1
      rw [List.length_replicate] at hj
      obtain ⟨_, rfl⟩ := List.mem_replicate.mp (List.mem_of_getElem? e)
      have hl2 : j < (some (V.ref a) :: List.replicate n (none : Option V)).length := by rw [List.length_cons, List.length_replicate]; exact hj
      exact ⟨_, List.getElem?_eq_getElem hl2, trivial⟩
    · rcases z1.2 with ⟨ds, e⟩ | ⟨c, fs, e⟩
      · cases (List.mem_replicate.mp (List.mem_of_getElem? e)).2
      · cases (List.mem_replicate.mp (List.mem_of_getElem? e)).2
  have rl := rl0.set i (v := .ref p) (d := .pen) .pen
  have yes' : Al (fun d _ => d = .bl true) (fun _ _ _ => False) (fin m) 1000000 := hF ▸ yes
  refine hs p c (fun _ => False) (fun x => x = p ∨ x = c) H1 (fun x => x = p ∨ x = c) _ _ H1 1000000 ⟨rl, wd, u, fun _ z => z, fun j x z => (own j x z).elim, fun _ _ z _ _ _ => z, fun j ds x z1 z2 => (own j x ⟨z2, .inl ⟨ds, z1⟩⟩).elim, fun j cc fs x z1 z2 => (own j x ⟨z2, .inr ⟨cc, fs, z1⟩⟩).elim⟩ ((al_bd.mp yes').mono (fun f b h => ?_) (fun _ _ _ z => z.elim))
  cases f with
  | nx w => cases (show D.non = .bl true from h)
  | rt d =>
    have h' : d = .bl true := h
    subst h'
    intro v H2 dn _ _
    cases dn
    exact q H2
  | bk e => exact nomatch e
  | ct e => exact nomatch e
end
end Gp
namespace Gp
open PySem PySem.Spec PyProof.Rows L2 Gh
section
variable {g : Gw}
end
end Gp
namespace Gp
open PySem PySem.Spec PyProof.Rows L2 Gh
theorem fnOk_weak {P : Program} {w : World} {K : PySem.W.Frag} {mg : Str → Option Value} {base : Heap} {CX : CXT} {k : Nat} {f : Addr} {fd : FuncData} {ps : List Str} {sp sp' : Sp} (F : FnOk P w K mg base CX k f fd ps sp) (h : ∀ vs H Q E, sp' vs H Q E → sp vs H Q E) : FnOk P w K mg base CX k f fd ps sp' :=
  ⟨fun vs H Q E z => F.len vs H Q E (h _ _ _ _ z), fun A o s H a us vs Q E hr e0 hb r z => F.run A o s H a us vs Q E hr e0 hb r (h _ _ _ _ z)⟩
def F_draw (x y : D) : Tr D := match x, y with
  | .pen, .int m => .draw m fun d => .ok (.int d)
  | _, _ => .bad
theorem draw_of {K : PySem.W.Frag} {T : List (Addr × Str)} {vs : List V} {H : Hp} {Q : VK} {E : XK} (h : spF K T (ul2 F_draw) vs H Q E) : spDr vs H Q E := by
  obtain ⟨p, c, U, ds, b, dn, wd, u, al⟩ := h
  obtain ⟨x, y, rfl, al2⟩ := al_ul2 al
  obtain ⟨v, w, rfl, d1, d2⟩ := denL_2 dn
  unfold F_draw at al2
  split at al2
  · rename_i m
    cases d1
    cases d2
    obtain ⟨b', rfl, h0, h1, h2⟩ := al2
    refine ⟨p, c, b', m, rfl, h0, log_of h0 h1, wd.pen, fun d H' d0 d1 pn k => ?_⟩
    exact h2 d d0 d1 (.int d) H' (.int d) ⟨pn, tabs_keepP k wd.pen wd.tabs⟩ (keep_fr k)
  · exact al2.elim
end Gp
end
section
set_option Elab.async false
set_option linter.all false
set_option maxRecDepth 100000
set_option maxHeartbeats 4000000
namespace Gp
open PySem PySem.Spec PyProof.Rows L2 Gh
def tryT {α β : Type} : Tr α → (α → Tr β) → (Str → Fs → Tr β) → Tr β
  | .ok a, k, _ => k a
  | .ex c fs, _, x => x c fs
  | .bad, _, _ => .bad
  | .draw m f, k, x => .draw m fun d => tryT (f d) k x
theorem al_try {α β : Type} {P : β → Nat → Prop} {E : Str → Fs → Nat → Prop} {m : Tr α} {k : α → Tr β} {x : Str → Fs → Tr β} {b : Nat} : Al P E (tryT m k x) b ↔ Al (fun a b1 => Al P E (k a) b1) (fun c fs b1 => Al P E (x c fs) b1) m b := by
  induction m generalizing b with
  | draw m f ih =>
    constructor
    · rintro ⟨b', e, h1, h2, h3⟩
      exact ⟨b', e, h1, h2, fun d d0 d1 => (ih d).mp (h3 d d0 d1)⟩
    · rintro ⟨b', e, h1, h2, h3⟩
      exact ⟨b', e, h1, h2, fun d d0 d1 => (ih d).mpr (h3 d d0 d1)⟩
  | _ => exact Iff.rfl
def THd (K : PySem.W.Frag) (T : List (Addr × Str)) (FH : Tr D → Tr D) : (XK → Hp → VK → Prop) → Hp → VK → Prop := fun tl H Q => ∃ p c U b m, Wd ⟨K, T, p, c⟩ H b ∧ UOk ⟨K, T, p, c⟩ U H ∧
  (∀ (E : XK) H' b' Q', Fr H H' p → Wd ⟨K, T, p, c⟩ H' b' → Al (okP ⟨K, T, p, c⟩ U H' Q') (exP ⟨K, T, p, c⟩ U E H') m b' → tl E H' Q') ∧ Al (okP ⟨K, T, p, c⟩ U H Q) (fun _ _ _ => False) (FH m) b
section
variable {g : Gw} {Mt U0 U U' : Addr → Prop} {H0 H H' H1 H2 : Hp} {b b1 : Nat} {σ : L2.St} {ε ε' : Env} {E : XK} {W L W' : Type}
variable {env : W → Env} {envL : L → Env} {env' : W' → Env} {u ta tb : TS} {te : TE} {me : Tr D}
theorem UOk.extN (u : UOk g U H) (n : LamX.ExtN H H') : UOk g U H' := ⟨u.p, u.c, fun a ha => by
  obtain ⟨o, h, z⟩ := u.al a ha
  exact ⟨o, n a o h z, z⟩⟩
theorem se_lam {FH : Tr D → Tr D} {t : XK → TE} {m : Tr D} (h : ∀ E, SE g E ε (t E) m) : SE g E ε (LamX.tLam g.T (THd g.K g.T FH) t) (nox (FH m)) := fun U σ H b Q R W u q => by
  refine ⟨W.tabs, fun H1 n t1 => ⟨g.p, g.c, U, b, m, ⟨W.pen.extN n, t1⟩, u.extN n, fun E H' b' Q' f w' a' => ?_, ?_⟩⟩
  · have f1 : Fr H H' g.p := (ext_fr n).trans f
    exact h E U σ H' b' Q' (R.fr u f1) w' (u.fr f1 w') a'
  · exact Al.mono (fun _ _ z => okP.fr (ext_fr n) z) (fun _ _ _ z => z) (al_nox (E' := fun _ _ _ => False) q)
theorem fin_al {P : D → Nat → Prop} {X : Str → Fs → Nat → Prop} {m : Tr (Fl Unit Empty)} (h : Al P X (fin m) b) : Al (fun f b => match f with | .nx _ => P .non b | .rt d => P d b | .bk e => nomatch e | .ct e => nomatch e) X m b := by
  refine (al_bd.mp h).mono (fun f b h => ?_) (fun _ _ _ h => h)
  cases f with
  | nx w => exact h
  | rt d => exact h
  | bk e => exact nomatch e
  | ct e => exact nomatch e
theorem run_rest {t : TS} {envU : Unit → Env} {m : Tr (Fl Unit Empty)} {Q : VK} (ss : SS g EF ε t envU envE m) (R : Rel g U H1 σ ε) (no : ∀ i a, ¬ OwnAt σ ε i a) (w : Wd g H1 b) (u : UOk g U H1) (f : Fr H H1 g.p) (al : Al (okP g U H Q) (fun _ _ _ => False) (fin m) b) :
    t { nx := fun _ H' => Q .non H', rt := Q } σ H1 := by
  refine ss (fun _ => False) U H U _ _ H1 b ⟨R, w, u, fun _ z => z, fun i a z => (no i a z).elim, fun a o z1 z2 _ z3 => f a o z1 z2 z3, fun i ds' a z1 z2 => (no i a ⟨z2, .inl ⟨ds', z1⟩⟩).elim, fun i c fs a z1 z2 => (no i a ⟨z2, .inr ⟨c, fs, z1⟩⟩).elim⟩ ((fin_al al).mono (fun f b1 h1 => ?_) (fun c fs b1 h1 => h1.elim))
  cases f with
  | nx w => exact fun U' σ' H' e s => h1 .non H' .non s.wd fun a o z1 z2 z3 => s.ext a o z1 z2 (fun z => z) z3
  | rt d => exact fun v H' dn w f => h1 v H' dn w fun a o z1 z2 z3 => f a o z1 z2 (fun z => z) z3
  | bk e => exact nomatch e
  | ct e => exact nomatch e
def ExH (g : Gw) (U : Addr → Prop) (H : Hp) (Q : VK) (x : Str → Fs → Tr D) : XK := fun cls d H' => ∃ cl fs b1 dd fvs, cls = .ref (gd cl g.K) ∧ d = some dd ∧ H' dd = some (.xd fvs) ∧ ¬ U dd ∧ DenF g U H' fvs fs ∧ Wd g H' b1 ∧ Fr H H' g.p ∧ Al (okP g U H Q) (fun _ _ _ => False) (x cl fs) b1
end
end Gp
end
section
set_option Elab.async false
set_option linter.all false
set_option maxRecDepth 100000
set_option maxHeartbeats 4000000
namespace Gp
open PySem PySem.Spec PyProof.Rows L2 Gh
section
variable {g : Gw} {Mt U0 U U' : Addr → Prop} {H0 H H' H1 H2 : Hp} {b b1 b2 : Nat} {σ : L2.St} {ε ε' : Env} {E : XK} {W L W' : Type}
variable {env : W → Env} {envL : L → Env} {env' : W' → Env} {u ta tb : TS} {te : TE} {me : Tr D}
theorem oi_step {c : Str} {fs fs' : Fs} {a dx' : Addr} {fvs' : List (Str × V)} (s1 : Stt g Mt U0 H0 U σ H1 b1 ε) (hi : ε[0]? = some (.oi c fs)) (eo : σ[0]? = some (some (.ref a))) (h2 : H2 a = some (.ins (gd c g.K) dx' fvs')) (d2 : DenF g U H2 fvs' fs') (w2 : Wd g H2 b2) (f2 : FrM g (· = a) H1 H2) :
    Stt g Mt U0 H0 U σ H2 b2 (ε.set 0 (.oi c fs')) ∧ Ev U H1 U H2 := by
  obtain ⟨o, eo', a0, dx, fvs, e0, ha, df, ua, n1, n2⟩ := s1.rel.at_ 0 _ hi
  have ea : a0 = a := by
    rw [eo'] at eo
    subst e0
    cases eo
    rfl
  subst ea
  have xt : ExtU U H1 H2 := fun x o e ne t => f2 x o e (fun z => ne (z ▸ s1.uok.p)) (fun z => ne (z ▸ ua)) t
  have il : 0 < ε.length := (List.getElem?_eq_some_iff.mp hi).1
  have ow : ∀ j x, OwnAt σ (ε.set 0 (.oi c fs')) j x → OwnAt σ ε j x := fun j x z => by
    obtain ⟨z1, z2⟩ := z
    by_cases q : 0 = j
    · subst q
      exact ⟨z1, .inr ⟨c, fs, hi⟩⟩
    · rw [List.getElem?_set_ne q] at z2
      exact ⟨z1, z2⟩
  have apart : ∀ j x, 0 ≠ j → OwnAt σ ε j x → x ≠ a0 := fun j x ne z e => by
    subst e
    exact s1.rel.apart 0 j x ne ⟨eo, .inr ⟨c, fs, hi⟩⟩ z
  have hmt := s1.oim 0 c fs a0 hi eo
  refine ⟨⟨⟨by rw [List.length_set]; exact s1.rel.len, fun j x e => ?_, fun j k x ne z1 z2 => s1.rel.apart j k x ne (ow _ _ z1) (ow _ _ z2)⟩, w2, ⟨s1.uok.p, s1.uok.c, fun x hx => ?_⟩, s1.sub, fun j x z => s1.own j x (ow _ _ z), fun x o e m1 m2 m3 => ?_, fun j xs x e1 e2 => ?_, fun j c' fs' x e1 e2 => ?_⟩, ⟨xt, fun _ _ _ n _ => n⟩⟩
  · by_cases q : 0 = j
    · subst q
      rw [List.getElem?_set_self il] at e
      cases e
      exact ⟨_, eo, a0, dx', _, rfl, h2, d2, ua, n1, n2⟩
    · rw [List.getElem?_set_ne q] at e
      obtain ⟨o, e1, e2⟩ := s1.rel.at_ j x e
      refine ⟨o, e1, ?_⟩
      cases x with
      | no => trivial
      | fz d =>
        obtain ⟨v, e3, e4⟩ := e2
        exact ⟨v, e3, e4.ext xt⟩
      | ow ds2 =>
        obtain ⟨a2, v2, rfl, h2, l2, d2, u2, m1, m2⟩ := e2
        have ne := apart j a2 q ⟨e1, .inl ⟨ds2, e⟩⟩
        exact ⟨a2, v2, rfl, f2 _ _ h2 m1 ne (fun _ z => by cases z), l2, d2.ext xt, u2, m1, m2⟩
      | oi c fs =>
        obtain ⟨a2, dx, v2, rfl, h2, d2, u2, m1, m2⟩ := e2
        have ne := apart j a2 q ⟨e1, .inr ⟨c, fs, e⟩⟩
        exact ⟨a2, dx, v2, rfl, f2 _ _ h2 m1 ne (fun _ z => by cases z), d2.ext xt, u2, m1, m2⟩
  · by_cases q : x = a0
    · subst q
      exact ⟨_, h2, fun _ z => by cases z⟩
    · by_cases qp : x = g.p
      · subst qp
        obtain ⟨ns, i, z, h, _⟩ := w2.pen
        exact ⟨_, h, fun _ z => by cases z⟩
      · obtain ⟨o, e, t⟩ := s1.uok.al x hx
        exact ⟨o, f2 x o e qp q t, t⟩
  · exact f2 x o (s1.ext x o e m1 m2 m3) m1 (fun z => m2 (z ▸ hmt)) m3
  · by_cases q : 0 = j
    · subst q
      rw [List.getElem?_set_self il] at e1
      cases e1
    · rw [List.getElem?_set_ne q] at e1
      exact s1.nu0 j xs x e1 e2
  · by_cases q : 0 = j
    · subst q
      exact s1.oim 0 c fs x hi e2
    · rw [List.getElem?_set_ne q] at e1
      exact s1.oim j c' fs' x e1 e2
def tSup (K : PySem.W.Frag) (B : Addr) (m : Str) (f2 : Addr) (ta : TA) (sp : Sp) (dvs : List V) (E : XK) : TS := fun D σ H => ∃ a C dx fs, σ[0]? = some (some (.ref a)) ∧ H a = some (.ins C dx fs) ∧ SupC K C B m f2 ∧ ta σ H fun us H2 => sp (.ref a :: (us ++ dvs)) H2 (fun _ H3 => D.nx σ H3) E
theorem ss_sup {c m : Str} {B f2 : Addr} {fs : Fs} {t : TA} {mt : Tr (List D)} {F : Fs → List D → Tr Fs} {k : Fs → Tr (Fl W L)} (hS : SupC g.K (gd c g.K) B m f2) (ht : SA g E ε t mt) (hk : ∀ fs', SS g E (ε.set 0 (.oi c fs')) u env envL (k fs')) (hi : ε[0]? = some (.oi c fs) := by rfl) :
    SS g E ε (tSeq (tSup g.K B m f2 t (spI g.K g.T c F) [] E) u) env envL (bd mt fun ds => bd (F fs ds) k) := fun Mt U0 H0 U Ds σ H b s q => by
  obtain ⟨o, eo, a, dx, fvs, rfl, ha, df, ua, n1, n2⟩ := s.rel.at_ 0 _ hi
  refine ⟨a, _, dx, fvs, eo, ha, hS, ht.sstep s q fun vs ds H1 b1 dv s1 q1 => ?_⟩
  obtain ⟨o, eo', a', dx', fvs', rfl, ha', df', ua', n1', n2'⟩ := s1.rel.at_ 0 _ hi
  have ea : a' = a := by rw [eo'] at eo; cases eo; rfl
  subst ea
  rw [List.append_nil]
  refine ⟨g.p, g.c, U, ds, b1, a', dx', fvs', fs, vs, rfl, ha', df', ua', n1', n2', dv, s1.wd, s1.uok, (al_bd.mp q1).mono (fun fs2 b2 h dx2 fvs2 H2 e2 d2 w2 f2 => ?_) (fun cn fs2 b2 h dd fv H2 e1 nd d1 w1 f1 => ?_)⟩
  · obtain ⟨s2, ev⟩ := oi_step s1 hi eo e2 d2 w2 f2
    exact hk fs2 Mt U0 H0 U Ds σ H2 b2 s2 (h.mono (fun _ _ z => z.ev ev) (fun _ _ _ z => z))
  · have hmt := s1.oim 0 c fs a' hi eo
    exact h dd fv H2 e1 (fun z => nd (s1.sub _ z)) (d1.sub fun x _ z => s1.sub x z) w1 fun x o e m1 m2 m3 => f1 x o (s1.ext x o e m1 m2 m3) m1 (fun z => m2 (z ▸ hmt)) m3
end
section
variable {K : PySem.W.Frag} {x qual file : Str} {params : Arguments} {body : List Stmt} {scope : Scope} {dvs : List V} {f B : Addr} {fd : FuncData} {ps : List Str}
theorem SupF.bindsN (F : SupF K x qual params body scope [] f B file fd)
    (h : ∀ (cl : List (Str × Addr)) (kV doc pm : Value) (an : Option Addr) (cdv ct : Value) (us : List Value), us.length = ps.length → bindArgs (PySem.W.fnX x qual params body scope cl .none kV doc pm an cdv ct) ⟨us, []⟩ = pure (ps.zip us)) : Binds K fd ps [] := by
  obtain ⟨oc, od, dV, kV, doc, pm, an, cda, ct, osl, cc, rfl, lk, hcd, hD, _⟩ := F.ex
  rcases hD with ⟨_, rfl⟩ | ⟨e, _⟩
  · exact .all (h _ kV doc pm an _ ct)
  · exact absurd rfl e
theorem SupF.binds1 (F : SupF K x qual params body scope dvs f B file fd) (n j : Nat) (hd : dvs ≠ []) (hn : n + (dvs.length - j) = ps.length)
    (h : ∀ (cl : List (Str × Addr)) (T : Addr) (kV doc pm : Value) (an : Option Addr) (cdv ct : Value) (us its : List Value), us.length = n → its.length = dvs.length →
      ∃ k, bindArgs (PySem.W.fnX x qual params body scope cl (.ref T) kV doc pm an cdv ct) ⟨us, []⟩ = seqItems? (.ref T) >>= k ∧ k (some its.toArray) = pure (ps.zip (us ++ its.drop j))) : ∃ ds, Vals (dvs.drop j) ds ∧ Binds K fd ps ds := by
  obtain ⟨oc, od, dV, kV, doc, pm, an, cda, ct, osl, cc, rfl, lk, hcd, hD, _⟩ := F.ex
  rcases hD with ⟨e, _⟩ | ⟨_, T, o, its, m, rfl, lT, oT, rT⟩
  · exact absurd e hd
  · refine ⟨its.drop j, rT.drop j, fun s us X hlen => ?_⟩
    have l1 : its.length = dvs.length := rT.length.symm
    have l2 : us.length = n := by
      rw [List.length_append, List.length_drop, l1] at hlen
      omega
    obtain ⟨k, e1, e2⟩ := h _ T kV doc pm an _ ct us its l2 l1
    refine BindsTo.of_looks fun M => ?_
    rw [e1]
    exact looks_items X lT oT (.of_pure e2)
end
end Gp
end
section
set_option Elab.async false
set_option linter.all false
set_option maxRecDepth 100000
set_option maxHeartbeats 4000000
namespace Gp
open PySem PySem.Spec PyProof.Rows L2 Gh
theorem fileB_ok {K : PySem.W.Frag} {file : Str} {v : Value} (h : fileB K file v = true) : ∃ c, v = .ref c ∧ ∃ ccl cdd vs ccs tf, K.lookup c = some ⟨ccl, cdd, .fields vs, ccs⟩ ∧ vs[2]? = some (.str file tf) := by
  unfold fileB at h
  split at h
  · rename_i c
    split at h
    · rename_i e
      split at h
      · rename_i e2
        have := of_decide_eq_true h
        subst this
        exact ⟨c, rfl, _, _, _, _, _, e, e2⟩
      · cases h
    · cases h
  · cases h
theorem cellB_ok {K : PySem.W.Frag} {B : Addr} {l : List (Str × Addr)} (h : cellB K B l = true) : ∃ x c, l = [(x, c)] ∧ ∃ cl cld csl, K.lookup c = some ⟨cl, cld, .cell (some (.ref B)), csl⟩ := by
  unfold cellB at h
  split at h
  · rename_i x c
    split at h
    · rename_i e
      have := of_decide_eq_true h
      subst this
      exact ⟨x, c, rfl, _, _, _, e⟩
    · cases h
  · cases h
abbrev FnS (K : PySem.W.Frag) (d : Ds) (file : Str) (fd : FuncData) : Prop := SupF K d.d.name d.d.qual (defArgs d.d.st) (defBody d.d.st) (defScope d.d.st) (d.d.dvs K) (d.d.adr K) (d.own K) file fd
theorem Ds.supF {file : Str} {K : PySem.W.Frag} {d : Ds} (e : fnAtS K (d.d.adr K) = d.val) (c : d.ok file K = true) : ∃ fd, FnS K d file fd := by
  obtain ⟨kp, c2⟩ := He.ba c
  unfold fnAtS at e
  cases q : K.lookup (d.d.adr K) with
  | none =>
    rw [q] at c2
    cases c2
  | some o =>
    obtain ⟨oc, od, dt, osl⟩ := o
    rw [q] at c2 e
    cases dt with
    | func fd =>
      obtain ⟨n1, n2, n3, n4, n5, n6, n7, n8, n9, n10, n11, n12, n13, n14, n15⟩ := fd
      have e2 : (some (n1, n2, n3, n4, n5, n6, n7.map (fun q => (q.1, 0)), n15) : He.FnW) = (some (d.d.name, d.d.qual, defArgs d.d.st, FuncBody.stmts (defBody d.d.st), defScope d.d.st, mainGlobals, [(("__class__" : Str), (0 : Addr))], builtinsNs) : He.FnW) := e
      simp only [Option.some.injEq, Prod.mk.injEq] at e2
      obtain ⟨h1, h2, h3, h4, h5, h6, h7, h8⟩ := e2
      subst h1 h2 h3 h4 h5 h6 h8
      have c3 : (PySem.W.codeIn K n13 d.d.qual && (He.dflB K n8 (d.d.dvs K) && (fileB K file n13 && cellB K (d.own K) n7))) = true := c2
      obtain ⟨k1, k2⟩ := He.ba c3
      obtain ⟨k3, k4⟩ := He.ba k2
      obtain ⟨k5, k6⟩ := He.ba k4
      obtain ⟨cda, rfl, hf⟩ := fileB_ok k5
      obtain ⟨x, cc, rfl, hc⟩ := cellB_ok k6
      have hx : x = "__class__" := by
        simp only [List.map_cons, List.map_nil, List.cons.injEq, Prod.mk.injEq, and_true] at h7
        exact h7
      subst hx
      exact ⟨_, ⟨oc, od, n8, n9, n10, n11, n12, cda, n14, osl, cc, rfl, q, k1, He.dflB_ok k3, hc, hf⟩, kp⟩
    | _ => cases c2
theorem SaysS.sup_ {ex : List (PySem.W.Frag → Bool)} {fn : List Df} {tf : List He.Defn} {fs : List Ds} {file : Str} {h : Heap} {K : PySem.W.Frag} (c : SaysS ex fn tf fs file h K) (i : Nat) {d : Ds} (hd : fs[i]? = some d := by rfl) : ∃ fd, FnS K d file fd := by
  have e2 : (fs.map fun d => fnAtS K (d.d.adr K))[i]? = (fs.map Ds.val)[i]? := by rw [c.v]
  rw [List.getElem?_map, List.getElem?_map, hd] at e2
  exact Ds.supF (Option.some.inj e2) (List.all_eq_true.mp c.o d (List.mem_of_getElem? hd))
theorem supCB_ok {c b m : Str} {f2 : PySem.W.Frag → Addr} {K : PySem.W.Frag} (h : supCB c b m f2 K = true) : SupC K (gd c K) (gd b K) m (f2 K) := by
  obtain ⟨h1, h2⟩ := He.ba h
  obtain ⟨h3, h4⟩ := He.ba h2
  obtain ⟨h5, h6⟩ := He.ba h4
  exact ⟨of_decide_eq_true h1, He.eqO_ok h3, of_decide_eq_true h5, h6⟩
end Gp
end
section
set_option Elab.async false
set_option linter.all false
set_option maxRecDepth 100000
set_option maxHeartbeats 4000000
namespace Gp
open PySem PySem.Spec PyProof.Rows L2 Gh
def tFCall (C : Addr) (m : Str) (C2 : Addr) (sp : Sp) (E : XK) (ta : TE) (t : TA) : TE := fun σ H Q => ta σ H fun x H1 => ∃ a dx fs b, x = .ref a ∧ H1 a = some (.ins C dx fs) ∧ fs.lookup m = some (.ref b) ∧ t σ H1 fun vs H2 => (∃ dx fs, H2 b = some (.ins C2 dx fs)) ∧ sp (.ref b :: vs) H2 Q E
theorem pe_fcall {X : Cx} {CX : CXT} {k : Nat} {C C2 g : Addr} {sp : Sp} {E : XK} {o e : Expr} {es : List Expr} {m : Str} {ta : TE} {t : TA} {apos pos : Pos} {pl : Sem Bool} (he : PE X o ta) (c : Cls X.K C) (n : NoAttr X.K C m) (co : StX.CallO X.K C2 g) (F : PromOX X CX k g [] sp) (hr : Room k X.A) (hx : Passes CX X E) (ha : PA X (e :: es) t)
    (hst : starEach (e :: es) X.env = (false, eval e X.env) :: starEach es X.env := by rfl) (hpl : (backTo pos (starEach es X.env)).any (·.1) = false := by rfl)
    (ht : eval (.Call (.Attribute o m apos) (e :: es) [] pos) X.env = (do
      let ov ← eval o X.env
      standAt apos.atName
      let (f, first) ← holding [ov] (getMethod ov m pl)
      callWith pos f first (backTo pos (starEach (e :: es) X.env)) (backToKw pos (keywordEach [] X.env))) := by rfl) :
    PE X (.Call (.Attribute o m apos) (e :: es) [] pos) (tFCall C m C2 sp E ta t) := by
  refine ⟨fun pins s σ H Q I h => ?_⟩
  refine PySem.W.methodCall_KW (pl := pl) (thn (he.run pins s σ H _ I h) fun u s1 ⟨x, H1, I1, rx, a, dx, fs, b, ex, ea, l, q⟩ => ?_) ht
  subst ex
  obtain rfl : u = Value.ref a := rx
  obtain ⟨mA, O, rr, _, _, _⟩ := ins_get I1.hok ea
  obtain ⟨od, J, hl⟩ := O.look
  refine PySem.W.method_usual (r := none) I1.kIn J (PySem.W.plainGet_of (c.get m)).1 (PySem.W.plainGet_of (c.get m)).2 n rfl ?_
  refine getattr_ok I1 ea c n l fun u s2 I2 ru => ?_
  obtain rfl : u = Value.ref b := ru
  refine StX.callO_with (thn (ha.run pos pins s2 σ H1 _ I2 q) fun us s3 ⟨vs, H2, I3, rv, hi, q2⟩ => ?_) hst hpl
  obtain ⟨ox, od, J, hd⟩ := StX.insC_at I3 (.inr hi)
  exact ⟨⟨C2, ox, od, J, hd⟩, StX.run_callO co (PromO.raw F) hr hx I3 (.inr hi) rv q2⟩
section
variable {g : Gw} {Mt U0 U U' : Addr → Prop} {H0 H H' H1 H2 : Hp} {b b1 b2 : Nat} {σ : L2.St} {ε ε' : Env} {E : XK}
theorem se_fcall {c m c2 : Str} {F : List D → Tr D} {ta : TE} {ma : Tr D} {t : TA} {mt : Tr (List D)} (ha : SE g E ε ta ma) (ht : SA g E ε t mt) :
    SE g E ε (tFCall (gd c g.K) m (gd c2 g.K) (spF g.K g.T F) E ta t) (bd ma fun o => isO c o fun fs => match fs.lookup m with | some y => isO c2 y fun _ => bd mt fun ds => F (y :: ds) | none => .bad) := fun U σ H b Q R W u q =>
  ha.step R W u q fun v d H1 b1 d1 w1 f1 R1 u1 q1 => by
    obtain ⟨fs, rfl, q2⟩ := al_isO q1
    obtain ⟨a, dx, fvs, rfl, ea, na, df⟩ := den_obj d1
    cases e : fs.lookup m with
    | none => rw [e] at q2; exact q2.elim
    | some y =>
      rw [e] at q2
      obtain ⟨v, hv, dy⟩ := df.look e
      obtain ⟨fs2, rfl, q3⟩ := al_isO q2
      obtain ⟨a2, dx2, fvs2, rfl, ea2, na2, df2⟩ := den_obj dy
      refine ⟨a, dx, fvs, a2, rfl, ea, hv, ht.step R1 w1 u1 q3 fun vs ds H2 b2 dv w2 f2 R2 u2 q4 => ?_⟩
      have np : a2 ≠ g.p := fun z => na2 (z ▸ u1.p)
      exact ⟨⟨dx2, fvs2, f2 _ _ ea2 np (fun _ z => by cases z)⟩, g.p, g.c, U, _, b2, .cons (dy.fr u1 f2) dv, w2, u2, q4.mono (fun _ _ h => h.fr (f1.trans f2)) (fun _ _ _ h => h)⟩
variable {W L : Type} {env : W → Env} {envL : L → Env} {a r : TS} {t : TS} {m : Tr (Fl W L)}
theorem ss_assoc {c : TS} (h : SS g E ε (tSeq a (tSeq c r)) env envL m) : SS g E ε (tSeq (tSeq a c) r) env envL m := h
theorem ss_next (h : SS g E ε r env envL m) : SS g E ε (tSeq tNext r) env envL m := h
end
theorem sup_goal {K : PySem.W.Frag} {B f2 : Addr} {m : Str} {t1 t2 : TS} {ta : TA} {sp2 : Sp} {dvs2 : List V} {E2 : XK} {Q : VK} {σ : L2.St} {H : Hp} (h : tSeq t1 (tSeq (tSup K B m f2 ta sp2 dvs2 E2) t2) { nx := fun _ H' => Q .non H', rt := Q } σ H) :
    t1 { nx := fun σ1 H1 => ∃ a C dx fs, σ1[0]? = some (some (.ref a)) ∧ H1 a = some (.ins C dx fs) ∧ SupC K C B m f2 ∧ ta σ1 H1 fun us H2 => sp2 (.ref a :: (us ++ dvs2)) H2 (fun _ H3 => t2 { nx := fun _ H' => Q .non H', rt := Q } σ1 H3) E2, rt := Q } σ H := h
end Gp
end
section
set_option Elab.async false
set_option linter.all false
set_option maxRecDepth 100000
set_option maxHeartbeats 4000000
namespace Gp
open PySem PySem.Spec PyProof.Rows L2 Gh
theorem obsL_eq {as : List Addr} {ex : List (PySem.W.Frag → Bool)} {fn : List Df} {tf : List He.Defn} {fs : List Ds} {file : Str} {g : Addr → Option Obj} {s : Shared} (h : ∀ a, g a = s.heap.get? a) : obsL as ex fn tf fs file g = (hookL as ex fn tf fs file).obs s := by
  have e : g = s.heap.get? := funext h
  rw [e] <;> rfl
end Gp
end
section
set_option Elab.async false
set_option linter.all false
set_option maxRecDepth 100000
set_option maxHeartbeats 4000000
namespace Gp
open PySem PySem.Spec PyProof.Rows L2 Gh
def insS (a : Int) : List Int → List Int
  | [] => [a]
  | b :: r => if a < b then a :: b :: r else if a = b then b :: r else b :: insS a r
def setI : List Int → List Int
  | [] => []
  | a :: r => insS a (setI r)
theorem mem_insS {x a : Int} : ∀ {l : List Int}, x ∈ insS a l ↔ x = a ∨ x ∈ l
  | [] => by simp [insS]
  | b :: r => by
    unfold insS
    split
    · simp
    · split
      · rename_i h
        subst h
        simp
      · rw [List.mem_cons, mem_insS, List.mem_cons]
        constructor
        · rintro (h | h | h)
          · exact .inr (.inl h)
          · exact .inl h
          · exact .inr (.inr h)
        · rintro (h | h | h)
          · exact .inr (.inl h)
          · exact .inl h
          · exact .inr (.inr h)
theorem mem_setI {x : Int} : ∀ {l : List Int}, x ∈ setI l ↔ x ∈ l
  | [] => Iff.rfl
  | a :: r => by
    unfold setI
    rw [mem_insS, mem_setI, List.mem_cons]
theorem ris_insS {a : Int} : ∀ {l : List Int}, l.Pairwise (· < ·) → (insS a l).Pairwise (· < ·)
  | [], _ => List.pairwise_singleton _ _
  | b :: r, h => by
    obtain ⟨h1, h2⟩ := List.pairwise_cons.mp h
    unfold insS
    split
    · rename_i q
      refine List.pairwise_cons.mpr ⟨fun x hx => ?_, h⟩
      rcases List.mem_cons.mp hx with rfl | hx
      · exact q
      · exact Int.lt_trans q (h1 x hx)
    · split
      · exact h
      · rename_i q1 q2
        refine List.pairwise_cons.mpr ⟨fun x hx => ?_, ris_insS h2⟩
        rcases mem_insS.mp hx with rfl | hx
        · omega
        · exact h1 x hx
theorem ris_setI : ∀ l : List Int, (setI l).Pairwise (· < ·)
  | [] => List.Pairwise.nil
  | a :: r => ris_insS (ris_setI r)
theorem ris_eq : ∀ {l m : List Int}, l.Pairwise (· < ·) → m.Pairwise (· < ·) → (∀ x, x ∈ l ↔ x ∈ m) → l = m
  | [], [], _, _, _ => rfl
  | [], b :: m, _, _, h => absurd ((h b).mpr List.mem_cons_self) (by simp)
  | a :: l, [], _, _, h => absurd ((h a).mp List.mem_cons_self) (by simp)
  | a :: l, b :: m, h1, h2, h => by
    obtain ⟨p1, p2⟩ := List.pairwise_cons.mp h1
    obtain ⟨q1, q2⟩ := List.pairwise_cons.mp h2
    have e : a = b := by
      rcases List.mem_cons.mp ((h a).mp List.mem_cons_self) with e | e
      · exact e
      · rcases List.mem_cons.mp ((h b).mpr List.mem_cons_self) with e2 | e2
        · exact e2.symm
        · have := q1 a e
          have := p1 b e2
          omega
    subst e
    congr 1
    refine ris_eq p2 q2 fun x => ⟨fun hx => ?_, fun hx => ?_⟩
    · rcases List.mem_cons.mp ((h x).mp (List.mem_cons_of_mem _ hx)) with rfl | z
      · exact absurd (p1 x hx) (Int.lt_irrefl _)
      · exact z
    · rcases List.mem_cons.mp ((h x).mpr (List.mem_cons_of_mem _ hx)) with rfl | z
      · exact absurd (q1 x hx) (Int.lt_irrefl _)
      · exact z
end Gp
namespace Gp
open PySem PySem.Spec PyProof.Rows L2 Gh
section
variable {P : Program} {w : World} {A : Around} {E : Value → Shared → Prop} {s : Shared}
end
end Gp
end
section
set_option Elab.async false
set_option linter.all false
set_option maxRecDepth 100000
set_option maxHeartbeats 4000000
namespace Gp
open PySem PySem.Spec PyProof.Rows L2 Gh
section
variable {g : Gw} {Mt U0 U U' : Addr → Prop} {H0 H H' H1 H2 : Hp} {b b1 : Nat} {σ : L2.St} {ε ε' : Env} {W L W' : Type} {yd : List D}
variable {env : W → Env} {envL : L → Env} {env' : W' → Env} {u ta tb : TGn} {te : TE} {me : Tr D}
def gflP (g : Gw) (Mt U0 : Addr → Prop) (H0 : Hp) (U : Addr → Prop) (H : Hp) (D : GEnds) (env : W → Env) (envL : L → Env) : List Gp.D × Fl W L → Nat → Prop
  | (zs, .nx w), b => ∀ U' σ' H' ys', Ev U H U' H' → Stt g Mt U0 H0 U' σ' H' b (env w) → DenL g U' H' ys' zs → D.nx ys' σ' H'
  | (_, .rt _), _ => False
  | (zs, .bk w), b => ∀ U' σ' H' ys', Ev U H U' H' → Stt g Mt U0 H0 U' σ' H' b (envL w) → DenL g U' H' ys' zs → D.bk ys' σ' H'
  | (zs, .ct w), b => ∀ U' σ' H' ys', Ev U H U' H' → Stt g Mt U0 H0 U' σ' H' b (envL w) → DenL g U' H' ys' zs → D.ct ys' σ' H'
theorem gflP.ev {U1 : Addr → Prop} {H1 : Hp} {D : GEnds} {env : W → Env} {envL : L → Env} (e : Ev U H U1 H1) : ∀ {f : List Gp.D × Fl W L}, gflP g Mt U0 H0 U H D env envL f b → gflP g Mt U0 H0 U1 H1 D env envL f b
  | (_, .nx w), h => fun U' σ' H' ys' e1 => h U' σ' H' ys' (e.trans e1)
  | (_, .rt d), h => h
  | (_, .bk w), h => fun U' σ' H' ys' e1 => h U' σ' H' ys' (e.trans e1)
  | (_, .ct w), h => fun U' σ' H' ys' e1 => h U' σ' H' ys' (e.trans e1)
def SG (g : Gw) (ε : Env) (t : TGn) (env : W → Env) (envL : L → Env) (m : List D → Tr (List D × Fl W L)) : Prop := ∀ Mt U0 H0 U D ys yd σ H b, Stt g Mt U0 H0 U σ H b ε → DenL g U H ys yd → Al (gflP g Mt U0 H0 U H D env envL) (fun _ _ _ => False) (m yd) b → t D ys σ H
def bdG (m : Tr (List D × Fl W' L)) (k : W' → List D → Tr (List D × Fl W L)) : Tr (List D × Fl W L) := bd m fun r => match r with
  | (zs, .nx w) => k w zs
  | (zs, .rt d) => .ok (zs, .rt d)
  | (zs, .bk l) => .ok (zs, .bk l)
  | (zs, .ct l) => .ok (zs, .ct l)
theorem SG.seq {m : List D → Tr (List D × Fl W' L)} {k : W' → List D → Tr (List D × Fl W L)} (h1 : SG g ε ta env' envL m) (h2 : ∀ w, SG g (env' w) u env envL (k w)) : SG g ε (tGThen ta u) env envL (fun yd => bdG (m yd) k) := fun Mt U0 H0 U D ys yd σ H b s dn q => by
  refine h1 Mt U0 H0 U { D with nx := fun ys' σ' H' => u D ys' σ' H' } ys yd σ H b s dn ((al_bd.mp q).mono (fun r b1 h => ?_) (fun _ _ _ z => z))
  obtain ⟨zs, f⟩ := r
  cases f with
  | nx w => exact fun U1 σ1 H1 ys1 e1 s1 d1 => h2 w Mt U0 H0 U1 D ys1 zs σ1 H1 b1 s1 d1 (Al.mono (fun _ _ z => z.ev e1) (fun _ _ _ z => z) h)
  | rt d => exact h.elim
  | bk l => exact h
  | ct l => exact h
end
section
variable {P : Program} {w : World} {K : PySem.W.Frag} {mg : Str → Option Value} {base : Heap}
end
end Gp
end
section
set_option Elab.async false
set_option linter.all false
set_option maxRecDepth 100000
set_option maxHeartbeats 4000000
namespace Gp
open PySem PySem.Spec PyProof.Rows L2 Gh
section
variable {X : Cx} {CX : CXT} {k : Nat} {f C : Addr} {sp : Sp} {E : XK} {x : Str} {e : Expr} {es : List Expr} {te : TE} {t : TA} {p pos sp_ : Pos}
end
theorem spF_bad {K : PySem.W.Frag} {T : List (Addr × Str)} {F : List D → Tr D} {vs : List V} {H : Hp} {Q : VK} {E : XK} (hF : ∀ ds, F ds = .bad) (h : spF K T F vs H Q E) : False := by
  obtain ⟨p, c, U, ds, b, dn, wd, u, al⟩ := h
  rw [hF] at al
  exact al
theorem fn_bad {P : Program} {w : World} {K : PySem.W.Frag} {mg : Str → Option Value} {base : Heap} {CX : CXT} {k : Nat} {f : Addr} {fd : FuncData} {ps : List Str} {T : List (Addr × Str)} {F : List D → Tr D} (hF : ∀ ds, F ds = .bad) : FnOk P w K mg base CX k f fd ps (spF K T F) :=
  ⟨fun vs H Q E h => (spF_bad hF h).elim, fun A outer s H args us vs Q E hr e0 hb r h => (spF_bad hF h).elim⟩
theorem ul2_bad : ∀ ds : List D, ul2 (fun _ _ => (.bad : Tr D)) ds = .bad
  | [] => rfl
  | [_] => rfl
  | [_, _] => rfl
  | _ :: _ :: _ :: _ => rfl
theorem ul3_bad : ∀ ds : List D, ul3 (fun _ _ _ => (.bad : Tr D)) ds = .bad
  | [] => rfl
  | [_] => rfl
  | [_, _] => rfl
  | [_, _, _] => rfl
  | _ :: _ :: _ :: _ :: _ => rfl
end Gp
end
section
set_option Elab.async false
set_option linter.all false
set_option maxRecDepth 100000
set_option maxHeartbeats 4000000
namespace HT
open PySem PyProof.Rows
section
open PySem.SeqAt
variable {prog : Program} {w : World} {A : Around} {E : Value → Shared → Prop} {s : Shared}
theorem sliceApplied_rev {sl : Addr} {vs : Value} {n : Nat} {Q : Int × Int × Nat → Shared → Prop} (hs : s.heap.IsSliceOf sl .none .none vs) (ps : IsPart vs (some (-1)))
    (h : Q ((n : Int) - 1, -1, n) s) : wpAny (model prog w) A (Builtin.Slice.sliceApplied (.ref sl) (pure (n : Int))) Q E s := by
  obtain ⟨os, hos, hcs, hds⟩ := id hs
  unfold Builtin.Slice.sliceApplied Builtin.Slice.sliceFields
  refine wpAny_bind (wpAny_bind (wpAny_field hos hds (x := .none) rfl (wpAny_bind (wpAny_field hos hds (x := .none) rfl (wpAny_bind (wpAny_field hos hds (x := vs) rfl (wpAny_pure ?_)))))))
  refine wpAny_bind (slicePart_ ps ?_)
  show wpAny _ _ (if ((-1 : Int) == 0) = true then _ else _) _ _ s
  rw [if_neg (by decide)]
  refine wpAny_bind (slicePart_none (wpAny_bind (slicePart_none (wpAny_bind (wpAny_pure ?_)))))
  have e : Builtin.Slice.slicePlaces ((n : Int) - 1) (-1) (-1) = n := by
    unfold Builtin.Slice.slicePlaces
    have h1 : ¬ (-1 : Int) > 0 := by omega
    simp only [h1, if_false]
    have h2 : (- -1 : Int) = 1 := by decide
    rw [h2, Int.ediv_one]
    split <;> omega
  show wpAny _ _ (pure ((n : Int) - 1, (-1 : Int), Builtin.Slice.slicePlaces ((n : Int) - 1) (-1) (-1))) _ _ s
  rw [e]
  exact wpAny_pure h
theorem fm_congr {f g : Nat → Option Value} : ∀ {l : List Nat}, (∀ x ∈ l, f x = g x) → l.filterMap f = l.filterMap g
  | [], _ => rfl
  | x :: l, h => by
    rw [List.filterMap_cons, List.filterMap_cons, h x List.mem_cons_self, fm_congr fun y hy => h y (List.mem_cons_of_mem _ hy)]
theorem pick_rev (xs : Array Value) : ((List.range xs.size).filterMap fun (k : Nat) => xs[((xs.size : Int) - 1 + (k : Int) * -1).toNat]?).toArray = xs.toList.reverse.toArray := by
  have e : ((List.range xs.size).filterMap fun (k : Nat) => xs[((xs.size : Int) - 1 + (k : Int) * -1).toNat]?) = ((List.range xs.size).map fun k => xs.size - 1 - k).filterMap (xs[·]?) := by
    rw [List.filterMap_map]
    refine fm_congr fun k hk => ?_
    have := List.mem_range.mp hk
    show _ = xs[xs.size - 1 - k]?
    congr 1
    omega
  rw [e, PySem.W.krv_range, List.filterMap_reverse, PySem.W.krv_all]
theorem getItem_tuple_rev {t sl : Addr} {items : Array Value} {vs : Value} {Q : Value → Shared → Prop} (ht : IsTup s.heap t items) (hs : s.heap.IsSliceOf sl .none .none vs) (ps : IsPart vs (some (-1)))
    (h : Q (.ref s.heap.objs.size) { s with heap := s.heap.push { cls := .type "tuple", data := .seq items.toList.reverse.toArray } })
    (hsz : items.size ≤ sizeLine) : wpAny (model prog w) A (getItem (.ref t) (.ref sl)) Q E s := by
  have htake : sizeOk (.seq items.toList.reverse.toArray) := by
    show items.toList.reverse.toArray.size ≤ sizeLine
    rw [List.size_toArray, List.length_reverse, Array.length_toList]
    exact hsz
  obtain ⟨os, hos, hcs, hds⟩ := id hs
  have hTs : s.TypeIs (.ref sl) "slice" := ⟨os, hos, hcs⟩
  unfold getItem
  try with_reducible refine wpAny_holding ?_
  first | refine wpAny_bind (wpAny_pure ?_) | skip
  refine wpAny_bind (wpAny_sequenceKey ht.typeIs (by decide) ?_)
  refine wpAny_bind (wpAny_callSpecial?_slot (name := Str.ofString "__getitem__") ht.typeIs PyProof.Rows.slot_tuple_getitem
    (wpAny_call_entry PyProof.Rows.slot_tuple_getitem ht.typeIs entry_tuple_getitem ?_ (args_tuple_getitem _ _)))
  show wpAny _ _ (Builtin.Tuple.tupleItemsOf (.ref t) >>= _) _ _ s
  refine wpAny_bind (tupleItemsOf_ ht ?_)
  refine wpAny_bind (wpAny_typeOf hTs ?_)
  rw [if_pos (by decide)]
  refine wpAny_bind (sliceApplied_rev hs ps ?_)
  have hno : ¬ ((((items.size : Int) - 1) == 0 && (-1 : Int) == 1 && items.size == items.size) = true) := by
    intro q
    rw [Bool.and_eq_true, Bool.and_eq_true] at q
    exact absurd q.1.2 (by decide)
  show wpAny _ _ (if (((items.size : Int) - 1) == 0 && (-1 : Int) == 1 && items.size == items.size) = true then _ else _) _ _ s
  rw [if_neg hno, pick_rev]
  first
    | exact wpAny_bind (m := Builtin.Tuple.tupleExact _) (wpAny_newObj_type (wpAny_pure ⟨_, rfl, wpAny_pure h⟩) htake)
    | exact wpAny_bind (m := Builtin.Tuple.tupleExact _) (wpAny_newObj_type (wpAny_bind (wpAny_pure (wpAny_pure ⟨_, rfl, wpAny_pure h⟩))) htake)
    | exact wpAny_bind (wpAny_bind (m := Builtin.Tuple.tupleExact _) (wpAny_newObj_type (wpAny_pure (wpAny_pure ⟨_, rfl, wpAny_pure h⟩)) htake))
    | exact wpAny_bind (wpAny_bind (m := Builtin.Tuple.tupleExact _) (wpAny_newObj_type (wpAny_pure ⟨_, rfl, wpAny_pure h⟩) htake))
end
end HT
namespace Gp
open PySem PySem.Spec PyProof.Rows L2 Gh
section
variable {g : Gw} {Mt U0 U U' : Addr → Prop} {H0 H H' H1 H2 : Hp} {b b1 : Nat} {σ : L2.St} {ε ε' : Env} {E : XK} {W L W' : Type} {te : TE} {me : Tr D}
def tRevA (K : PySem.W.Frag) (te : TE) : TE := fun σ H Q => te σ H fun x H1 => ∃ a xs, x = .ref a ∧ ((SqL K H1 a xs ∧ ∀ p, H1 p = none → Q (.ref p) (upd H1 p (.lst xs.reverse))) ∨ (SqT K H1 a xs ∧ ∀ p, H1 p = none → Q (.ref p) (upd H1 p (.tup xs.reverse))))
theorem pe_revA {X : Cx} {e : Expr} {k : Nat} {p1 p2 p3 pos : Pos} (he : PE X e te) : PE X (.Subscript e (.Slice none none (some (.UnaryOp .USub (.Constant (.int 1) k p1) p2)) p3) pos) (tRevA X.K te) := by
  refine ⟨fun pins s σ H Q I h => ?_⟩
  refine Subscript_ (thn (he.run pins s σ H _ I h) fun v s1 ⟨x, H1, I1, r1, q1⟩ => ?_)
  obtain ⟨a, xs, ex, hq⟩ := q1
  subst ex
  cases r1
  have hst : PO X (some (.UnaryOp .USub (.Constant (.int 1) k p1) p2)) (tPart (tUn (rU fun i => .int (-i)) (tC (.int 1)))) := po_some (pe_un un_neg pe_int)
  refine wpAny_Slice (thn (po_none.run pins s1 σ H1 (fun o H2 => o = none ∧ H2 = H1) I1 ⟨rfl, rfl⟩) fun vl s2 ⟨l, H2, I2, pl, el, e2⟩ => ?_)
  subst el e2
  refine thn (po_none.run pins s2 σ H2 (fun o H3 => o = none ∧ H3 = H2) I2 ⟨rfl, rfl⟩) fun vu s3 ⟨u, H3, I3, pu, eu, e3⟩ => ?_
  subst eu e3
  refine thn (hst.run pins s3 σ H3 (fun o H4 => o = some (-1) ∧ H4 = H3) I3 ⟨1, rfl, -1, rfl, rfl, rfl⟩) fun vs s4 ⟨o, H4, I4, ps, eo, e4⟩ => ?_
  subst eo e4
  have I5 : Inv X pins σ H4 { s4 with heap := s4.heap.push { cls := .type "slice", data := .fields #[vl, vu, vs] } } := I4.kept (t' := s4.toks) fun b ob q => Heap.get?_push_of_some _ q
  show wpAny (model X.prog X.w) X.A (subscriptTail e (.Slice none none (some (.UnaryOp .USub (.Constant (.int 1) k p1) p2)) p3) (.ref a) (.ref s4.heap.objs.size)) (EP X pins σ Q) X.xe { s4 with heap := s4.heap.push { cls := .type "slice", data := .fields #[vl, vu, vs] } }
  rcases hq with ⟨hx, q⟩ | ⟨hx, q⟩
  · obtain ⟨its, r, ht, hz⟩ := I5.list hx
    have hlen := r.length
    refine tail_any (ops := [.ref a, .ref s4.heap.objs.size]) ht.isList.typeIs (PySem.slot_list_getitem.lookup) ?_ (by with_unfolding_all rfl)
    refine wpAny_getItem_list_slice ht.isList (Heap.IsSliceOf.new _ vl vu vs) pl pu ps (by decide) ?_ (by rw [List.size_toArray]; omega)
    rw [PySem.W.krv_pick]
    refine ⟨.ref _, _, I5.laid (t' := s4.toks) (o := .lst xs.reverse) (fun b ob q => Heap.get?_push_of_some _ q) (Nat.le_refl _) ?_, rfl, q _ (I5.hok.fresh (Nat.le_refl _))⟩
    exact ⟨by rw [List.length_reverse]; exact hz, _, 0, r.reverse, Heap.get?_push_size _ rfl⟩
  · obtain ⟨its, r, ht, hz⟩ := I5.tuple hx
    have hlen := r.length
    cases pl
    cases pu
    refine tail_any (ops := [.ref a, .ref s4.heap.objs.size]) ht.typeIs PyProof.Rows.slot_tuple_getitem.lookup ?_ (by with_unfolding_all rfl)
    refine HT.getItem_tuple_rev ht (Heap.IsSliceOf.new _ _ _ vs) ps ?_ (by rw [List.size_toArray]; omega)
    refine ⟨.ref _, _, I5.laid (t' := s4.toks) (o := .tup xs.reverse) (fun b ob q => Heap.get?_push_of_some _ q) (Nat.le_refl _) ?_, rfl, q _ (I5.hok.fresh (Nat.le_refl _))⟩
    exact ⟨by rw [List.length_reverse]; exact hz, _, r.reverse, IsTup.new _ _⟩
theorem pe_revAK {X : Cx} {K : PySem.W.Frag} {e : Expr} {k : Nat} {p1 p2 p3 pos : Pos} (hK : X.K = K) (he : PE X e te) : PE X (.Subscript e (.Slice none none (some (.UnaryOp .USub (.Constant (.int 1) k p1) p2)) p3) pos) (tRevA K te) := hK ▸ pe_revA he
def revA (x : D) : Tr D := match x with
  | .lst ds => .ok (.lst ds.reverse)
  | .tup ds => .ok (.tup ds.reverse)
  | _ => .bad
theorem se_revA (he : SE g E ε te me) : SE g E ε (tRevA g.K te) (bd me revA) := fun U σ H b Q R W u q =>
  he.step R W u q fun v d H1 b1 d1 w1 f1 R1 u1 q1 => by
    cases d with
    | lst ds =>
      obtain ⟨p, vs, rfl, h, n, l, k⟩ := den_lst d1
      exact ⟨p, vs, rfl, .inl ⟨SqL.of h, new_lst (okP.fr f1 q1) w1 u1 (by rw [List.length_reverse]; exact l) k.reverse⟩⟩
    | tup ds =>
      obtain ⟨p, vs, rfl, h, l, k⟩ := den_tup d1
      exact ⟨p, vs, rfl, .inr ⟨h, new_tup (okP.fr f1 q1) w1 u1 (by rw [List.length_reverse]; exact l) k.reverse⟩⟩
    | _ => exact q1.elim
end
end Gp
end
section
set_option Elab.async false
set_option linter.all false
set_option maxRecDepth 100000
set_option maxHeartbeats 4000000
namespace Gp
open PySem PySem.Spec PyProof.Rows L2 Gh
section
variable {g : Gw} {Mt U0 U U' : Addr → Prop} {H0 H H' H1 H2 : Hp} {b b1 : Nat} {σ : L2.St} {ε ε' : Env} {E : XK} {W L W' : Type}
variable {env : W → Env} {envL : L → Env} {env' : W' → Env} {u ta tb : TS} {te ti : TE} {me mi : Tr D}
def setD (ds : List D) (x v : D) : Tr (List D) := match x with
  | .int z => match ixN ds.length z with
    | some j => .ok (ds.set j v)
    | none => .bad
  | _ => .bad
theorem SE.sstepF {t : TE} {m : Tr D} {k : D → Tr (Fl W L)} {Ds : Ends} {Q : VK} (he : SE g E ε t m) (s : Stt g Mt U0 H0 U σ H b ε) (h : Al (flP g Mt U0 H0 U H Ds env envL) (exS g Mt U0 H0 E) (bd m k) b)
    (hk : ∀ v d H1 b1, Den g U H1 v d → Fr H H1 g.p → Stt g Mt U0 H0 U σ H1 b1 ε → Al (flP g Mt U0 H0 U H1 Ds env envL) (exS g Mt U0 H0 E) (k d) b1 → Q v H1) : t σ H Q :=
  he U σ H b Q s.rel s.wd s.uok ((al_bd.mp h).mono (fun d b1 h1 v H1 d1 w1 f1 => hk v d H1 b1 d1 f1 (s.fr f1 w1) (h1.mono (fun _ _ z => z.ev (s.uok.ev f1)) (fun _ _ _ z => z))) (fun _ _ _ h => exS.exP s h))
theorem ss_setix {i : Nat} {ds : List D} {k : List D → Tr (Fl W L)} (he : SE g E ε te me) (hx : SE g E ε ti mi) (hk : ∀ ds', SS g E (ε.set i (.ow ds')) u env envL (k ds')) (hi : ε[i]? = some (.ow ds) := by rfl) :
    SS g E ε (tSeq (tAsg te (gSub (tVar i) ti rSetL)) u) env envL (bd me fun v => bd mi fun x => bd (setD ds x v) k) := fun Mt U0 H0 U D σ H b s q => by
  refine he.sstepF s q fun v d H1 b1 dv f1 s1 q1 => ?_
  obtain ⟨a, vs, e1, h1, l1, d1, ua, n1, n2, _⟩ := own_mut (vs' := []) (ds' := []) s1 hi
  refine ⟨.ref a, e1, ?_⟩
  refine hx.sstepF s1 q1 fun x dx H2 b2 dvx f2 s2 q2 => ?_
  obtain ⟨a', vs', e2, h2, l2, d2, _, _, _, mt⟩ := own_mut (vs' := []) (ds' := []) s2 hi
  rw [e1] at e2
  cases e2
  cases dx with
  | int z =>
    cases den_int dvx
    change Al _ _ (bd (match ixN ds.length z with | some j => .ok (ds.set j d) | none => .bad) k) b2 at q2
    cases ej : ixN ds.length z with
    | none => rw [ej] at q2; exact q2.elim
    | some j =>
      rw [ej] at q2
      have dv2 : Den g U H2 v d := dv.fr s1.uok f2
      obtain ⟨s3, ev⟩ := mt (vs'.set j v) (ds.set j d) (by rw [List.length_set]; exact l2) (d2.set j dv2)
      exact ⟨a, vs', z, j, rfl, rfl, h2, by rw [d2.length]; exact ej, hk (ds.set j d) Mt U0 H0 U D σ _ b2 s3 (q2.mono (fun _ _ z => z.ev ev) (fun _ _ _ z => z))⟩
  | _ => exact q2.elim
def listL (x : D) : Tr (List D) := match x with
  | .lst ds => .ok ds
  | .tup ds => .ok ds
  | _ => .bad
theorem sn_list (he : SE g E ε te me) : SN g E ε (tCB (rListOf g.K) (tCons te tNil)) (bd me listL) := fun U σ H b Q R W u q =>
  he.step R W u q fun v d H1 b1 d1 w1 f1 R1 u1 q1 => by
    show rListOf g.K [v] H1 Q
    unfold rListOf
    cases d with
    | lst ds =>
      obtain ⟨p, vs, rfl, h, n, l, k⟩ := den_lst d1
      exact ⟨p, vs, rfl, .inl (SqL.of h), fun A nA => q1 A vs H1 nA l k w1 f1⟩
    | tup ds =>
      obtain ⟨p, vs, rfl, h, l, k⟩ := den_tup d1
      exact ⟨p, vs, rfl, .inr h, fun A nA => q1 A vs H1 nA l k w1 f1⟩
    | _ => exact q1.elim
theorem own_sig (s : Stt g Mt U0 H0 U σ H b ε) {j : Nat} {a : Addr} (h : OwnAt σ ε j a) : ∃ o, H a = some o := by
  obtain ⟨h1, ⟨ds, h2⟩ | ⟨c, fs, h2⟩⟩ := h
  · obtain ⟨o, e, a', vs, e2, h, _⟩ := s.rel.at_ j _ h2
    rw [h1] at e
    cases e
    cases e2
    exact ⟨_, h⟩
  · obtain ⟨o, e, a', dx, fvs, e2, h, _⟩ := s.rel.at_ j _ h2
    rw [h1] at e
    cases e
    cases e2
    exact ⟨_, h⟩
theorem own_pend {A : Addr} {vs : List V} {ds : List D} (s : Stt g Mt U0 H0 U σ H b ε) (n : H A = none) (l : vs.length ≤ sizeLine) (dn : DenL g U H vs ds) :
    Stt g Mt U0 H0 (fun a => U a ∨ a = A) σ (upd H A (.lst vs)) b ε ∧ Ev U H (fun a => U a ∨ a = A) (upd H A (.lst vs)) ∧ Pnd g Mt U0 H0 (fun a => U a ∨ a = A) σ (upd H A (.lst vs)) ε A ds := by
  have sm := same_new (o := .lst vs) n
  have nU : ¬ U A := s.uok.new n
  have hp : A ≠ g.p := fun z => nU (z ▸ s.uok.p)
  have hc : A ≠ g.c := fun z => nU (z ▸ s.uok.c)
  have r1 : Rel g (fun a => U a ∨ a = A) (upd H A (.lst vs)) σ ε := (s.rel.grow n).frp (.inl s.uok.p) (fr_same sm)
  refine ⟨⟨r1, s.wd.same sm, ⟨.inl s.uok.p, .inl s.uok.c, fun a ha => ?_⟩, fun a z => .inl (s.sub a z), s.own, s.ext.trans (fr_same sm), s.nu0, s.oim⟩, ⟨fun a o e _ _ => sm a o e, fun a o e n1 _ => ?_⟩, ⟨⟨vs, upd_same, l, (dn.grow n).ext (fun a o e _ _ => sm a o e)⟩, .inr rfl, hp, hc, fun z => nU (s.sub _ z), fun j h => ?_, ?_⟩⟩
  · rcases ha with ha | rfl
    · obtain ⟨o, e, t⟩ := s.uok.al a ha
      exact ⟨o, sm a o e, t⟩
    · exact ⟨_, upd_same, fun _ z => by cases z⟩
  · rintro (z | z)
    · exact n1 z
    · exact ne_of_none e n z
  · obtain ⟨o, e⟩ := own_sig s h
    rw [n] at e
    cases e
  · by_cases m : Mt A
    · exact .inl m
    · refine .inr fun o q => ?_
      by_cases t : ∃ ps, o = .tbl ps
      · exact t
      · have := s.ext A o q hp m (fun ps z => t ⟨ps, z⟩)
        rw [n] at this
        cases this
theorem own_place {A : Addr} {ds : List D} (i : Nat) (s : Stt g Mt U0 H0 U σ H b ε) (p : Pnd g Mt U0 H0 U σ H ε A ds) : Stt g Mt U0 H0 U (σ.set i (some (.ref A))) H b (ε.set i (.ow ds)) := by
  obtain ⟨⟨vs, hA, l, dn⟩, uA, hp, hc, n0, no, mt⟩ := p
  refine ⟨⟨by rw [List.length_set, List.length_set]; exact s.rel.len, fun j x e => ?_, fun j k a ne h1 h2 => ?_⟩, s.wd, s.uok, s.sub, fun j a h => ?_, s.ext, fun j xs a e1 e2 => ?_, fun j c fs a e1 e2 => ?_⟩
  · by_cases q : i = j
    · subst q
      have hl : i < ε.length := by
        cases z : ε[i]? with
        | none => rw [List.getElem?_set_self', z] at e; cases e
        | some w => exact (List.getElem?_eq_some_iff.mp z).1
      rw [List.getElem?_set_self hl] at e
      cases e
      exact ⟨_, List.getElem?_set_self (by rw [s.rel.len]; exact hl), A, vs, rfl, hA, l, dn, uA, hp, hc⟩
    · rw [List.getElem?_set_ne q] at e ⊢
      exact s.rel.at_ j x e
  · rcases ownAt_setO h1 with ⟨rfl, z1⟩ | ⟨n1, z1⟩ <;> rcases ownAt_setO h2 with ⟨rfl, z2⟩ | ⟨n2, z2⟩
    · exact ne rfl
    · cases z1
      exact no _ z2
    · cases z2
      exact no _ z1
    · exact s.rel.apart j k a ne z1 z2
  · rcases ownAt_setO h with ⟨rfl, z⟩ | ⟨_, z⟩
    · cases z
      exact mt
    · exact s.own j a z
  · by_cases q : i = j
    · subst q
      rw [List.getElem?_set_self'] at e2
      cases z : σ[i]? with
      | none => rw [z] at e2; cases e2
      | some w => rw [z] at e2; cases e2; exact n0
    · rw [List.getElem?_set_ne q] at e1 e2
      exact s.nu0 j xs a e1 e2
  · by_cases q : i = j
    · subst q
      cases z : ε[i]? with
      | none => rw [List.getElem?_set_self', z] at e1; cases e1
      | some w => rw [List.getElem?_set_self', z] at e1; cases e1
    · rw [List.getElem?_set_ne q] at e1 e2
      exact s.oim j c fs a e1 e2
theorem Pnd.fr {A : Addr} {ds : List D} (uo : UOk g U H) (p : Pnd g Mt U0 H0 U σ H ε A ds) (f : Fr H H' g.p) : Pnd g Mt U0 H0 U σ H' ε A ds := by
  obtain ⟨⟨vs, hA, l, dn⟩, uA, hp, hc, n0, no, mt⟩ := p
  exact ⟨⟨vs, f _ _ hA hp (fun _ z => by cases z), l, dn.fr uo f⟩, uA, hp, hc, n0, no, mt⟩
theorem Pnd.set {A : Addr} {ds : List D} (p : Pnd g Mt U0 H0 U σ H ε A ds) (i : Nat) (v : V) (d : D) : Pnd g Mt U0 H0 U (σ.set i (some v)) H (ε.set i (.fz d)) A ds :=
  ⟨p.at_, p.u, p.np, p.nc, p.n0, fun j h => p.no j (ownAt_set h).2, p.mt⟩
def SQ (g : Gw) (E : XK) (ε : Env) (n : Nat) (t : TA) (m : Tr (List D)) : Prop := ∀ Mt U0 H0 U σ H b Q, Stt g Mt U0 H0 U σ H b ε →
  Al (fun ds b' => ∀ vs U' H', QR g Mt U0 H0 U' σ H' ε n vs ds → Ev U H U' H' → Stt g Mt U0 H0 U' σ H' b' ε → Q vs H') (exS g Mt U0 H0 E) m b → t σ H Q
theorem sq_here {tn : TE} {mn : Tr (List D)} {t : TA} {m : Tr (List D)} (hn : SN g E ε tn mn) (ht : SA g E ε t m) : SQ g E ε 0 (tCons tn t) (bd mn fun ds => bd m fun xs => .ok (.lst ds :: xs)) := fun Mt U0 H0 U σ H b Q s q => by
  refine hn U σ H b _ s.rel s.wd s.uok ((al_bd.mp q).mono (fun ds b1 h1 A vs H1 n l dn w f => ?_) (fun _ _ _ h => exS.exP s h))
  have s1 := s.fr f w
  obtain ⟨s2, ev, pd⟩ := own_pend s1 n l dn
  refine ht _ σ _ b1 _ s2.rel s2.wd s2.uok ((al_bd.mp h1).mono (fun xs b2 h2 vs' H3 d3 w3 f3 => ?_) (fun _ _ _ h => exS.exP s2 h))
  exact h2 _ _ H3 (.here (pd.fr s2.uok f3) d3) (((s.uok.ev f).trans ev).trans (s2.uok.ev f3)) (s2.fr f3 w3)
def uoD {α : Type} (k : List D → Tr α) (x : D) : Tr α := match x with
  | .lst ds => k ds
  | _ => .bad
theorem qr0 {vs : List V} {ds : List D} (h : QR g Mt U0 H0 U σ H ε 0 vs ds) : ∃ A es vs' xs, vs = .ref A :: vs' ∧ ds = .lst es :: xs ∧ Pnd g Mt U0 H0 U σ H ε A es ∧ DenL g U H vs' xs := by
  cases h with
  | here p k => exact ⟨_, _, _, _, rfl, rfl, p, k⟩
theorem SQ.sstep {n : Nat} {t : TA} {m : Tr (List D)} {k : List D → Tr (Fl W L)} {Ds : Ends} {Q : List V → Hp → Prop} (he : SQ g E ε n t m) (s : Stt g Mt U0 H0 U σ H b ε) (h : Al (flP g Mt U0 H0 U H Ds env envL) (exS g Mt U0 H0 E) (bd m k) b)
    (hk : ∀ vs ds U' H1 b1, QR g Mt U0 H0 U' σ H1 ε n vs ds → Stt g Mt U0 H0 U' σ H1 b1 ε → Al (flP g Mt U0 H0 U' H1 Ds env envL) (exS g Mt U0 H0 E) (k ds) b1 → Q vs H1) : t σ H Q :=
  he Mt U0 H0 U σ H b Q s ((al_bd.mp h).mono (fun ds b1 h1 vs U' H' qr ev s1 => hk vs ds U' H' b1 qr s1 (h1.mono (fun _ _ z => z.ev ev) (fun _ _ _ z => z))) (fun _ _ _ h => h))
theorem ss_par3q0 {i j l : Nat} {t : TA} {m : Tr (List D)} {k : List D → D → D → Tr (Fl W L)} (he : SQ g E ε 0 t m) (hk : ∀ ds y z, SS g E (((ε.set i (.ow ds)).set j (.fz y)).set l (.fz z)) u env envL (k ds y z)) :
    SS g E ε (tSeq (tPar3 i j l t) u) env envL (bd m (ul3 fun x y z => uoD (fun ds => k ds y z) x)) := fun Mt U0 H0 U D σ H b s q =>
  he.sstep s q fun vs ds U' H1 b1 qr s1 q1 => by
    obtain ⟨x, y, z, rfl, q2⟩ := al_ul3 q1
    obtain ⟨A, es, vs', xs, rfl, e, p, dl⟩ := qr0 qr
    cases e
    obtain ⟨v2, v3, rfl, d2, d3⟩ := denL_2 dl
    exact ⟨_, _, _, rfl, hk es y z Mt U0 H0 U' D _ H1 b1 (((own_place i s1 p).set j d2).set l d3) q2⟩
end
end Gp
end
section
set_option Elab.async false
set_option linter.all false
set_option maxRecDepth 100000
set_option maxHeartbeats 4000000
namespace Gp
open PySem PySem.Spec PyProof.Rows L2 Gh
abbrev TSF : Type := Addr → Value → Option Addr → TS
def wMK (K : PySem.W.Frag) (Wout : WX) (D : Ends) : List (Value × Option Nat × TSF) → WX
  | [] => Wout
  | (c, some i, ts) :: r => fun cls d σ H => ∃ b, PySem.W.exmOne K cls c = some b ∧ (b = true → ∃ C dd, cls = .ref C ∧ d = some dd ∧ ∀ a, H a = none → ts a cls d { nx := fun σ' H' => H' a = none → D.nx (σ'.set i none) (upd H' a (exk a C dd)), rt := D.rt, bk := fun σ' H' => D.bk (σ'.set i none) H', ct := fun σ' H' => D.ct (σ'.set i none) H' } (σ.set i (some (.ref a))) H) ∧
    (b = false → wMK K Wout D r cls d σ H)
  | (c, none, ts) :: r => fun cls d σ H => ∃ b, PySem.W.exmOne K cls c = some b ∧ (b = true → ∀ a, H a = none → ts a cls d D σ H) ∧ (b = false → wMK K Wout D r cls d σ H)
inductive HdsK (X : Cx) : List ExceptHandler → List (Value × Option Nat × TSF) → Prop
  | nil : HdsK X [] []
  | as {x n : Str} {c : Value} {i : Nat} {ts : TSF} {b₀ : Stmt} {suite : List Stmt} {np pos' : Pos} {hds : List ExceptHandler} {l : List (Value × Option Nat × TSF)} (hi : X.N[i]? = some n) (hln : X.env.kindOf n = some .local) (hc : Names X x c)
      (hsu : ∀ (a : Addr) (oe : Obj) (cls : Value) (d : Option Addr) (pn : List (Addr × Obj)), Zc cls d oe → (∃ vs, oe.data = .fields vs) → PSs (X.suite a ((a, oe) :: pn)) (b₀ :: suite) (ts a cls d)) (r : HdsK X hds l) :
      HdsK X (.ExceptHandler (some (.Name x np)) (some n) (b₀ :: suite) pos' :: hds) ((c, some i, ts) :: l)
  | no {x : Str} {c : Value} {ts : TSF} {b₀ : Stmt} {suite : List Stmt} {np pos' : Pos} {hds : List ExceptHandler} {l : List (Value × Option Nat × TSF)} (hc : Names X x c)
      (hsu : ∀ (a : Addr) (oe : Obj) (cls : Value) (d : Option Addr) (pn : List (Addr × Obj)), Zc cls d oe → (∃ vs, oe.data = .fields vs) → PSs (X.suite a ((a, oe) :: pn)) (b₀ :: suite) (ts a cls d)) (r : HdsK X hds l) :
      HdsK X (.ExceptHandler (some (.Name x np)) none (b₀ :: suite) pos' :: hds) ((c, none, ts) :: l)
section
variable {X : Cx} {body : List Stmt} {h₀ : ExceptHandler} {hds : List ExceptHandler} {l : List (Value × Option Nat × TSF)} {pos : Pos} {tb : WX → TS} {Wout : WX}
theorem ps_try_mk (hex : X.ex = []) (hs : X.stack = X.env :: X.outer) (hf : X.env.frame = some X.env.locals) (hN : X.N.Nodup) (tk : Takes X Wout)
    (hb : ∀ (W : WX) (pn : List (Addr × Obj)) (xe : Value → Shared → Prop), Takes (X.tr pn xe) W → PassesOwn (model X.prog X.w) X.A X.env xe → PSs (X.tr pn xe) body (tb W))
    (hh : HdsK X (h₀ :: hds) l) : PS X (.Try body (h₀ :: hds) [] [] pos) (fun D σ H => tb (wMK X.K Wout D l) D σ H) := by
  refine ⟨fun pins s σ H D I h => ?_⟩
  have ok := I.ok
  have hfr : X.A.frames = some (X.env :: X.outer) := by rw [ok.frames, hs]
  refine wpAny_Try_except ?_
  refine wpAny_mono ((hb (wMK X.K Wout D l) (X.pn ++ pins) (fun e s₁ => wpAny (model X.prog X.w) X.A (noteFrame e X.env) (fun _ s₂ => wpAny (model X.prog X.w) X.A (setFlight e none) (fun _ s₃ =>
    wpAny (model X.prog X.w) X.A (handleBy e X.env (h₀ :: hds)) (SP X pins D) X.xe s₃) X.xe s₂) X.xe s₁) (fun u s' xx => ?_) PassesOwn.looking).run [] s σ H D (I.toTry _) h) (fun f s1 hsp => ?_) (fun e s1 he => he)
  · -- the catch
    obtain ⟨a, B, sI, pins', σ', H', cls, d, rfl, J', nb, up, sky, na, os, ag, w⟩ := xx
    have nB : B.get? a = none := by
      rcases sky with z | z | z
      · exact z.2.1
      · exact z.2.1
      · exact z.2.1
    have J : Inv X pins σ' H' sI := J'.ofTry ok
    have sky' : Sky B (X.env :: X.outer) a (Zc cls d) X.env.locals s'.heap := by rw [← hs]; exact sky
    show wpAny (model X.prog X.w) X.A (noteFrame (.ref a) X.env) _ _ _
    refine Sky.land Zc.steady hfr hf sky' fun h3 fl3 up3 => ?_
    have J3 : Inv X pins σ' H' { s' with heap := h3 } := J.landed nb fl3.1 (up.trans up3) os ag
    obtain ⟨oe3, vs3, he3, hz3, hd3⟩ := fl3.there
    have notFr : ∀ {h : Heap} {o : Obj} {vs : Array Value}, h.FunFrames B (X.env :: X.outer) → h.get? a = some o → o.data = .fields vs → a ∉ frs (X.env :: X.outer) := fun {h o vs} ff e dd hm => by
      obtain ⟨_, o', e', hnf⟩ := ff.mem hm
      rw [e] at e'; cases e'
      exact hnf _ dd
    have nfr := notFr fl3.2.2.1 he3 hd3
    have nL : a ≠ X.env.locals := fun z => nfr (List.mem_filterMap.mpr ⟨X.env, List.mem_cons_self, by rw [hf, z]⟩)
    have nF : a ∉ X.fs := fun hm => by
      obtain ⟨e, he, q⟩ := List.mem_filterMap.mp hm
      exact nfr (List.mem_filterMap.mpr ⟨e, List.mem_cons_of_mem _ he, q⟩)
    have nsI : sI.heap.get? a = none := by
      cases q : sI.heap.get? a with
      | none => rfl
      | some o =>
        have z := nb a o q (by rw [hs]; exact nfr)
        rw [nB] at z
        cases z
    have n0 : X.s_0.heap.get? a = none := by
      cases q : X.s_0.heap.get? a with
      | none => rfl
      | some o =>
        obtain ⟨o', z⟩ := J.base.there a o q (by rw [hex]; simp)
        rw [nsI] at z
        cases z
    have nP : ∀ p ∈ X.pn ++ pins, p.1 ≠ a := fun p hp z => by
      have y := (J.pin p hp).1
      rw [z, nsI] at y
      cases y
    have nC : ∀ x c, X.env.cells.lookup x = some c → c ≠ a := fun x c hx z => by
      obtain ⟨v, y⟩ := J.cell x c hx
      obtain ⟨o, y1, _⟩ := y
      rw [z, nsI] at y1
      cases y1
    have S3 := J3.suite he3 hd3 na nL nF
    have go : ∀ {hds' : List ExceptHandler} {l' : List (Value × Option Nat × TSF)}, HdsK X hds' l' → wMK X.K Wout D l' cls d σ' H' →
        wpAny (model X.prog X.w) X.A (handleBy (.ref a) X.env hds') (SP X pins D) X.xe { s' with heap := h3 } := by
      intro hds' l' hk
      induction hk with
      | nil =>
        intro w
        refine wpAny_handleBy_nil ?_
        obtain ⟨k1, k2, k3, oe, vs, T, oT, ts', he, hz, hd, h1, hr⟩ := id fl3
        unfold PySem.passOn
        refine wpAny_bind (wpAny_field he hd h1 ?_)
        rw [if_neg (show ¬ ((Value.ref T == Value.none) = true) from by simp)]
        have fin : wpAny (model X.prog X.w) X.A (setFlight (.ref a) X.env.frame) (fun _ s4 => wpAny (model X.prog X.w) X.A (throw (.ref a) : Sem Flow) (SP X pins D) X.xe s4) X.xe { s' with heap := h3 } := by
          rw [hf]
          refine HandSPX.setFlight_upZ fl3 fun h4 hh4 up4 => wpAny_throw (tk _ _ ?_)
          exact ⟨a, B, sI, pins, σ', H', cls, d, rfl, J, nb, (up.trans up3).trans up4, .inr (.inr (by rw [hs]; exact hh4)), na, os, ag, w⟩
        first
          | exact wpAny_bind (wpAny_pure (wpAny_bind fin))
          | exact wpAny_bind fin

      | @as x n c i ts b₀ suite np pos' hds2 l2 hi hln hc hsu r ih =>
        intro w
        obtain ⟨b, hb1, hyes, hno⟩ := w
        have hloc : Loc X.env.scope n := .inl hln
        refine wpAny_handleBy_cons (codeAny_handlers_test ?_) (by intro q; cases q)
        have LT : PySem.W.Looks (model X.prog X.w) h3 (typeOf (.ref a)) cls := fun A Q E s k q => wpAny_typeOf_ref (k _ _ he3) (by rw [hz3.1]; exact q)
        have LM := PySem.W.exm_one (M := model X.prog X.w) (J3.kIn) LT hb1
        have test : ∀ {Q : Value → Shared → Prop} {E : Value → Shared → Prop}, Q c { s' with heap := h3 } → wpAny (model X.prog X.w) (X.A.mark (some (.ref a))) (eval (.Name x np) X.env) Q E { s' with heap := h3 } := fun {Q E} q => by
          obtain ⟨hg, hdbg, hm | ⟨hm, hv, hnn⟩⟩ := hc
          · exact ld_glob (X := X.suite a ((a, oe3) :: (X.pn ++ pins))) S3 hg hm q hdbg
          · exact ld_blt (X := X.suite a ((a, oe3) :: (X.pn ++ pins))) S3 hg hm hv q hnn hdbg

        refine test (LM.here ?_)
        cases b with
        | true =>
          refine codeAny_handlers_suite_as ?_
          obtain ⟨C, dd, ecls, edd, hys⟩ := hyes rfl
          subst ecls
          subst edd
          refine HandSPX.lands_againZ fl3 fun h4 fl4 up4 => ?_
          have J4 : Inv X pins σ' H' { s' with heap := h4 } := J.landed nb fl4.1 ((up.trans up3).trans up4) os ag
          obtain ⟨oe4, vs4, he4, hz4, hd4⟩ := fl4.there
          have S4 := J4.suite he4 hd4 na nL nF
          refine store_ok (X := X.suite a ((a, oe4) :: (X.pn ++ pins))) (v := .ref a) S4 hN hi hloc rfl (fun s5 S5 => ?_) (.inr hln)
          refine wpAny_mono ((hsu a oe4 _ _ (X.pn ++ pins) hz4 ⟨_, hd4⟩).run [] s5 _ H' _ S5 (hys a na)) (fun f s6 hsp => ?_) (fun _ _ z => False.elim z)
          have end_ : ∀ {σ6 : L2.St} {H6 : Hp} {Q : Shared → Prop}, Inv (X.suite a ((a, oe4) :: (X.pn ++ pins))) [] σ6 H6 s6 → (∀ s7, Inv X pins (σ6.set i none) H6 s7 → Q s7) →
              wpAny (model X.prog X.w) X.A (do bindName X.env n .none; unbindBehindTheSuite X.env n pos') (fun _ s7 => Q s7) X.xe s6 := fun {σ6 H6 Q} S6 hq => gone_ok (S6.unsuite ok) hN hi hln hq
          cases f with
          | next =>
            obtain ⟨σ6, H6, S6, q6⟩ := hsp
            obtain ⟨ha6, hn6, _⟩ := S6.pin (a, oe4) (List.mem_append_left _ List.mem_cons_self)
            have J6 : Inv X pins σ6 (upd H6 a (exk a C dd)) s6 := inv_track (S6.unsuite ok) hn6 n0 nL nC nP (exk_ok ha6 hz4.1 hz4.2 hd4)
            exact gone_ok J6 hN hi hln fun s7 J7 => ⟨_, _, J7, q6 hn6⟩
          | brk =>
            obtain ⟨σ6, H6, S6, q6⟩ := hsp
            exact end_ S6 fun s7 J7 => ⟨_, _, J7, q6⟩
          | cont =>
            obtain ⟨σ6, H6, S6, q6⟩ := hsp
            exact end_ S6 fun s7 J7 => ⟨_, _, J7, q6⟩
          | ret u =>
            obtain ⟨v6, σ6, H6, S6, r6, q6⟩ := hsp
            exact end_ S6 fun s7 J7 => ⟨_, _, _, J7, r6, q6⟩

        | false =>
          show wpAny _ X.A (handleBy (.ref a) X.env hds2) _ _ _
          exact ih (hno rfl)
      | @no x c ts b₀ suite np pos' hds2 l2 hc hsu r ih =>
        intro w
        obtain ⟨b, hb1, hyes, hno⟩ := w
        refine wpAny_handleBy_cons (codeAny_handlers_test ?_) (by intro q; cases q)
        have LT : PySem.W.Looks (model X.prog X.w) h3 (typeOf (.ref a)) cls := fun A Q E s k q => wpAny_typeOf_ref (k _ _ he3) (by rw [hz3.1]; exact q)
        have LM := PySem.W.exm_one (M := model X.prog X.w) (J3.kIn) LT hb1
        have test : ∀ {Q : Value → Shared → Prop} {E : Value → Shared → Prop}, Q c { s' with heap := h3 } → wpAny (model X.prog X.w) (X.A.mark (some (.ref a))) (eval (.Name x np) X.env) Q E { s' with heap := h3 } := fun {Q E} q => by
          obtain ⟨hg, hdbg, hm | ⟨hm, hv, hnn⟩⟩ := hc
          · exact ld_glob (X := X.suite a ((a, oe3) :: (X.pn ++ pins))) S3 hg hm q hdbg
          · exact ld_blt (X := X.suite a ((a, oe3) :: (X.pn ++ pins))) S3 hg hm hv q hnn hdbg

        refine test (LM.here ?_)
        cases b with
        | true =>
          refine codeAny_handlers_suite ?_
          refine HandSPX.lands_againZ fl3 fun h4 fl4 up4 => ?_
          have J4 : Inv X pins σ' H' { s' with heap := h4 } := J.landed nb fl4.1 ((up.trans up3).trans up4) os ag
          obtain ⟨oe4, vs4, he4, hz4, hd4⟩ := fl4.there
          have S4 := J4.suite he4 hd4 na nL nF
          refine wpAny_mono ((hsu a oe4 cls d (X.pn ++ pins) hz4 ⟨_, hd4⟩).run [] _ _ H' _ S4 (hyes rfl a na)) (fun f s6 hsp => ?_) (fun _ _ z => False.elim z)
          cases f with
          | next =>
            obtain ⟨σ6, H6, S6, q6⟩ := hsp
            exact ⟨_, _, S6.unsuite ok, q6⟩
          | brk =>
            obtain ⟨σ6, H6, S6, q6⟩ := hsp
            exact ⟨_, _, S6.unsuite ok, q6⟩
          | cont =>
            obtain ⟨σ6, H6, S6, q6⟩ := hsp
            exact ⟨_, _, S6.unsuite ok, q6⟩
          | ret u =>
            obtain ⟨v6, σ6, H6, S6, r6, q6⟩ := hsp
            exact ⟨_, _, _, S6.unsuite ok, r6, q6⟩
        | false =>
          show wpAny _ X.A (handleBy (.ref a) X.env hds2) _ _ _
          exact ih (hno rfl)
    exact go hh w
  · cases f with
    | next =>
      obtain ⟨σ', H', J', q⟩ := hsp
      exact wpAny_execs_nil ⟨σ', H', J'.ofTry ok, q⟩
    | brk =>
      obtain ⟨σ', H', J', q⟩ := hsp
      exact ⟨σ', H', J'.ofTry ok, q⟩
    | cont =>
      obtain ⟨σ', H', J', q⟩ := hsp
      exact ⟨σ', H', J'.ofTry ok, q⟩
    | ret u =>
      obtain ⟨v, σ', H', J', r, q⟩ := hsp
      exact ⟨v, σ', H', J'.ofTry ok, r, q⟩
end
end Gp
end
section
set_option Elab.async false
set_option linter.all false
set_option maxRecDepth 100000
set_option maxHeartbeats 4000000
namespace Gp
open PySem PySem.Spec PyProof.Rows L2 Gh
def ItH.te (a : Addr) (cls : Value) (d : Option Addr) (C : Addr) (i : Nat) : ItH → TE
  | .s x => tC (.str x)
  | .n k => tC (.int k)
  | .f x => tXf a cls d C x (tVar i)
def itHs (a : Addr) (cls : Value) (d : Option Addr) (C : Addr) (i : Nat) : List ItH → TA
  | [] => tNil
  | x :: r => tCons (x.te a cls d C i) (itHs a cls d C i r)
def itsD (fs : Fs) : List ItH → Option (List D)
  | [] => some []
  | x :: r => match x.d fs, itsD fs r with
    | some d, some ds => some (d :: ds)
    | _, _ => none
def noF : List ItH → Bool
  | [] => true
  | .f _ :: _ => false
  | _ :: r => noF r
abbrev Cl := Str × Option Nat × List ItH
def clTS (K : PySem.W.Frag) (j : Nat) (c : Cl) : Value × Option Nat × TSF := (.ref (gd c.1 K), c.2.1, fun a cls d => tAsg (tLst (itHs a cls d (gd c.1 K) (c.2.1.getD 0) c.2.2)) (gName j))
def pickC (ex : Str → Str → Option Bool) : List Cl → Str → Fs → Tr D
  | [], _, _ => .bad
  | (cn, oi, its) :: r, cl, fs => match ex cl cn with
    | none => .bad
    | some true => if (noF its || (cl == cn && oi.isSome)) = true then (match itsD fs its with
      | some ds => if ds.length ≤ sizeLine then .ok (.lst ds) else .bad
      | none => .bad) else .bad
    | some false => pickC ex r cl fs
section
variable {g : Gw} {U : Addr → Prop} {H H' : Hp} {b : Nat} {σ : L2.St} {ε : Env}
theorem it_run {a C dd : Addr} {cls : Value} {i : Nat} {fvs : List (Str × V)} {fs : Fs} (hd : H dd = some (.xd fvs)) (df : DenF g U H fvs fs) :
    ∀ {its : List ItH} {ds : List D} {Q : List V → Hp → Prop}, (noF its = true ∨ (cls = .ref C ∧ σ[i]? = some (some (.ref a)))) → itsD fs its = some ds → (∀ vs, DenL g U H vs ds → Q vs H) → itHs a cls (some dd) C i its σ H Q
  | [], ds, Q, _, e, q => by
    cases e
    exact q [] .nil
  | x :: r, ds, Q, hf, e, q => by
    unfold itsD at e
    cases e1 : x.d fs with
    | none => rw [e1] at e; cases e
    | some d =>
      cases e2 : itsD fs r with
      | none => rw [e1, e2] at e; cases e
      | some es =>
        rw [e1, e2] at e
        cases e
        have hr : noF r = true ∨ (cls = .ref C ∧ σ[i]? = some (some (.ref a))) := by
          rcases hf with h | h
          · cases x with
            | f y => cases h
            | s y => exact .inl h
            | n y => exact .inl h
          · exact .inr h
        cases x with
        | s y =>
          simp only [ItH.d] at e1
          split at e1
          · rename_i hl
            cases e1
            show itHs a cls (some dd) C i r σ H (fun xs H2 => Q (V.str y :: xs) H2)
            exact it_run hd df hr e2 fun vs dl => q _ (.cons (.str y hl) dl)
          · cases e1
        | n y =>
          cases e1
          show itHs a cls (some dd) C i r σ H (fun xs H2 => Q (V.int y :: xs) H2)
          exact it_run hd df hr e2 fun vs dl => q _ (.cons (.int y) dl)
        | f y =>
          rcases hf with h | ⟨h1, h2⟩
          · cases h
          · obtain ⟨v, hv, dn⟩ := df.look e1
            have z : itHs a cls (some dd) C i r σ H (fun xs H2 => Q (v :: xs) H2) := it_run hd df hr e2 fun vs dl => q _ (.cons dn dl)
            exact ⟨_, h2, rfl, h1, dd, fvs, v, rfl, hd, hv, z⟩
theorem fz_no {n : Nat} : Fz (List.replicate n .no) := fun s h => .inr (List.mem_replicate.mp h).2
theorem Fz.set {j : Nat} {d : D} (h : Fz ε) : Fz (ε.set j (.fz d)) := fun s m => by
  rcases List.mem_or_eq_of_mem_set m with m | m
  · exact h s m
  · exact .inl ⟨_, m⟩
theorem rel_no {n : Nat} (hl : σ.length = n) : Rel g U H σ (List.replicate n .no) := by
  refine ⟨by rw [List.length_replicate]; exact hl, fun i s e => ?_, fun _ _ _ _ h1 _ => (fz_no.own _ _ h1).elim⟩
  rw [List.getElem?_replicate] at e
  split at e
  · rename_i hk
    cases e
    exact ⟨_, List.getElem?_eq_getElem (by rw [hl]; exact hk), trivial⟩
  · cases e
theorem rel_fz {j : Nat} {v : V} {d : D} (R : Rel g U H σ ε) (h : Fz ε) (hj : j < σ.length) (dn : Den g U H v d) : Rel g U H (σ.set j (some v)) (ε.set j (.fz d)) := by
  refine ⟨by simp only [List.length_set]; exact R.len, fun k s e => ?_, fun _ _ _ _ h1 _ => (h.set.own _ _ h1).elim⟩
  by_cases q : j = k
  · subst q
    rw [List.getElem?_set_self (by rw [← R.len]; exact hj)] at e
    cases e
    exact ⟨_, List.getElem?_set_self hj, _, rfl, dn⟩
  · rw [List.getElem?_set_ne q] at e
    obtain ⟨o, h1, h2⟩ := R.at_ k s e
    exact ⟨o, by rw [List.getElem?_set_ne q]; exact h1, h2⟩
theorem clausesM {n j : Nat} {trest : TS} {mrest : D → Tr (Fl Unit Empty)} {envU : Unit → Env} {ex : Str → Str → Option Bool} {Wout : WX} {Q : VK} (hj : j < n)
    (hex : ∀ cl cn b, ex cl cn = some b → PySem.W.exmOne g.K (.ref (gd cl g.K)) (.ref (gd cn g.K)) = some b)
    (hs : ∀ d, SS g EF ((List.replicate n Sl.no).set j (.fz d)) trest envU envE (mrest d)) (u : UOk g U H) :
    ∀ {cs : List Cl}, (∀ c ∈ cs, ∀ i, c.2.1 = some i → i < n ∧ i ≠ j) → ∀ cls d σ' H', ExH g U H Q (fun cl fs => bd (pickC ex cs cl fs) fun v => nox (fin (mrest v))) cls d H' → σ'.length = n →
      wMK g.K Wout { nx := trest { nx := fun _ H' => Q .non H', rt := Q }, rt := Q } (cs.map (clTS g.K j)) cls d σ' H'
  | [], _, cls, d, σ', H', ⟨cl, fs, b1, dd, fvs, _, _, _, _, _, _, _, al⟩, _ => al.elim
  | (cn, oi, its) :: r, hcs, cls, d, σ', H', ⟨cl, fs, b1, dd, fvs, ecls, ed, hd, nd, df, wd, f, al⟩, hl => by
    subst ecls
    subst ed
    have al' : Al (okP g U H Q) (fun _ _ _ => False) (bd (pickC ex ((cn, oi, its) :: r) cl fs) fun v => nox (fin (mrest v))) b1 := al
    unfold pickC at al'
    have go : ∀ (ds : List D) (a p : Addr) (vs : List V) (σ2 : L2.St) (H2 : Hp), DenL g U H' vs ds → vs.length ≤ sizeLine → H2 p = some (.lst vs) → ¬ U p → L2.Same H' H2 → σ2.length = n → Al (okP g U H Q) (fun _ _ _ => False) (nox (fin (mrest (.lst ds)))) b1 →
        trest { nx := fun _ H' => Q .non H', rt := Q } (σ2.set j (some (.ref p))) H2 := fun ds a p vs σ2 H2 dl len hp np s hl2 al2 => by
      have u' := u.fr f wd
      exact run_rest (hs (.lst ds)) (rel_fz (rel_no hl2) fz_no (by rw [hl2]; exact hj) (.lst hp np len (dl.ext (u'.extU (fr_same s))))) fz_no.set.own (wd.same s) (u'.fr (fr_same s) (wd.same s)) (f.trans (fr_same s)) (al_nox al2)
    cases e : ex cl cn with
    | none =>
      rw [e] at al'
      exact al'.elim
    | some y =>
      rw [e] at al'
      have hx := hex _ _ _ e
      cases y with
      | false =>
        have al2 : Al (okP g U H Q) (fun _ _ _ => False) (bd (pickC ex r cl fs) fun v => nox (fin (mrest v))) b1 := al'
        have ih := clausesM (Wout := Wout) hj hex hs u (cs := r) (fun c hc => hcs c (List.mem_cons_of_mem _ hc)) (.ref (gd cl g.K)) (some dd) σ' H' ⟨cl, fs, b1, dd, fvs, rfl, rfl, hd, nd, df, wd, f, al2⟩ hl
        cases oi with
        | none => exact ⟨false, hx, (fun z => by cases z), fun _ => ih⟩
        | some i => exact ⟨false, hx, (fun z => by cases z), fun _ => ih⟩
      | true =>
        have al2 : Al (okP g U H Q) (fun _ _ _ => False) (bd (if (noF its || (cl == cn && oi.isSome)) = true then (match itsD fs its with
          | some ds => if ds.length ≤ sizeLine then .ok (.lst ds) else .bad
          | none => .bad) else .bad) fun v => nox (fin (mrest v))) b1 := al'
        split at al2
        · rename_i hc
          cases e3 : itsD fs its with
          | none =>
            rw [e3] at al2
            exact al2.elim
          | some ds =>
            rw [e3] at al2
            have al3 : Al (okP g U H Q) (fun _ _ _ => False) (bd (if ds.length ≤ sizeLine then .ok (.lst ds) else .bad) fun v => nox (fin (mrest v))) b1 := al2
            split at al3
            · rename_i hlen
              have al4 : Al (okP g U H Q) (fun _ _ _ => False) (nox (fin (mrest (.lst ds)))) b1 := al3
              have u' := u.fr f wd
              cases oi with
              | none =>
                refine ⟨true, hx, fun _ a na => ?_, (fun z => by cases z)⟩
                have hf : noF its = true := by simpa using hc
                refine it_run (i := 0) hd df (.inl hf) e3 fun vs dl => ⟨by rw [dl.length]; exact hlen, fun p np => ?_⟩
                exact go ds a p vs σ' _ dl (by rw [dl.length]; exact hlen) upd_same (u'.new np) (same_new np) hl al4
              | some i =>
                obtain ⟨hi, hij⟩ := hcs _ List.mem_cons_self i rfl
                refine ⟨true, hx, fun _ => ⟨_, dd, rfl, rfl, fun a na => ?_⟩, (fun z => by cases z)⟩
                have hf : noF its = true ∨ ((Value.ref (gd cl g.K)) = .ref (gd cn g.K) ∧ (σ'.set i (some (.ref a)))[i]? = some (some (.ref a))) := by
                  simp only [Bool.or_eq_true, Bool.and_eq_true, beq_iff_eq] at hc
                  rcases hc with h | ⟨h, _⟩
                  · exact .inl h
                  · exact .inr ⟨by rw [h], List.getElem?_set_self (by rw [hl]; exact hi)⟩
                refine it_run (i := i) hd df hf e3 fun vs dl => ⟨by rw [dl.length]; exact hlen, fun p np => ?_⟩
                show (upd H' p (.lst vs)) a = none → _
                intro na'
                have hpa : p ≠ a := fun z => by
                  subst z
                  rw [upd_same] at na'
                  cases na'
                show trest _ (((σ'.set i (some (.ref a))).set j (some (.ref p))).set i none) _
                rw [List.set_comm _ _ (fun z => hij z.symm), List.set_set]
                refine go ds a p vs _ _ dl (by rw [dl.length]; exact hlen) ?_ (u'.new np) ((same_new np).trans (same_new na')) (by rw [List.length_set]; exact hl) al4
                rw [upd_ne hpa]
                exact upd_same
            · exact al3.elim
        · exact al2.elim
theorem heardM1 {N : List Str} {f c' : Addr} {q : Str} {tl : XK → Hp → VK → Prop} {m : Tr D} {n j : Nat} {trest : TS} {mN : Tr (Fl Unit Empty)} {mE : D → Tr (Fl Unit Empty)} {envU : Unit → Env} {ex : Str → Str → Option Bool} {cs : List Cl} {Wout : WX} {Q : VK}
    (hn : (L2.start N [V.ref f]).length = n) (hj : j < n) (hj0 : j ≠ 0) (hcs : ∀ c ∈ cs, ∀ i, c.2.1 = some i → i < n ∧ i ≠ j)
    (hex : ∀ cl cn b, ex cl cn = some b → PySem.W.exmOne g.K (.ref (gd cl g.K)) (.ref (gd cn g.K)) = some b)
    (hsN : SS g EF ((List.replicate n Sl.no).set j (.fz .non)) trest envU envE mN) (hs : ∀ d, SS g EF ((List.replicate n Sl.no).set j (.fz d)) trest envU envE (mE d))
    (hc : H c' = some (LamX.CodeO c' q)) (ha : ∀ (E : XK) H' b' Q', Fr H H' g.p → Wd g H' b' → Al (okP g U H' Q') (exP g U E H') m b' → tl E H' Q')
    (wd : Wd g H b) (u : UOk g U H) (al : Al (okP g U H Q) (fun _ _ _ => False) (tryT m (fun _ => nox (fin mN)) (fun cl fs => bd (pickC ex cs cl fs) fun v => nox (fin (mE v)))) b) :
    tSeq (tAsg (tC .non) (gName j)) (tSeq (fun D σ H => tTry n (fun E => tDrop (tAct f c' q (tl E))) (wMK g.K Wout D (cs.map (clTS g.K j))) D σ H) trest) { nx := fun _ H' => Q .non H', rt := Q } (L2.start N [.ref f]) H := by
  refine ⟨ExH g U H Q (fun cl fs => bd (pickC ex cs cl fs) fun v => nox (fin (mE v))), clausesM hj hex hs u hcs, ?_⟩
  refine ⟨by rw [List.getElem?_set_ne hj0]; rfl, hc, ?_⟩
  refine ha _ H b _ Fr.refl wd ((al_try.mp al).mono (fun d b1 h v H1 dn w1 f1 => ?_) (fun cl fs b1 h dd fvs H' e1 e2 e3 e4 e5 => ⟨cl, fs, b1, dd, fvs, rfl, rfl, e1, e2, e3, e4, e5, h⟩))
  exact run_rest hsN (rel_fz (rel_no hn) fz_no (by rw [hn]; exact hj) .non) fz_no.set.own w1 (u.fr f1 w1) f1 (al_nox h)
end
def HrdP (K : PySem.W.Frag) (d : Df) (ps : List Str) : Prop := ∃ fd, FnA K d fd ∧ L2.Binds K fd ps []
def qlOf (d : Df) (K : PySem.W.Frag) : Str := (envOfC d.qual (defScope d.st) 0 (d.adr K) .none).qual ++ "<lambda>"
structure LamD (base : Heap) (mg : Str → Option Value) (K : PySem.W.Frag) (Tb : List (Addr × Str)) (d : Df) (pn : He.Defn) : Prop where
  tb : LamX.TabB base mg (He.cT K pn).1 (He.cT K pn).2
  mem : ((He.cT K pn).2, qlOf d K) ∈ Tb
  hu : ∀ p ∈ Tb, p.1 = (He.cT K pn).2 → p.2 = qlOf d K
end Gp
end
section
set_option Elab.async false
set_option linter.all false
set_option maxRecDepth 100000
set_option maxHeartbeats 4000000
namespace Gp
open PySem PySem.Spec PyProof.Rows L2 Gh
def isIntD : D → Bool
  | .int _ => true
  | _ => false
def ixFind : List D → Int → Option Nat
  | [], _ => none
  | .int a :: r, x => if a = x then some 0 else (ixFind r x).map (· + 1)
  | _ :: _, _ => none
def indexD (l x : D) : Tr D := match l, x with
  | .lst ds, .int i => if ds.all isIntD = true then (match ixFind ds i with
    | some j => .ok (.int (j : Nat))
    | none => .bad) else .bad
  | _, _ => .bad
section
variable {g : Gw} {U : Addr → Prop} {H : Hp} {b : Nat} {σ : L2.St} {ε : Env} {E : XK} {to te : TE} {mo me : Tr D}
theorem ixFind_den {i : Int} : ∀ {vs : List V} {ds : List D} {j : Nat}, DenL g U H vs ds → ds.all isIntD = true → ixFind ds i = some j →
    vs.all flatV = true ∧ ∃ z, vs[j]? = some z ∧ eqV z (.int i) = true ∧ ∀ (m : Nat) (z' : V), m < j → vs[m]? = some z' → eqV z' (.int i) = false
  | _, _, _, .nil, _, e => by cases e
  | _, _, j, .cons (d := d) (vs := vs) (ds := ds) a r, hd, e => by
    cases d with
    | int x =>
      cases a
      have hr : ds.all isIntD = true := by simpa [isIntD] using hd
      have flr : ∀ {vs : List V} {ds : List D}, DenL g U H vs ds → ds.all isIntD = true → vs.all flatV = true := by
        intro vs ds h
        induction ds generalizing vs with
        | nil => cases h; intro _; rfl
        | cons d ds ih =>
          intro hh
          cases h with
          | cons a r =>
            simp only [List.all_cons, Bool.and_eq_true] at hh ⊢
            refine ⟨?_, ih r hh.2⟩
            cases d with
            | int _ => cases a; rfl
            | _ => cases hh.1
      have fl : (V.int x :: vs).all flatV = true := by
        rw [List.all_cons, flr r hr] <;> rfl
      unfold ixFind at e
      split at e
      · rename_i q
        cases e
        subst q
        refine ⟨fl, .int x, rfl, ?_, fun m z' hm => absurd hm (Nat.not_lt_zero m)⟩
        simp [eqV]
      · rename_i q
        cases e2 : ixFind ds i with
        | none => rw [e2] at e; cases e
        | some j' =>
          rw [e2] at e
          cases e
          obtain ⟨_, z, h1, h2, h3⟩ := ixFind_den r hr e2
          refine ⟨fl, z, by simpa using h1, h2, fun m z' hm hz => ?_⟩
          cases m with
          | zero =>
            cases hz
            simpa [eqV] using q
          | succ m => exact h3 m z' (by have hm' : m + 1 < j' + 1 := hm; omega) (by simpa using hz)
    | _ => simp [isIntD] at hd
theorem pe_indexK {X : Cx} {K : PySem.W.Frag} {o e : Expr} {es : List Expr} {to : TE} {t : TA} {apos cpos : Pos} (h : X.K = K) (ho : PE X o to) (ha : PA X (e :: es) t)
    (hbase : attributeBase o "index" X.env (eval o X.env) = eval o X.env := by rfl)
    (hfew : ((backTo cpos (starEach (e :: es) X.env)).all (fun x => !x.1) && (backToKw cpos (keywordEach [] X.env)).all (fun x => x.1.isSome)
      && decide ((e :: es).length + ([] : List Keyword).length + (if ([] : List Keyword).isEmpty then 0 else 1) < 30)) = true := by rfl)
    (hline : (apos.endLine == cpos.line) = true := by rfl) (hs : starEach (e :: es) X.env = (false, eval e X.env) :: starEach es X.env := by rfl) (hplain : (backTo cpos (starEach es X.env)).any (·.1) = false := by rfl) :
    PE X (.Call (.Attribute o "index" apos) (e :: es) [] cpos) (tBM K "list" (rIndex K) to t) := by
  subst h
  exact pe_bm PySem.F.plainAttrs_list PySem.F.slot_list_index PySem.F.type_list_index mt_index ho ha hbase hfew hline hs hplain
theorem se_index (ho : SE g E ε to mo) (he : SE g E ε te me) : SE g E ε (tBM g.K "list" (rIndex g.K) to (tCons te tNil)) (bd mo fun x => match x with
    | .lst ds => bd me fun y => indexD (.lst ds) y
    | _ => .bad) := fun U σ H b Q R W u q =>
  ho.step R W u q fun v d H1 b1 d1 w1 f1 R1 u1 q1 => by
    cases d with
    | lst ds =>
      obtain ⟨p, vs, rfl, hh, _, _, k⟩ := den_lst d1
      refine ⟨.inl ⟨rfl, vs, SqL.of hh⟩, ?_⟩
      refine he.step R1 w1 u1 q1 fun v2 d2 H2 b2 dn2 w2 f2 R2 u2 q2 => ?_
      obtain ⟨p', vs', e', hh', _, _, k'⟩ := den_lst (d1.fr u1 f2)
      cases e'
      unfold indexD at q2
      cases d2 with
      | int i =>
        cases dn2
        change Al (okP g U H Q) (exP g U E H2) (if ds.all isIntD = true then (match ixFind ds i with
          | some j => Tr.ok (D.int (j : Nat))
          | none => .bad) else .bad) b2 at q2
        split at q2
        · rename_i hi
          cases e : ixFind ds i with
          | none => rw [e] at q2; exact q2.elim
          | some j =>
            rw [e] at q2
            obtain ⟨h1, z, h2, h3, h4⟩ := ixFind_den k' hi e
            exact ⟨p, vs', .int i, j, z, rfl, rfl, SqL.of hh', rfl, h1, h2, h3, h4, (show okP g U H Q (.int (j : Nat)) b2 from q2) _ _ (.int _) w2 (f1.trans f2)⟩
        · exact q2.elim
      | _ => exact q2.elim
    | _ => exact q1.elim
end
end Gp
end
section
set_option Elab.async false
set_option linter.all false
set_option maxRecDepth 100000
set_option maxHeartbeats 0
namespace Lw
open PySem PySem.Spec PyProof.Rows L2 Gh Gp
theorem ob_eq (s : PySem.W.SharedT) : ob s = hk.obs s.abs := Gp.obsL_eq (HandSHeadRun.getT_eq s)
structure Tx (K : PySem.W.Frag) (mg : Str → Option Value) : Prop where
  f_abs : mg "abs" = none
  f_bool : mg "bool" = none
  f_int : mg "int" = none
  f_isinstance : mg "isinstance" = none
  f_len : mg "len" = none
  f_list : mg "list" = none
  f_range : mg "range" = none
  f_repr : mg "repr" = none
  f_str : mg "str" = none
  f_super : mg "super" = none
  g__law_pen : mg "_law_pen" = some (.ref (gd "_law_pen" K))
  k__law_pen : PySem.W.keepIn K (.ref (gd "_law_pen" K)) = true
  g__law_draw : mg "_law_draw" = some (.ref (gd "_law_draw" K))
  k__law_draw : PySem.W.keepIn K (.ref (gd "_law_draw" K)) = true
  g_is_integer : mg "is_integer" = some (.ref (gd "is_integer" K))
  k_is_integer : PySem.W.keepIn K (.ref (gd "is_integer" K)) = true
  g_is_within : mg "is_within" = some (.ref (gd "is_within" K))
  k_is_within : PySem.W.keepIn K (.ref (gd "is_within" K)) = true
  g_is_length : mg "is_length" = some (.ref (gd "is_length" K))
  k_is_length : PySem.W.keepIn K (.ref (gd "is_length" K)) = true
  g_need_length : mg "need_length" = some (.ref (gd "need_length" K))
  k_need_length : PySem.W.keepIn K (.ref (gd "need_length" K)) = true
  g_need_place : mg "need_place" = some (.ref (gd "need_place" K))
  k_need_place : PySem.W.keepIn K (.ref (gd "need_place" K)) = true
  g_seat_at : mg "seat_at" = some (.ref (gd "seat_at" K))
  k_seat_at : PySem.W.keepIn K (.ref (gd "seat_at" K)) = true
  g_place_at : mg "place_at" = some (.ref (gd "place_at" K))
  k_place_at : PySem.W.keepIn K (.ref (gd "place_at" K)) = true
  g_seat_behind : mg "seat_behind" = some (.ref (gd "seat_behind" K))
  k_seat_behind : PySem.W.keepIn K (.ref (gd "seat_behind" K)) = true
  g__law_pick : mg "_law_pick" = some (.ref (gd "_law_pick" K))
  k__law_pick : PySem.W.keepIn K (.ref (gd "_law_pick" K)) = true
  g__law_changed : mg "_law_changed" = some (.ref (gd "_law_changed" K))
  k__law_changed : PySem.W.keepIn K (.ref (gd "_law_changed" K)) = true
  g__law_kinds : mg "_law_kinds" = some (.ref (gd "_law_kinds" K))
  k__law_kinds : PySem.W.keepIn K (.ref (gd "_law_kinds" K)) = true
  g__law_count : mg "_law_count" = some (.ref (gd "_law_count" K))
  k__law_count : PySem.W.keepIn K (.ref (gd "_law_count" K)) = true
  g__law_told : mg "_law_told" = some (.ref (gd "_law_told" K))
  k__law_told : PySem.W.keepIn K (.ref (gd "_law_told" K)) = true
  g__law_plain : mg "_law_plain" = some (.ref (gd "_law_plain" K))
  k__law_plain : PySem.W.keepIn K (.ref (gd "_law_plain" K)) = true
  g__law_played : mg "_law_played" = some (.ref (gd "_law_played" K))
  k__law_played : PySem.W.keepIn K (.ref (gd "_law_played" K)) = true
  g__law_moved : mg "_law_moved" = some (.ref (gd "_law_moved" K))
  k__law_moved : PySem.W.keepIn K (.ref (gd "_law_moved" K)) = true
  g__law_went : mg "_law_went" = some (.ref (gd "_law_went" K))
  k__law_went : PySem.W.keepIn K (.ref (gd "_law_went" K)) = true
  g__law_stretch : mg "_law_stretch" = some (.ref (gd "_law_stretch" K))
  k__law_stretch : PySem.W.keepIn K (.ref (gd "_law_stretch" K)) = true
  g__law_part : mg "_law_part" = some (.ref (gd "_law_part" K))
  k__law_part : PySem.W.keepIn K (.ref (gd "_law_part" K)) = true
  g__law_short_right : mg "_law_short_right" = some (.ref (gd "_law_short_right" K))
  k__law_short_right : PySem.W.keepIn K (.ref (gd "_law_short_right" K)) = true
  g__law_great : mg "_law_great" = some (.ref (gd "_law_great" K))
  k__law_great : PySem.W.keepIn K (.ref (gd "_law_great" K)) = true
  g__law_great_right : mg "_law_great_right" = some (.ref (gd "_law_great_right" K))
  k__law_great_right : PySem.W.keepIn K (.ref (gd "_law_great_right" K)) = true
  g__law_heard : mg "_law_heard" = some (.ref (gd "_law_heard" K))
  k__law_heard : PySem.W.keepIn K (.ref (gd "_law_heard" K)) = true
  g__law_refused_right : mg "_law_refused_right" = some (.ref (gd "_law_refused_right" K))
  k__law_refused_right : PySem.W.keepIn K (.ref (gd "_law_refused_right" K)) = true
  g_BadLength : mg "BadLength" = some (.ref (gd "BadLength" K))
  k_BadLength : PySem.W.keepIn K (.ref (gd "BadLength" K)) = true
  g_BadPlace : mg "BadPlace" = some (.ref (gd "BadPlace" K))
  k_BadPlace : PySem.W.keepIn K (.ref (gd "BadPlace" K)) = true
  g_Span : mg "Span" = some (.ref (gd "Span" K))
  k_Span : PySem.W.keepIn K (.ref (gd "Span" K)) = true
  g_Sided : mg "Sided" = some (.ref (gd "Sided" K))
  k_Sided : PySem.W.keepIn K (.ref (gd "Sided" K)) = true
  g_Stretch : mg "Stretch" = some (.ref (gd "Stretch" K))
  k_Stretch : PySem.W.keepIn K (.ref (gd "Stretch" K)) = true
  g_HuntError : mg "HuntError" = some (.ref (gd "HuntError" K))
  k_HuntError : PySem.W.keepIn K (.ref (gd "HuntError" K)) = true
  m_GREATEST_LENGTH : ∃ t, mg "GREATEST_LENGTH" = some (.int 10000000000000000000000000000000000000000 t)
  m_MOST_HALVES : ∃ t, mg "MOST_HALVES" = some (.int 8 t)
  m_MOST_MORE : ∃ t, mg "MOST_MORE" = some (.int 60 t)
  m_MOST_ODD : ∃ t, mg "MOST_ODD" = some (.int 9 t)
  n_BadLength_value : NoAttr K (gd "BadLength" K) "value"
  er_BadLength : ErrT K (gd "BadLength" K)
  ox_BadLength : OexC K (gd "BadLength" K)
  in_BadLength : IniT K (gd "BadLength" K) (md "BadLength" "__init__" K)
  xh_BadLength : PySem.W.exmOne K (.ref (gd "BadLength" K)) (.ref (gd "HuntError" K)) = some true
  n_BadPlace_value : NoAttr K (gd "BadPlace" K) "value"
  er_BadPlace : ErrT K (gd "BadPlace" K)
  ox_BadPlace : OexC K (gd "BadPlace" K)
  in_BadPlace : IniT K (gd "BadPlace" K) (md "BadPlace" "__init__" K)
  xh_BadPlace : PySem.W.exmOne K (.ref (gd "BadPlace" K)) (.ref (gd "HuntError" K)) = some true
  cl_Span : Cls K (gd "Span" K)
  ty_Span : InsT K (gd "Span" K)
  n_Span_own_parts : NoAttr K (gd "Span" K) "own_parts"
  mk_Span : Mk K (gd "Span" K) (md "Span" "__init__" K)
  pr_Span_halves : PropOf K (gd "Span" K) "halves" (He.ma K (He.ga K "Span") "halves") (propG "Span" "halves" K)
  pr_Span_more : PropOf K (gd "Span" K) "more" (He.ma K (He.ga K "Span") "more") (propG "Span" "more" K)
  pr_Span_odd : PropOf K (gd "Span" K) "odd" (He.ma K (He.ga K "Span") "odd") (propG "Span" "odd" K)
  mt_Span_number_at : Meth K (gd "Span" K) "number_at" (md "Span" "number_at" K)
  mt_Span___call__ : Meth K (gd "Span" K) "__call__" (md "Span" "__call__" K)
  co_Span : StX.CallO K (gd "Span" K) (md "Span" "__call__" K)
  cl_Sided : Cls K (gd "Sided" K)
  ty_Sided : InsT K (gd "Sided" K)
  cl_Stretch : Cls K (gd "Stretch" K)
  ty_Stretch : InsT K (gd "Stretch" K)
  n_Stretch_side : NoAttr K (gd "Stretch" K) "side"
  n_Stretch_first : NoAttr K (gd "Stretch" K) "first"
  n_Stretch_span : NoAttr K (gd "Stretch" K) "span"
  n_Stretch_late : NoAttr K (gd "Stretch" K) "late"
  mk_Stretch : Mk K (gd "Stretch" K) (md "Stretch" "__init__" K)
  mt_Stretch_changes : Meth K (gd "Stretch" K) "changes" (md "Stretch" "changes" K)
  mt_Stretch_begin : Meth K (gd "Stretch" K) "begin" (md "Stretch" "begin" K)
  mt_Stretch_to : Meth K (gd "Stretch" K) "to" (md "Stretch" "to" K)
  g_SIDES : mg "SIDES" = some (.ref (gd "SIDES" K))
  tu_SIDES : ∀ H : Hp, SqT K H (gd "SIDES" K) [.str "front", .str "back"]
  stat : PySem.W.nsIn K cStatics "thirdparty.any" = some none
  cd_Stretch : (PySem.W.clsIn K (gd "Stretch" K)).isSome = true
  sc_Stretch_Stretch : SupC K (gd "Stretch" K) (gd "Stretch" K) "__init__" (md "Sided" "__init__" K)
  xf_BadLength : XfC K (gd "BadLength" K)
  xf_BadPlace : XfC K (gd "BadPlace" K)
  xm_BadLength_BadLength : PySem.W.exmOne K (.ref (gd "BadLength" K)) (.ref (gd "BadLength" K)) = some true
  xm_BadPlace_BadLength : PySem.W.exmOne K (.ref (gd "BadPlace" K)) (.ref (gd "BadLength" K)) = some false
  xm_BadPlace_BadPlace : PySem.W.exmOne K (.ref (gd "BadPlace" K)) (.ref (gd "BadPlace" K)) = some true
  ki_Stretch_Span : PySem.W.kitOne K (.ref (gd "Stretch" K)) (.ref (gd "Span" K)) = some false
theorem tx_of {K : PySem.W.Frag} {h : Heap} {mg : Str → Option Value} (X : K.In h) (G : h.Ns mainGlobals mg) (c : Says exs fns K) : Tx K mg :=
  ⟨(He.free_ok X G (c.fact 0 rfl)), (He.free_ok X G (c.fact 1 rfl)), (He.free_ok X G (c.fact 2 rfl)), (He.free_ok X G (c.fact 3 rfl)), (He.free_ok X G (c.fact 4 rfl)), (He.free_ok X G (c.fact 5 rfl)), (He.free_ok X G (c.fact 6 rfl)), (He.free_ok X G (c.fact 7 rfl)), (He.free_ok X G (c.fact 8 rfl)), (He.free_ok X G (c.fact 9 rfl)), (He.glo_ok X G (c.fact 10 rfl)), ((c.fact 11 rfl)), (He.glo_ok X G (c.fact 12 rfl)), ((c.fact 13 rfl)), (He.glo_ok X G (c.fact 14 rfl)), ((c.fact 15 rfl)), (He.glo_ok X G (c.fact 16 rfl)), ((c.fact 17 rfl)), (He.glo_ok X G (c.fact 18 rfl)), ((c.fact 19 rfl)), (He.glo_ok X G (c.fact 20 rfl)), ((c.fact 21 rfl)), (He.glo_ok X G (c.fact 22 rfl)), ((c.fact 23 rfl)), (He.glo_ok X G (c.fact 24 rfl)), ((c.fact 25 rfl)), (He.glo_ok X G (c.fact 26 rfl)), ((c.fact 27 rfl)), (He.glo_ok X G (c.fact 28 rfl)), ((c.fact 29 rfl)), (He.glo_ok X G (c.fact 30 rfl)), ((c.fact 31 rfl)), (He.glo_ok X G (c.fact 32 rfl)), ((c.fact 33 rfl)), (He.glo_ok X G (c.fact 34 rfl)), ((c.fact 35 rfl)), (He.glo_ok X G (c.fact 36 rfl)), ((c.fact 37 rfl)), (He.glo_ok X G (c.fact 38 rfl)), ((c.fact 39 rfl)), (He.glo_ok X G (c.fact 40 rfl)), ((c.fact 41 rfl)), (He.glo_ok X G (c.fact 42 rfl)), ((c.fact 43 rfl)), (He.glo_ok X G (c.fact 44 rfl)), ((c.fact 45 rfl)), (He.glo_ok X G (c.fact 46 rfl)), ((c.fact 47 rfl)), (He.glo_ok X G (c.fact 48 rfl)), ((c.fact 49 rfl)), (He.glo_ok X G (c.fact 50 rfl)), ((c.fact 51 rfl)), (He.glo_ok X G (c.fact 52 rfl)), ((c.fact 53 rfl)), (He.glo_ok X G (c.fact 54 rfl)), ((c.fact 55 rfl)), (He.glo_ok X G (c.fact 56 rfl)), ((c.fact 57 rfl)), (He.glo_ok X G (c.fact 58 rfl)), ((c.fact 59 rfl)), (He.glo_ok X G (c.fact 60 rfl)), ((c.fact 61 rfl)), (He.glo_ok X G (c.fact 62 rfl)), ((c.fact 63 rfl)), (He.glo_ok X G (c.fact 64 rfl)), ((c.fact 65 rfl)), (He.glo_ok X G (c.fact 66 rfl)), ((c.fact 67 rfl)), (He.glo_ok X G (c.fact 68 rfl)), ((c.fact 69 rfl)), (He.glo_ok X G (c.fact 70 rfl)), ((c.fact 71 rfl)), (He.glo_ok X G (c.fact 72 rfl)), ((c.fact 73 rfl)), (He.int_ok X G (c.fact 74 rfl)), (He.int_ok X G (c.fact 75 rfl)), (He.int_ok X G (c.fact 76 rfl)), (He.int_ok X G (c.fact 77 rfl)), (He.eqO_ok (c.fact 78 rfl)), (errB_ok (c.fact 79 rfl)), (oexB_ok (c.fact 80 rfl)), (iniB_ok (c.fact 81 rfl)), (of_decide_eq_true (c.fact 82 rfl)), (He.eqO_ok (c.fact 83 rfl)), (errB_ok (c.fact 84 rfl)), (oexB_ok (c.fact 85 rfl)), (iniB_ok (c.fact 86 rfl)), (of_decide_eq_true (c.fact 87 rfl)), (He.cls_ok (c.fact 88 rfl)), (insB_ok (c.fact 89 rfl)), (He.eqO_ok (c.fact 90 rfl)), (He.mkr_ok (c.fact 91 rfl)), (propB_ok (c.fact 92 rfl)), (propB_ok (c.fact 93 rfl)), (propB_ok (c.fact 94 rfl)), (He.meth_ok (c.fact 95 rfl)), (He.meth_ok (c.fact 96 rfl)), (coB_ok (c.fact 97 rfl)), (He.cls_ok (c.fact 98 rfl)), (insB_ok (c.fact 99 rfl)), (He.cls_ok (c.fact 100 rfl)), (insB_ok (c.fact 101 rfl)), (He.eqO_ok (c.fact 102 rfl)), (He.eqO_ok (c.fact 103 rfl)), (He.eqO_ok (c.fact 104 rfl)), (He.eqO_ok (c.fact 105 rfl)), (He.mkr_ok (c.fact 106 rfl)), (He.meth_ok (c.fact 107 rfl)), (He.meth_ok (c.fact 108 rfl)), (He.meth_ok (c.fact 109 rfl)), (He.glo_ok X G (c.fact 110 rfl)), (fun H => He.tupB_ok (c.fact 111 rfl) H), (He.eqO_ok (c.fact 112 rfl)), ((c.fact 113 rfl)), (supCB_ok (c.fact 114 rfl)), (xfB_ok (c.fact 115 rfl)), (xfB_ok (c.fact 116 rfl)), (of_decide_eq_true (c.fact 117 rfl)), (of_decide_eq_true (c.fact 118 rfl)), (of_decide_eq_true (c.fact 119 rfl)), (of_decide_eq_true (c.fact 120 rfl))⟩
section
variable {K : PySem.W.Frag} {mg : Str → Option Value} {Tb : List (Addr × Str)} {p c : Addr}
def isi_int : D → Option Bool := isF (fun n => kitB n "int") [("Span", false), ("Stretch", false)] []
theorem isT_int (T : Tx K mg) : IsT ⟨K, Tb, p, c⟩ (.type "int") isi_int := isT_of (fun n k h => kit_ty h) (fun c k h => (look_cons h).elim (fun e => by obtain ⟨rfl, rfl⟩ := e; exact ⟨T.cl_Span, T.ty_Span, T.ty_Span.out _ (by decide)⟩) (fun h => (look_cons h).elim (fun e => by obtain ⟨rfl, rfl⟩ := e; exact ⟨T.cl_Stretch, T.ty_Stretch, T.ty_Stretch.out _ (by decide)⟩) (fun h => nomatch h))) (fun c k h => nomatch h)
def isi_bool : D → Option Bool := isF (fun n => kitB n "bool") [("Span", false), ("Stretch", false)] []
theorem isT_bool (T : Tx K mg) : IsT ⟨K, Tb, p, c⟩ (.type "bool") isi_bool := isT_of (fun n k h => kit_ty h) (fun c k h => (look_cons h).elim (fun e => by obtain ⟨rfl, rfl⟩ := e; exact ⟨T.cl_Span, T.ty_Span, T.ty_Span.out _ (by decide)⟩) (fun h => (look_cons h).elim (fun e => by obtain ⟨rfl, rfl⟩ := e; exact ⟨T.cl_Stretch, T.ty_Stretch, T.ty_Stretch.out _ (by decide)⟩) (fun h => nomatch h))) (fun c k h => nomatch h)
def isi_Span : D → Option Bool := isF (fun n => if n ∈ (["NoneType", "bool", "int", "str", "list", "tuple", "dict"] : List String) then some false else none) [("Span", true), ("Stretch", false)] []
theorem isT_Span (T : Tx K mg) : IsT ⟨K, Tb, p, c⟩ (.ref (gd "Span" K)) isi_Span := isT_of (fun n k h => by
  split at h
  · rename_i z
    cases h
    exact T.ty_Span.no n z
  · cases h) (fun c k h => (look_cons h).elim (fun e => by obtain ⟨rfl, rfl⟩ := e; exact ⟨T.cl_Span, T.ty_Span, T.ty_Span.yes⟩) (fun h => (look_cons h).elim (fun e => by obtain ⟨rfl, rfl⟩ := e; exact ⟨T.cl_Stretch, T.ty_Stretch, T.ki_Stretch_Span⟩) (fun h => nomatch h))) (fun c k h => nomatch h)
def isi_str : D → Option Bool := isF (fun n => kitB n "str") [("Span", false), ("Stretch", false)] []
theorem isT_str (T : Tx K mg) : IsT ⟨K, Tb, p, c⟩ (.type "str") isi_str := isT_of (fun n k h => kit_ty h) (fun c k h => (look_cons h).elim (fun e => by obtain ⟨rfl, rfl⟩ := e; exact ⟨T.cl_Span, T.ty_Span, T.ty_Span.out _ (by decide)⟩) (fun h => (look_cons h).elim (fun e => by obtain ⟨rfl, rfl⟩ := e; exact ⟨T.cl_Stretch, T.ty_Stretch, T.ty_Stretch.out _ (by decide)⟩) (fun h => nomatch h))) (fun c k h => nomatch h)
end
end Lw
end
section
set_option Elab.async false
set_option linter.all false
set_option maxRecDepth 100000
set_option maxHeartbeats 4000000
set_option pp.maxSteps 600
namespace Lw
open PySem PySem.Spec PyProof.Rows L2 Gh
local macro_rules | `(tactic| nofun) => `(tactic| (first | assumption | exact Ne.symm (by assumption) | (apply nw_pen'; (· assumption); (· assumption); (· ac_rfl)) | (apply Ne.symm; apply nw_pen'; (· assumption); (· assumption); (· ac_rfl)) | (apply nw_cell'; (· assumption); (· assumption); (· ac_rfl)) | (apply Ne.symm; apply nw_cell'; (· assumption); (· assumption); (· ac_rfl)) | (apply none_pen'; (· assumption); (· assumption); (· ac_rfl)) | (apply Ne.symm; apply none_pen'; (· assumption); (· assumption); (· ac_rfl)) | (apply none_cell'; (· assumption); (· assumption); (· ac_rfl)) | (apply Ne.symm; apply none_cell'; (· assumption); (· assumption); (· ac_rfl)) | (apply tup_pen'; (· assumption); (· assumption); (· ac_rfl)) | (apply Ne.symm; apply tup_pen'; (· assumption); (· assumption); (· ac_rfl)) | (apply tup_cell'; (· assumption); (· assumption); (· ac_rfl)) | (apply Ne.symm; apply tup_cell'; (· assumption); (· assumption); (· ac_rfl)) | (apply ins_pen'; (· assumption); (· assumption); (· ac_rfl)) | (apply Ne.symm; apply ins_pen'; (· assumption); (· assumption); (· ac_rfl)) | (apply ins_cell'; (· assumption); (· assumption); (· ac_rfl)) | (apply Ne.symm; apply ins_cell'; (· assumption); (· assumption); (· ac_rfl)) | (apply ins_lst; (· assumption); (· infer_instance)) | (apply Ne.symm; apply ins_lst; (· assumption); (· infer_instance)) | (apply ins_tup; (· assumption); (· infer_instance)) | (apply Ne.symm; apply ins_tup; (· assumption); (· infer_instance)) | (apply tup_lst; (· assumption); (· infer_instance)) | (apply Ne.symm; apply tup_lst; (· assumption); (· infer_instance)) | (apply nw_ne; (· assumption); (· infer_instance)) | (apply Ne.symm; apply nw_ne; (· assumption); (· infer_instance)) | (apply none_ne; (· assumption); (· infer_instance)) | (apply Ne.symm; apply none_ne; (· assumption); (· infer_instance))))
local macro_rules | `(tactic| ac_rfl) => `(tactic| ((repeat (first | assumption | (apply Pen.nw; (focus assumption)) | (apply Pen.same; (focus assumption)) | (apply Pen.mu; (focus assumption); (focus nofun); (focus nofun)) | (apply Pen.keep; (focus assumption); (focus nofun); (focus nofun)))); done))
local macro_rules | `(tactic| infer_instance) => `(tactic| ((repeat (first | assumption | (apply Nw.at_; assumption) | (apply Mu.at_; assumption) | (apply Nw.up; (focus assumption)) | (apply same_up; (focus assumption)) | (apply Mu.up; (focus assumption); (focus nofun)) | (apply keep_up; (focus assumption); (focus nofun)) | (apply keep2_up; (focus assumption); (focus nofun); (focus nofun)))); done))
local macro_rules | `(tactic| symm_saturate) => `(tactic| (repeat (first | with_reducible refine st_seq ?_ | with_reducible refine st_asg ?_ | with_reducible refine st_name ?_ | with_reducible refine st_ret ?_ | with_reducible refine st_drop ?_ | with_reducible refine st_ifS ?_ | with_reducible refine st_nx ?_ | with_reducible refine st_brk ?_ | with_reducible refine st_cnt ?_ | with_reducible refine st_c ?_ | with_reducible refine st_op ?_ | with_reducible refine st_un ?_ | with_reducible refine st_rI0 ?_ | with_reducible refine st_cons ?_ | with_reducible refine st_nil ?_ | with_reducible refine st_cl ?_ | with_reducible refine st_cb ?_ | with_reducible refine st_mt ?_ | with_reducible refine st_pr ?_ | with_reducible refine st_test ?_ | with_reducible refine st_ebl ?_ | with_reducible refine st_eint ?_ | with_reducible refine st_par ?_ | with_reducible refine st_par2 ?_ | with_reducible refine st_and ?_ | with_reducible refine st_or ?_ | with_reducible refine st_not ?_ | with_reducible refine st_andV ?_ | with_reducible refine st_orV ?_ | with_reducible refine st_notV ?_ | with_reducible refine st_ifE ?_ | with_reducible refine st_chain ?_ | with_reducible refine st_lst ?_ | with_reducible refine st_tup ?_ | with_reducible refine st_retN ?_ | with_reducible refine st_rU ?_ | with_reducible refine st_rAdd ?_ | with_reducible refine st_rSub ?_ | with_reducible refine st_isN ?_ | with_reducible refine st_notN ?_ | with_reducible refine st_sF ?_ | with_reducible refine st_int ?_ | with_reducible refine st_intB ?_ | with_reducible refine st_abs ?_ | with_reducible refine st_sl ?_ | with_reducible refine st_part ?_ | with_reducible refine st_nopart ?_ | with_reducible refine st_bm ?_ | with_reducible refine st_bm0 ?_ | with_reducible refine st_tyS ?_ | with_reducible refine st_gsub ?_ | with_reducible refine st_gcons ?_ | with_reducible refine st_gnil ?_ | with_reducible refine st_chain3 ?_ | with_reducible refine st_gsl ?_ | with_reducible refine st_clK ?_ | with_reducible refine st_mtK ?_ | with_reducible refine st_lcR1 ?_ | with_reducible refine st_lcR2 ?_ | with_reducible refine st_lcL ?_ | with_reducible refine st_lcT ?_ | with_reducible refine st_yes ?_ | with_reducible refine st_forR1 ?_ | with_reducible refine st_forR2 ?_ | with_reducible refine st_forL ?_ | with_reducible refine st_forT ?_ | with_reducible refine st_forE ?_ | with_reducible refine st_list ?_ | with_reducible refine st_itup ?_ | with_reducible refine st_tB ?_ | ((with_reducible apply st_var); exact rfl) | ((with_reducible apply st_aug); exact rfl) | ((with_reducible apply st_eq); exact rfl) | ((with_reducible apply st_ne); exact rfl) | ((with_reducible apply st_spK); (focus exact rfl); (focus exact rfl)) | ((with_reducible apply st_rI); (first | decide | (refine Or.inl ⟨?_, ?_⟩ <;> omega) | (refine Or.inr ⟨?_, ?_⟩ <;> omega) | (show (0 : Int) < _; omega) | exact ⟨by omega, log_of (by omega) (by omega)⟩ | exact ⟨by decide, by decide, by decide⟩)) | ((with_reducible apply st_powK); (focus exact ⟨by decide, by decide, by decide⟩); (focus decide)) | ((with_reducible apply st_eR1); (focus omega); (focus omega)) | ((with_reducible apply st_eR2); (focus omega)) | ((with_reducible apply st_if1); (first | with_reducible rfl | assumption | exact rfl | decide | (simp only [decide_eq_true_eq, decide_eq_false_iff_not, Bool.not_eq_true', Bool.not_eq_false', Bool.not_true, Bool.not_false, Bool.true_and, Bool.and_true, Bool.false_and, Bool.and_false, V.int.injEq, V.str.injEq, V.bl.injEq, V.ref.injEq, reduceCtorEq, not_true, not_false_eq_true, decide_true, decide_false, Int.not_lt, Int.not_le, ne_eq, List.length_cons, List.length_nil, List.length_map, List.length_append, List.length_set, List.length_take, List.length_drop] <;> omega))) | ((with_reducible apply st_if0); (first | with_reducible rfl | assumption | exact rfl | decide | (simp only [decide_eq_true_eq, decide_eq_false_iff_not, Bool.not_eq_true', Bool.not_eq_false', Bool.not_true, Bool.not_false, Bool.true_and, Bool.and_true, Bool.false_and, Bool.and_false, V.int.injEq, V.str.injEq, V.bl.injEq, V.ref.injEq, reduceCtorEq, not_true, not_false_eq_true, decide_true, decide_false, Int.not_lt, Int.not_le, ne_eq, List.length_cons, List.length_nil, List.length_map, List.length_append, List.length_set, List.length_take, List.length_drop] <;> omega))) | ((with_reducible apply st_lenL); (focus infer_instance)) | ((with_reducible apply st_lenT); (focus infer_instance)) | ((with_reducible apply st_tupT); (focus infer_instance)) | ((with_reducible apply st_tyL); (focus infer_instance)) | ((with_reducible apply st_elist); (focus infer_instance)) | ((with_reducible apply st_eitup); (focus infer_instance)) | ((with_reducible apply st_eE); (focus infer_instance)) | ((with_reducible apply st_epr); (focus infer_instance)) | ((with_reducible apply st_setO); (focus infer_instance)) | ((with_reducible apply st_ixO); (focus infer_instance)) | ((with_reducible apply st_ixLs); (focus assumption); (focus (first | exact rfl | exact atI_nat (by assumption)))) | ((with_reducible apply st_ixTs); (focus assumption); (focus (first | exact rfl | exact atI_nat (by assumption)))) | ((with_reducible apply st_fld); (focus infer_instance); (focus exact rfl)) | ((with_reducible apply st_const); (focus infer_instance); (focus exact rfl)) | ((with_reducible apply st_emt); (focus infer_instance); (focus exact rfl)) | ((with_reducible apply st_ixL); (focus infer_instance); (focus (first | exact rfl | exact atI_nat (by assumption)))) | ((with_reducible apply st_ixT); (focus infer_instance); (focus (first | exact rfl | exact atI_nat (by assumption)))) | ((with_reducible apply st_gtup); (focus infer_instance); (focus (first | exact rfl | exact atI_nat (by assumption)))))))
local macro_rules | `(tactic| subst_eqs) => `(tactic| (repeat (first | with_reducible refine st_seq ?_ | with_reducible refine st_asg ?_ | with_reducible refine st_name ?_ | with_reducible refine st_ret ?_ | with_reducible refine st_drop ?_ | with_reducible refine st_ifS ?_ | with_reducible refine st_nx ?_ | with_reducible refine st_brk ?_ | with_reducible refine st_cnt ?_ | with_reducible refine st_c ?_ | with_reducible refine st_op ?_ | with_reducible refine st_un ?_ | with_reducible refine st_rI0 ?_ | with_reducible refine st_cons ?_ | with_reducible refine st_nil ?_ | with_reducible refine st_cl ?_ | with_reducible refine st_cb ?_ | with_reducible refine st_mt ?_ | with_reducible refine st_pr ?_ | with_reducible refine st_test ?_ | with_reducible refine st_ebl ?_ | with_reducible refine st_eint ?_ | with_reducible refine st_par ?_ | with_reducible refine st_par2 ?_ | with_reducible refine st_and ?_ | with_reducible refine st_or ?_ | with_reducible refine st_not ?_ | with_reducible refine st_andV ?_ | with_reducible refine st_orV ?_ | with_reducible refine st_notV ?_ | with_reducible refine st_ifE ?_ | with_reducible refine st_chain ?_ | with_reducible refine st_lst ?_ | with_reducible refine st_tup ?_ | with_reducible refine st_retN ?_ | with_reducible refine st_rU ?_ | with_reducible refine st_rAdd ?_ | with_reducible refine st_rSub ?_ | with_reducible refine st_isN ?_ | with_reducible refine st_notN ?_ | with_reducible refine st_sF ?_ | with_reducible refine st_int ?_ | with_reducible refine st_intB ?_ | with_reducible refine st_abs ?_ | with_reducible refine st_sl ?_ | with_reducible refine st_part ?_ | with_reducible refine st_nopart ?_ | with_reducible refine st_bm ?_ | with_reducible refine st_bm0 ?_ | with_reducible refine st_tyS ?_ | with_reducible refine st_gsub ?_ | with_reducible refine st_gcons ?_ | with_reducible refine st_gnil ?_ | with_reducible refine st_chain3 ?_ | with_reducible refine st_gsl ?_ | with_reducible refine st_clK ?_ | with_reducible refine st_mtK ?_ | with_reducible refine st_lcR1 ?_ | with_reducible refine st_lcR2 ?_ | with_reducible refine st_lcL ?_ | with_reducible refine st_lcT ?_ | with_reducible refine st_yes ?_ | with_reducible refine st_forR1 ?_ | with_reducible refine st_forR2 ?_ | with_reducible refine st_forL ?_ | with_reducible refine st_forT ?_ | with_reducible refine st_forE ?_ | with_reducible refine st_list ?_ | with_reducible refine st_itup ?_ | with_reducible refine st_tB ?_ | ((with_reducible apply st_var); exact rfl) | ((with_reducible apply st_aug); exact rfl) | ((with_reducible apply st_eq); exact rfl) | ((with_reducible apply st_ne); exact rfl) | ((with_reducible apply st_spK); (focus exact rfl); (focus exact rfl)) | ((with_reducible apply st_rI); (first | decide | (refine Or.inl ⟨?_, ?_⟩ <;> omega) | (refine Or.inr ⟨?_, ?_⟩ <;> omega) | (show (0 : Int) < _; omega) | exact ⟨by omega, log_of (by omega) (by omega)⟩ | exact ⟨by decide, by decide, by decide⟩)) | ((with_reducible apply st_powK); (focus exact ⟨by decide, by decide, by decide⟩); (focus decide)) | ((with_reducible apply st_eR1); (focus omega); (focus omega)) | ((with_reducible apply st_eR2); (focus omega)) | ((with_reducible apply st_if1); (first | with_reducible rfl | assumption | exact rfl | decide | (simp only [decide_eq_true_eq, decide_eq_false_iff_not, Bool.not_eq_true', Bool.not_eq_false', Bool.not_true, Bool.not_false, Bool.true_and, Bool.and_true, Bool.false_and, Bool.and_false, V.int.injEq, V.str.injEq, V.bl.injEq, V.ref.injEq, reduceCtorEq, not_true, not_false_eq_true, decide_true, decide_false, Int.not_lt, Int.not_le, ne_eq, List.length_cons, List.length_nil, List.length_map, List.length_append, List.length_set, List.length_take, List.length_drop] <;> omega))) | ((with_reducible apply st_if0); (first | with_reducible rfl | assumption | exact rfl | decide | (simp only [decide_eq_true_eq, decide_eq_false_iff_not, Bool.not_eq_true', Bool.not_eq_false', Bool.not_true, Bool.not_false, Bool.true_and, Bool.and_true, Bool.false_and, Bool.and_false, V.int.injEq, V.str.injEq, V.bl.injEq, V.ref.injEq, reduceCtorEq, not_true, not_false_eq_true, decide_true, decide_false, Int.not_lt, Int.not_le, ne_eq, List.length_cons, List.length_nil, List.length_map, List.length_append, List.length_set, List.length_take, List.length_drop] <;> omega))) | ((with_reducible apply st_lenL); (focus infer_instance)) | ((with_reducible apply st_lenT); (focus infer_instance)) | ((with_reducible apply st_tupT); (focus infer_instance)) | ((with_reducible apply st_tyL); (focus infer_instance)) | ((with_reducible apply st_elist); (focus infer_instance)) | ((with_reducible apply st_eitup); (focus infer_instance)) | ((with_reducible apply st_eE); (focus infer_instance)) | ((with_reducible apply st_epr); (focus infer_instance)) | ((with_reducible apply st_setO); (focus infer_instance)) | ((with_reducible apply st_ixO); (focus infer_instance)) | ((with_reducible apply st_ixLs); (focus assumption); (focus (first | exact rfl | exact atI_nat (by assumption)))) | ((with_reducible apply st_ixTs); (focus assumption); (focus (first | exact rfl | exact atI_nat (by assumption)))) | ((with_reducible apply st_fld); (focus infer_instance); (focus exact rfl)) | ((with_reducible apply st_const); (focus infer_instance); (focus exact rfl)) | ((with_reducible apply st_emt); (focus infer_instance); (focus exact rfl)) | ((with_reducible apply st_ixL); (focus infer_instance); (focus (first | exact rfl | exact atI_nat (by assumption)))) | ((with_reducible apply st_ixT); (focus infer_instance); (focus (first | exact rfl | exact atI_nat (by assumption)))) | ((with_reducible apply st_gtup); (focus infer_instance); (focus (first | exact rfl | exact atI_nat (by assumption)))) | ((with_reducible apply st_newL); (focus (refine len_ok ?_; simp only [List.length_cons, List.length_nil, List.length_append, List.length_map, List.length_set, List.length_take, List.length_drop]; omega)); intro l Hn nw) | ((with_reducible apply st_newT); (focus (refine len_ok ?_; simp only [List.length_cons, List.length_nil, List.length_append, List.length_map, List.length_set, List.length_take, List.length_drop]; omega)); intro l Hn nw) | ((with_reducible apply st_listL); (focus infer_instance); intro l Hn nw) | ((with_reducible apply st_listT); (focus infer_instance); intro l Hn nw) | ((with_reducible apply st_tupL); (focus infer_instance); intro l Hn nw) | ((with_reducible apply st_slL); (focus infer_instance); intro l Hn nw) | ((with_reducible apply st_cat); (focus infer_instance); (focus infer_instance); (focus (refine len_ok ?_; simp only [List.length_cons, List.length_nil, List.length_append, List.length_map, List.length_set, List.length_take, List.length_drop]; omega)); intro l Hn nw))))
section
variable {P : Program} {w : World} {K : PySem.W.Frag} {mg : Str → Option Value} {base : Heap} {f : Addr} {fd : FuncData} {Tb : List (Addr × Str)}
abbrev N__law_pen : List Str := ["_law_script"]
theorem sc__law_pen : FnScope N__law_pen ["_law_script"] (defScope s__law_pen) := ⟨rfl, rfl, rfl, by decide +kernel, rfl, by decide +kernel, by decide +kernel⟩
theorem ok0__law_pen (F : FnA K d__law_pen fd) (T : Tx K mg) : FnOk P w K mg base CX0 1 (d__law_pen.adr K) fd ["_law_script"] (spPn K) := by
  refine fnO0 F sc__law_pen (fun vs H Q E h => by (repeat (first | (obtain ⟨rfl, _⟩ := h; rfl) | (obtain ⟨_, h⟩ := h)))) (fun cdv A outer s H vs Q E hr h => ?_)
  refine ⟨_, (pss_one (ps_ret (pe_lst (pa_cons (pe_callTy (cr_listOf (K := K) rfl) (by rfl) T.f_list (by decide +kernel) (pa_cons (pe_slice (sl_listK (K := K) rfl) (pv 0) po_none (po_some pe_int)) pa_nil)) (pa_cons pe_int (pa_cons pe_int pa_nil)))))), ?_⟩
  obtain ⟨a, ns, rfl, hS, hl, q⟩ := h
  have ec : cutV (ns.map V.int) none (some 63) = ns.map V.int := cut_all (by rw [List.length_map]; exact hl)
  symm_saturate
  refine st_slLs hS fun c H1 n1 => ?_
  rw [ec] at n1
  symm_saturate
  refine st_listL (by infer_instance) fun e H2 n2 => ?_
  symm_saturate
  refine st_newL (by (refine len_ok ?_; simp only [List.length_cons, List.length_nil, List.length_append, List.length_map, List.length_set, List.length_take, List.length_drop]; omega)) fun p H3 n3 => ?_
  refine q p e _ (n1.same.free (n2.same.free n3.no)) ⟨ns, 0, 0, by infer_instance, by infer_instance, hl, Int.le_refl _, by decide, Int.le_refl _⟩ (n1.same.trans (n2.same.trans n3.same))
abbrev N__law_draw : List Str := ["_law_pen_here", "_law_many", "_law_taken", "_law_cell", "_law_mixed", "_law_digit", "_law_great_here"]
theorem sc__law_draw : FnScope N__law_draw ["_law_pen_here", "_law_many"] (defScope s__law_draw) := ⟨rfl, rfl, rfl, by decide +kernel, rfl, by decide +kernel, by decide +kernel⟩
theorem ok0__law_draw (F : FnA K d__law_draw fd) (T : Tx K mg) : FnOk P w K mg base CX0 1 (d__law_draw.adr K) fd ["_law_pen_here", "_law_many"] spDr := by
  refine fnO0 F sc__law_draw (fun vs H Q E h => by (repeat (first | (obtain ⟨rfl, _⟩ := h; rfl) | (obtain ⟨_, h⟩ := h)))) (fun cdv A outer s H vs Q E hr h => ?_)
  refine ⟨_, (pss_cons (ps_if (pt_cmpR op_gt (pe_ix (ix_listK (K := K) rfl) (pv 0) pe_int (fun _ _ => rfl)) pe_int (nomark _))
      (pss_cons (ps_set (i := 5) sc__law_draw.nd rfl (.inl rfl) (pe_op op_mod (pe_callTy cr_int (by rfl) T.f_int (by decide +kernel) (pa_cons (pe_ix (ix_listK (K := K) rfl) (pv 0) pe_int (fun _ _ => rfl)) pa_nil)) (pv 1)))
      (pss_cons (ps_asg (pe_op op_fdivW (pe_callTy cr_int (by rfl) T.f_int (by decide +kernel) (pa_cons (pe_ix (ix_listK (K := K) rfl) (pv 0) pe_int (fun _ _ => rfl)) pa_nil)) (pv 1)) (pg_sub (pv 0) pe_int set_list))
      (pss_one (ps_ret (pv 5))))) pss_nil)
      (pss_cons (ps_set (i := 2) sc__law_draw.nd rfl (.inl rfl) (pe_ix (ix_listK (K := K) rfl) (pv 0) pe_int (fun _ _ => rfl)))
      (pss_cons (ps_asg (pe_op op_add (pv 2) pe_int) (pg_sub (pv 0) pe_int set_list))
      (pss_cons (ps_set (i := 3) sc__law_draw.nd rfl (.inl rfl) (pe_op op_add (pe_op op_mul pe_int (pv 2)) pe_int))
      (pss_cut (ps_if (pt_cmpR (op_neDK (K := K) rfl hr.units) (pe_ix (ix_listK (K := K) rfl) (pv 0) pe_int (fun _ _ => rfl)) (pe_lst pa_nil) (nomark _))
      (pss_one (ps_set (i := 3) sc__law_draw.nd rfl (.inl rfl) (pe_ix (ix_listK (K := K) rfl) (pe_ix (ix_listK (K := K) rfl) (pv 0) pe_int (fun _ _ => rfl)) (pe_op op_mod (pe_callTy cr_int (by rfl) T.f_int (by decide +kernel) (pa_cons (pv 2) pa_nil)) (pe_callB (cr_len (K := K) rfl) (by rfl) T.f_len (by decide +kernel) (pa_cons (pe_ix (ix_listK (K := K) rfl) (pv 0) pe_int (fun _ _ => rfl)) pa_nil))) (fun _ _ => rfl)))) pss_nil)
      (pss_cut (ps_if (PW.pt (pw_and (pt_cmpR op_lt (pv 2) (pe_callB (cr_len (K := K) rfl) (by rfl) T.f_len (by decide +kernel) (pa_cons (pe_ix (ix_listK (K := K) rfl) (pv 0) pe_int (fun _ _ => rfl)) pa_nil)) (nomark _)) (pw_and1 (pt_cmpR op_ge (pe_callB cr_abs (by rfl) T.f_abs (by decide +kernel) (pa_cons (pv 3) pa_nil)) (pe_op (op_powK 1000000000000000000) pe_int pe_int) (nomark _)))))
      (pss_cons (ps_set (i := 6) sc__law_draw.nd rfl (.inl rfl) (pe_op op_add (pe_op op_mul pe_int (pe_op op_sub (pe_callB cr_abs (by rfl) T.f_abs (by decide +kernel) (pa_cons (pv 3) pa_nil)) (pe_op (op_powK 1000000000000000000) pe_int pe_int))) (pe_callTy cr_int (by rfl) T.f_int (by decide +kernel) (pa_cons (pe_cmpR op_lt (pv 3) pe_int (nomark _)) pa_nil))))
      (pss_cons (ps_asg (pe_op op_fdivW (pe_callTy cr_int (by rfl) T.f_int (by decide +kernel) (pa_cons (pv 6) pa_nil)) (pv 1)) (pg_sub (pv 0) pe_int set_list))
      (pss_one (ps_ret (pe_op op_mod (pe_callTy cr_int (by rfl) T.f_int (by decide +kernel) (pa_cons (pv 6) pa_nil)) (pv 1)))))) pss_nil)
      (pss_cons (ps_set (i := 4) sc__law_draw.nd rfl (.inl rfl) (pe_op op_mod (pe_callTy cr_int (by rfl) T.f_int (by decide +kernel) (pa_cons (pe_op op_pow (pe_op op_add (pe_op op_add (pe_op op_mod (pe_callTy cr_int (by rfl) T.f_int (by decide +kernel) (pa_cons (pv 3) pa_nil)) pe_int) (pe_op op_mul pe_int (pv 2))) pe_int) pe_int) pa_nil)) pe_int))
      (pss_cons (ps_set (i := 4) sc__law_draw.nd rfl (.inl rfl) (pe_op op_mod (pe_callTy cr_int (by rfl) T.f_int (by decide +kernel) (pa_cons (pe_op op_pow (pe_op op_add (pe_op op_add (pe_op op_mul (pv 4) (pe_op op_add (pe_op op_mul pe_int (pv 2)) pe_int)) (pe_op op_mul (pe_op op_mul pe_int (pv 2)) (pv 2))) pe_int) pe_int) pa_nil)) pe_int))
      (pss_one (ps_ret (pe_op op_mod (pe_callTy cr_int (by rfl) T.f_int (by decide +kernel) (pa_cons (pe_op op_fdivW (pv 4) pe_int) pa_nil)) (pv 1)))))))))))), ?_⟩
  obtain ⟨p, c, b, m, rfl, hm, hlog, ⟨ns, i, z, hp, hc, hl, hi, hb, hz⟩, q⟩ := h
  have ncp : c ≠ p := pen_ne hp hc
  have mm := fun x : Int => mod_lt x hm
  have hdiv : ∀ x, CDivW x m := fun _ => ⟨hm, hlog⟩
  symm_saturate
  refine ite2 (fun h1 => ?_) (fun h1 => ?_)
  · symm_saturate
    refine st_rI (hdiv _) ?_
    symm_saturate
    refine st_setL hp rfl fun H1 n1 => ?_
    symm_saturate
    exact q _ _ (mm z).1 (mm z).2 ⟨ns, i, z / m, by infer_instance, by infer_instance, hl, hi, by omega, Int.ediv_nonneg hz (by omega)⟩ n1.keep
  · have z0 : z = 0 := by
      have : ¬ (z > 0) := by simpa using h1
      omega
    subst z0
    symm_saturate
    refine st_setL hp rfl fun H2 n2 => ?_
    have hp2 : H2 p = some (.lst [.ref c, .int (i + 1), .int 0]) := n2.at_
    have hc2 : H2 c = some (.lst (ns.map V.int)) := by infer_instance
    have k2 := n2.keep
    clear n2
    symm_saturate
    refine ⟨fun σ' H' => ∃ cell : Int, σ' = [some (.ref p), some (.int m), some (.int i), some (.int cell), none, none, none] ∧ H' p = some (.lst [.ref c, .int (i + 1), .int 0]) ∧ H' c = some (.lst (ns.map V.int)) ∧ Keep H H' p, ?_, ?_⟩
    · -- if the cells are not empty
      symm_saturate
      refine st_newL (by (refine len_ok ?_; simp only [List.length_cons, List.length_nil, List.length_append, List.length_map, List.length_set, List.length_take, List.length_drop]; omega)) fun e H3 n3 => ?_
      have hp3 : H3 p = some (.lst [.ref c, .int (i + 1), .int 0]) := by infer_instance
      have hc3 : H3 c = some (.lst (ns.map V.int)) := by infer_instance
      have k3 : Keep H H3 p := fun a o h1 h2 => n3.up (k2 _ _ h1 h2)
      refine st_neD (.lst (SqL.of hc3) (dp_ints K _ ns)) (.lst (SqL.of n3.at_) .nil) (PySem.W.ke_shaped_ints ns) (by decide +kernel) ?_
      clear n3
      symm_saturate
      refine ite2 (fun h2 => ?_) (fun h2 => ?_)
      · have hne : 0 < ns.length := by
          rw [eqv_nil] at h2
          cases ns with
          | nil => cases h2
          | cons a r => exact Nat.succ_pos _
        have hlen : (0 : Int) < ((ns.map V.int).length : Int) := by rw [List.length_map]; omega
        have mi := mod_lt i hlen
        obtain ⟨v, ev, _⟩ := atI_int (ns := ns) (i := i % ((ns.map V.int).length : Int)) mi.1 (by have := mi.2; rw [List.length_map] at this ⊢; exact this)
        symm_saturate
        refine st_ixL hc3 ev ?_
        symm_saturate
        exact ⟨v, rfl, hp3, hc3, k3⟩
      · symm_saturate
        exact ⟨_, rfl, hp3, hc3, k3⟩
    · rintro σ' H' ⟨cell, rfl, hp3, hc3, k3⟩
      -- a great cell?
      refine ⟨fun σ1 H1 => σ1 = [some (.ref p), some (.int m), some (.int i), some (.int cell), none, none, none] ∧ H1 = H', ?_, ?_⟩
      · symm_saturate
        refine ite2 (fun _ => ?_) (fun _ => ?_)
        · symm_saturate
          refine ite2 (fun h3 => ?_) (fun _ => ?_)
          · have hab : 1000000000000000000 ≤ (if cell < 0 then -cell else cell) := by simpa using h3
            symm_saturate
            have hgr : 0 ≤ 2 * ((if cell < 0 then -cell else cell) - 1000000000000000000) + (if decide (cell < 0) = true then 1 else 0) := by
              have : (0 : Int) ≤ (if decide (cell < 0) = true then 1 else 0) := by split <;> decide
              omega
            refine st_rI (hdiv _) ?_
            symm_saturate
            refine st_setL hp3 rfl fun H4 n4 => ?_
            symm_saturate
            refine q _ _ (mm _).1 (mm _).2 ⟨ns, i + 1, _, n4.at_, by infer_instance, hl, by omega, by omega, Int.ediv_nonneg hgr (by omega)⟩ (k3.trans n4.keep)
          · symm_saturate
            exact ⟨rfl, rfl⟩
        · symm_saturate
          exact ⟨rfl, rfl⟩
      · rintro σ1 H1 ⟨rfl, rfl⟩
        have hi2 : i ≤ 1000000 := by omega
        -- the first mix
        symm_saturate
        refine st_rI ⟨by decide, by decide, ?_⟩ ?_
        · refine pow_lt ?_ ?_ <;> omega
        have hx := mod_lt ((cell % 2147483629 + 83267 * i + 101) ^ (3 : Int).toNat) (show (0 : Int) < 2147483587 by decide)
        -- the second one
        symm_saturate
        refine st_rI ⟨by decide, by decide, ?_⟩ ?_
        · exact mix_ok hx.1 (Int.lt_trans hx.2 (by decide)) hi hi2 ⟨by decide, by decide⟩ ⟨by decide, by decide⟩ ⟨by decide, by decide⟩
        symm_saturate
        exact q _ _ (mm _).1 (mm _).2 ⟨ns, i + 1, 0, hp3, hc3, hl, by omega, by omega, Int.le_refl _⟩ k3
theorem ok__law_pen (F : FnA K d__law_pen fd) (T : Tx K mg) : FnOk P w K mg base CX0 1 (d__law_pen.adr K) fd ["_law_script"] (spPn K) := ok0__law_pen F T
theorem ok__law_draw (F : FnA K d__law_draw fd) (T : Tx K mg) : FnOk P w K mg base CX0 1 (d__law_draw.adr K) fd ["_law_pen_here", "_law_many"] (Gp.spF K Tb (Gp.ul2 Gp.F_draw)) := Gp.fnOk_weak (ok0__law_draw F T) fun _ _ _ _ => Gp.draw_of
end
end Lw
end
section
set_option Elab.async false
set_option linter.all false
set_option maxRecDepth 100000
set_option maxHeartbeats 4000000
set_option pp.maxSteps 600
namespace Lw
open PySem PySem.Spec PyProof.Rows L2 Gh Gp
section
variable {P : Program} {w : World} {K : PySem.W.Frag} {mg : Str → Option Value} {base : Heap} {f : Addr} {fd : FuncData} {Tb : List (Addr × Str)}
abbrev N_BadLength___init__ : List Str := ["self", "value"]
theorem sc_BadLength___init__ : FnScope N_BadLength___init__ ["self", "value"] (defScope s_BadLength___init__) := ⟨rfl, rfl, rfl, by decide +kernel, rfl, by decide +kernel, by decide +kernel⟩
theorem ok_BadLength___init__ (F : FnA K d_BadLength___init__ fd) (T : Tx K mg) : FnOk P w K mg base CX0 1 (d_BadLength___init__.adr K) fd ["self", "value"] (spErr1 (gd "BadLength" K) "value") := by
  refine fnO0 F sc_BadLength___init__ (fun vs H Q E h => ?_) (fun cdv A outer s H vs Q E hr h => ?_)
  · obtain ⟨a, v, rfl, _⟩ := h
    rfl
  · obtain ⟨a, v, rfl, ha, q⟩ := h
    refine ⟨_, pss_one (ps_ost (pv 0) (pv 1)), ?_⟩
    exact ⟨_, rfl, _, rfl, a, _, rfl, T.ox_BadLength, T.n_BadLength_value, .inl ⟨ha, q⟩⟩
abbrev N_BadPlace___init__ : List Str := ["self", "value"]
theorem sc_BadPlace___init__ : FnScope N_BadPlace___init__ ["self", "value"] (defScope s_BadPlace___init__) := ⟨rfl, rfl, rfl, by decide +kernel, rfl, by decide +kernel, by decide +kernel⟩
theorem ok_BadPlace___init__ (F : FnA K d_BadPlace___init__ fd) (T : Tx K mg) : FnOk P w K mg base CX0 1 (d_BadPlace___init__.adr K) fd ["self", "value"] (spErr1 (gd "BadPlace" K) "value") := by
  refine fnO0 F sc_BadPlace___init__ (fun vs H Q E h => ?_) (fun cdv A outer s H vs Q E hr h => ?_)
  · obtain ⟨a, v, rfl, _⟩ := h
    rfl
  · obtain ⟨a, v, rfl, ha, q⟩ := h
    refine ⟨_, pss_one (ps_ost (pv 0) (pv 1)), ?_⟩
    exact ⟨_, rfl, _, rfl, a, _, rfl, T.ox_BadPlace, T.n_BadPlace_value, .inl ⟨ha, q⟩⟩
abbrev N_is_integer : List Str := ["value"]
theorem sc_is_integer : FnScope N_is_integer ["value"] (defScope s_is_integer) := ⟨rfl, rfl, rfl, by decide +kernel, rfl, by decide +kernel, by decide +kernel⟩
def F_is_integer (value : D) : Tr D :=
  fin (bd (bd (bd (bd (.ok value) fun d => bd (opt (isi_int d)) fun k => .ok (.bl k)) asB) fun k => if k = true then (bd (bd (bd (.ok value) fun d => bd (opt (isi_bool d)) fun k => .ok (.bl k)) asB) fun k => .ok (.bl (!k))) else .ok (.bl false)) fun d => .ok (.rt d))
theorem ok_is_integer (F : FnA K d_is_integer fd) (T : Tx K mg)  : FnOk P w K mg base CX0 1 (d_is_integer.adr K) fd ["value"] (spF K Tb (ul1 F_is_integer)) := by
  refine fnO0 F sc_is_integer (fun vs H Q E h => spF_len len1 h) (fun cdv A outer s H vs Q E hr h => ?_)
  refine ⟨_, (pss_cons (ps_ret (pe_and (pe_callB (call_isiZ (K := K) rfl) (by rfl) T.f_isinstance (by decide +kernel) (pa_cons (pv 0) (pa_cons (pe_bltn (v := .ty "int") (by rfl) T.f_int (by decide +kernel) rfl) pa_nil))) (pe_one (pe_not (pe_callB (call_isiZ (K := K) rfl) (by rfl) T.f_isinstance (by decide +kernel) (pa_cons (pv 0) (pa_cons (pe_bltn (v := .ty "bool") (by rfl) T.f_bool (by decide +kernel) rfl) pa_nil))))))) pss_nil), ?_⟩
  exact fn_of1 (F := F_is_integer) (envU := fun _ => List.replicate 1 .no) h (fun value => rfl) (fun p c value => (ss_ret (se_andV (se_isi (.ty _) (isT_int T) se_var) (se_notV (se_isi (.ty _) (isT_bool T) se_var)))))
abbrev N_is_within : List Str := ["value", "least", "most"]
theorem sc_is_within : FnScope N_is_within ["value", "least", "most"] (defScope s_is_within) := ⟨rfl, rfl, rfl, by decide +kernel, rfl, by decide +kernel, by decide +kernel⟩
def F_is_within (value least most : D) : Tr D :=
  fin (bd (bd (bd (bd (bd (.ok value) fun v1 => (bd (.ok []) fun r2 => .ok (v1 :: r2))) (ul1 F_is_integer)) asB) fun k => if k = true then (bd (.ok least) fun v3 => (bd (.ok value) fun v4 => (bd (bd (leD v3 v4) asB) fun k => if k = true then (bd (.ok most) fun v5 => leD v4 v5) else .ok (.bl false)))) else .ok (.bl false)) fun d => .ok (.rt d))
theorem ok_is_within (F : FnA K d_is_within fd) (T : Tx K mg) (G_is_integer : PromO P w K mg base CX0 1 (gd "is_integer" K) [] (spF K Tb (ul1 F_is_integer))) : FnOk P w K mg base CX0 2 (d_is_within.adr K) fd ["value", "least", "most"] (spF K Tb (ul3 F_is_within)) := by
  refine fnO0 F sc_is_within (fun vs H Q E h => spF_len len3 h) (fun cdv A outer s H vs Q E hr h => ?_)
  refine ⟨_, (pss_cons (ps_ret (pe_and (pe_g (PromO.call G_is_integer (hr.mono (by decide)) (passA (E := E))) (by rfl) T.g_is_integer T.k_is_integer (pa_cons (pv 0) pa_nil)) (pe_one (pe_chain op_le op_le (pv 1) (pv 0) (pv 2))))) pss_nil), ?_⟩
  exact fn_of3 (F := F_is_within) (envU := fun _ => List.replicate 3 .no) h (fun value least most => rfl) (fun p c value least most => (ss_ret (se_andV (se_cl srl_sp0 (sa_cons se_var sa_nil)) (se_chain sr_le sr_le se_var se_var se_var))))
abbrev N_is_length : List Str := ["value"]
theorem sc_is_length : FnScope N_is_length ["value"] (defScope s_is_length) := ⟨rfl, rfl, rfl, by decide +kernel, rfl, by decide +kernel, by decide +kernel⟩
def F_is_length (value : D) : Tr D :=
  fin (bd (bd (bd (.ok value) fun v5 => (bd (bd (.ok (.int 1)) fun v3 => (bd (bd (.ok (.int 10000000000000000000000000000000000000000)) fun v1 => (bd (.ok []) fun r2 => .ok (v1 :: r2))) fun r4 => .ok (v3 :: r4))) fun r6 => .ok (v5 :: r6))) (ul3 F_is_within)) fun d => .ok (.rt d))
theorem ok_is_length (F : FnA K d_is_length fd) (T : Tx K mg) (G_is_within : PromO P w K mg base CX0 2 (gd "is_within" K) [] (spF K Tb (ul3 F_is_within))) : FnOk P w K mg base CX0 3 (d_is_length.adr K) fd ["value"] (spF K Tb (ul1 F_is_length)) := by
  refine fnO0 F sc_is_length (fun vs H Q E h => spF_len len1 h) (fun cdv A outer s H vs Q E hr h => ?_)
  refine ⟨_, (pss_cons (ps_ret (pe_g (PromO.call G_is_within (hr.mono (by decide)) (passA (E := E))) (by rfl) T.g_is_within T.k_is_within (pa_cons (pv 0) (pa_cons pe_int (pa_cons (pe_gi T.m_GREATEST_LENGTH (by rfl)) pa_nil))))) pss_nil), ?_⟩
  exact fn_of1 (F := F_is_length) (envU := fun _ => List.replicate 1 .no) h (fun value => rfl) (fun p c value => (ss_ret (se_cl srl_sp0 (sa_cons se_var (sa_cons se_int (sa_cons se_int sa_nil))))))
abbrev N_need_length : List Str := ["value"]
theorem sc_need_length : FnScope N_need_length ["value"] (defScope s_need_length) := ⟨rfl, rfl, rfl, by decide +kernel, rfl, by decide +kernel, by decide +kernel⟩
def F_need_length (value : D) : Tr D :=
  fin (bdF (W' := Unit) (bd (bd (bd (bd (bd (.ok value) fun v1 => (bd (.ok []) fun r2 => .ok (v1 :: r2))) (ul1 F_is_length)) asB) fun k => .ok (!k)) fun k => if k = true then (bd (.ok value) fun d => .ex "BadLength" [("value", d)]) else (.ok (.nx ()))) fun (w3 : Unit) => (.ok (.nx ())))
theorem ok_need_length (F : FnA K d_need_length fd) (T : Tx K mg) (G_is_length : PromO P w K mg base CX0 3 (gd "is_length" K) [] (spF K Tb (ul1 F_is_length))) (G_BadLength___init__ : PromO P w K mg base CX0 1 (md "BadLength" "__init__" K) [] (spErr1 (gd "BadLength" K) "value")) : FnOk P w K mg base (L2.CX P w) 4 (d_need_length.adr K) fd ["value"] (spF K Tb (ul1 F_need_length)) := by
  refine F.ok sc_need_length (fun vs H Q E h => spF_len len1 h) (fun cdv A outer s H vs Q E hr h => ?_)
  refine ⟨_, (pss_cons (ps_if (pt_not (pt_val (pe_g (PromO.call G_is_length (hr.mono (by decide)) (passA (E := E))) (by rfl) T.g_is_length T.k_is_length (pa_cons (pv 0) pa_nil))))
      (pss_cons (ps_raise rfl (takes_of rfl rfl rfl rfl) (pmk_po T.ox_BadLength T.in_BadLength.iC T.in_BadLength.tI G_BadLength___init__ (hr.mono (by decide)) pass0 T.g_BadLength (pa_cons (pv 0) pa_nil))) pss_nil) pss_nil)
      pss_nil), ?_⟩
  exact fn_of1 (F := F_need_length) (envU := fun _ => List.replicate 1 .no) h (fun value => rfl) (fun p c value => (ss_if (fun (w3 : Unit) => [.fz value]) (sb_not (sb_tb (se_cl srl_sp0 (sa_cons se_var sa_nil)))) (ss_raise1 se_var) (ss_nx (.s .nil)) (fun (w3 : Unit) => (ss_nx (le_no _ rfl)))))
abbrev N_need_place : List Str := ["n", "value"]
theorem sc_need_place : FnScope N_need_place ["n", "value"] (defScope s_need_place) := ⟨rfl, rfl, rfl, by decide +kernel, rfl, by decide +kernel, by decide +kernel⟩
def F_need_place (n value : D) : Tr D :=
  fin (bd (bd (bd (.ok n) fun v1 => (bd (.ok []) fun r2 => .ok (v1 :: r2))) (ul1 F_need_length)) fun _ => (bdF (W' := Unit) (bd (bd (bd (bd (bd (.ok value) fun v9 => (bd (bd (.ok (.int 0)) fun v7 => (bd (bd (bd (.ok n) fun v3 => (bd (.ok (.int 1)) fun v4 => subD v3 v4)) fun v5 => (bd (.ok []) fun r6 => .ok (v5 :: r6))) fun r8 => .ok (v7 :: r8))) fun r10 => .ok (v9 :: r10))) (ul3 F_is_within)) asB) fun k => .ok (!k)) fun k => if k = true then (bd (.ok value) fun d => .ex "BadPlace" [("value", d)]) else (.ok (.nx ()))) fun (w11 : Unit) => (.ok (.nx ()))))
theorem ok_need_place (F : FnA K d_need_place fd) (T : Tx K mg) (G_need_length : PromO P w K mg base (L2.CX P w) 4 (gd "need_length" K) [] (spF K Tb (ul1 F_need_length))) (G_is_within : PromO P w K mg base CX0 2 (gd "is_within" K) [] (spF K Tb (ul3 F_is_within))) (G_BadPlace___init__ : PromO P w K mg base CX0 1 (md "BadPlace" "__init__" K) [] (spErr1 (gd "BadPlace" K) "value")) : FnOk P w K mg base (L2.CX P w) 5 (d_need_place.adr K) fd ["n", "value"] (spF K Tb (ul2 F_need_place)) := by
  refine F.ok sc_need_place (fun vs H Q E h => spF_len len2 h) (fun cdv A outer s H vs Q E hr h => ?_)
  refine ⟨_, (pss_cons (ps_expr (pe_g (PromO.call G_need_length (hr.mono (by decide)) (pass_on rfl rfl rfl rfl)) (by rfl) T.g_need_length T.k_need_length (pa_cons (pv 0) pa_nil)))
      (pss_cons (ps_if (pt_not (pt_val (pe_g (PromO.call G_is_within (hr.mono (by decide)) (passA (E := E))) (by rfl) T.g_is_within T.k_is_within (pa_cons (pv 1) (pa_cons pe_int (pa_cons (pe_op op_sub (pv 0) pe_int) pa_nil))))))
      (pss_cons (ps_raise rfl (takes_of rfl rfl rfl rfl) (pmk_po T.ox_BadPlace T.in_BadPlace.iC T.in_BadPlace.tI G_BadPlace___init__ (hr.mono (by decide)) pass0 T.g_BadPlace (pa_cons (pv 1) pa_nil))) pss_nil) pss_nil)
      pss_nil)), ?_⟩
  exact fn_of2 (F := F_need_place) (envU := fun _ => List.replicate 2 .no) h (fun n value => rfl) (fun p c n value => (ss_drop (se_cl srl_sp0 (sa_cons se_var sa_nil)) (ss_if (fun (w11 : Unit) => [.fz n, .fz value]) (sb_not (sb_tb (se_cl srl_sp0 (sa_cons se_var (sa_cons se_int (sa_cons (se_op sr_sub se_var se_int) sa_nil)))))) (ss_raise1 se_var) (ss_nx (.s (.s .nil))) (fun (w11 : Unit) => (ss_nx (le_no _ rfl))))))
abbrev N_seat_at : List Str := ["n", "place"]
theorem sc_seat_at : FnScope N_seat_at ["n", "place"] (defScope s_seat_at) := ⟨rfl, rfl, rfl, by decide +kernel, rfl, by decide +kernel, by decide +kernel⟩
def F_seat_at (n place : D) : Tr D :=
  fin (bd (bd (bd (bd (bd (.ok place) fun v1 => (bd (.ok (.int 2)) fun v2 => modD v1 v2)) fun v3 => (bd (.ok (.int 0)) fun v4 => eqD v3 v4)) asB) fun k => if k = true then (bd (.ok place) fun v5 => (bd (.ok (.int 2)) fun v6 => divD v5 v6)) else (bd (bd (.ok n) fun v11 => (bd (bd (bd (.ok place) fun v7 => (bd (.ok (.int 1)) fun v8 => addD v7 v8)) fun v9 => (bd (.ok (.int 2)) fun v10 => divD v9 v10)) fun v12 => subD v11 v12)) fun v13 => (bd (.ok n) fun v14 => modD v13 v14))) fun d => .ok (.rt d))
theorem ok_seat_at (F : FnA K d_seat_at fd) (T : Tx K mg)  : FnOk P w K mg base CX0 1 (d_seat_at.adr K) fd ["n", "place"] (spF K Tb (ul2 F_seat_at)) := by
  refine fnO0 F sc_seat_at (fun vs H Q E h => spF_len len2 h) (fun cdv A outer s H vs Q E hr h => ?_)
  refine ⟨_, (pss_cons (ps_ret (pe_ifExp (pt_cmpR (op_eqA (K := K) rfl hr.units) (pe_op op_mod (pv 1) pe_int) pe_int (nomark _)) (pe_op op_fdivW (pv 1) pe_int) (pe_op op_mod (pe_op op_sub (pv 0) (pe_op op_fdivW (pe_op (op_addA (K := K) rfl) (pv 1) pe_int) pe_int)) (pv 0)))) pss_nil), ?_⟩
  exact fn_of2 (F := F_seat_at) (envU := fun _ => List.replicate 2 .no) h (fun n place => rfl) (fun p c n place => (ss_ret (se_if (sb_tst (se_op sr_eq (se_op sr_mod se_var se_int) se_int)) (se_op sr_div se_var se_int) (se_op sr_mod (se_op sr_sub se_var (se_op sr_div (se_op sr_add se_var se_int) se_int)) se_var))))
abbrev N_place_at : List Str := ["n", "seat"]
theorem sc_place_at : FnScope N_place_at ["n", "seat"] (defScope s_place_at) := ⟨rfl, rfl, rfl, by decide +kernel, rfl, by decide +kernel, by decide +kernel⟩
def F_place_at (n seat : D) : Tr D :=
  fin (bd (bd (bd (bd (bd (.ok (.int 2)) fun v1 => (bd (.ok seat) fun v2 => mulD v1 v2)) fun v3 => (bd (.ok n) fun v4 => ltD v3 v4)) asB) fun k => if k = true then (bd (.ok (.int 2)) fun v5 => (bd (.ok seat) fun v6 => mulD v5 v6)) else (bd (bd (.ok (.int 2)) fun v9 => (bd (bd (.ok n) fun v7 => (bd (.ok seat) fun v8 => subD v7 v8)) fun v10 => mulD v9 v10)) fun v11 => (bd (.ok (.int 1)) fun v12 => subD v11 v12))) fun d => .ok (.rt d))
theorem ok_place_at (F : FnA K d_place_at fd) (T : Tx K mg)  : FnOk P w K mg base CX0 1 (d_place_at.adr K) fd ["n", "seat"] (spF K Tb (ul2 F_place_at)) := by
  refine fnO0 F sc_place_at (fun vs H Q E h => spF_len len2 h) (fun cdv A outer s H vs Q E hr h => ?_)
  refine ⟨_, (pss_cons (ps_ret (pe_ifExp (pt_cmpR op_lt (pe_op op_mulA pe_int (pv 1)) (pv 0) (nomark _)) (pe_op op_mulA pe_int (pv 1)) (pe_op op_sub (pe_op op_mulA pe_int (pe_op op_sub (pv 0) (pv 1))) pe_int))) pss_nil), ?_⟩
  exact fn_of2 (F := F_place_at) (envU := fun _ => List.replicate 2 .no) h (fun n seat => rfl) (fun p c n seat => (ss_ret (se_if (sb_tst (se_op sr_lt (se_op sr_mul se_int se_var) se_var)) (se_op sr_mul se_int se_var) (se_op sr_sub (se_op sr_mul se_int (se_op sr_sub se_var se_var)) se_int))))
abbrev N_seat_behind : List Str := ["n", "kind", "count", "seat"]
theorem sc_seat_behind : FnScope N_seat_behind ["n", "kind", "count", "seat"] (defScope s_seat_behind) := ⟨rfl, rfl, rfl, by decide +kernel, rfl, by decide +kernel, by decide +kernel⟩
def F_seat_behind (n kind count seat : D) : Tr D :=
  fin (bdF (W' := Unit) (bd (bd (bd (bd (.ok count) fun v1 => (bd (.ok (.int 2)) fun v2 => modD v1 v2)) fun v3 => (bd (.ok (.int 0)) fun v4 => eqD v3 v4)) asB) fun k => if k = true then (bd (bd (bd (bd (.ok kind) fun v6 => (bd (.ok (.int 0)) fun v7 => eqD v6 v7)) asB) fun k => if k = true then (bd (bd (.ok seat) fun v10 => (bd (bd (.ok count) fun v8 => (bd (.ok (.int 2)) fun v9 => divD v8 v9)) fun v11 => addD v10 v11)) fun v12 => (bd (.ok n) fun v13 => modD v12 v13)) else (bd (bd (.ok seat) fun v16 => (bd (bd (.ok count) fun v14 => (bd (.ok (.int 2)) fun v15 => divD v14 v15)) fun v17 => subD v16 v17)) fun v18 => (bd (.ok n) fun v19 => modD v18 v19))) fun d => .ok (.rt d)) else (.ok (.nx ()))) fun (w5 : Unit) => (bd (bd (bd (bd (.ok kind) fun v20 => (bd (.ok (.int 0)) fun v21 => eqD v20 v21)) asB) fun k => if k = true then (bd (bd (bd (bd (bd (.ok count) fun v22 => (bd (.ok (.int 1)) fun v23 => addD v22 v23)) negD) fun v24 => (bd (.ok (.int 2)) fun v25 => divD v24 v25)) fun v26 => (bd (.ok seat) fun v27 => subD v26 v27)) fun v28 => (bd (.ok n) fun v29 => modD v28 v29)) else (bd (bd (bd (bd (.ok count) fun v30 => (bd (.ok (.int 1)) fun v31 => subD v30 v31)) fun v32 => (bd (.ok (.int 2)) fun v33 => divD v32 v33)) fun v34 => (bd (.ok seat) fun v35 => subD v34 v35)) fun v36 => (bd (.ok n) fun v37 => modD v36 v37))) fun d => .ok (.rt d)))
theorem ok_seat_behind (F : FnA K d_seat_behind fd) (T : Tx K mg)  : FnOk P w K mg base CX0 1 (d_seat_behind.adr K) fd ["n", "kind", "count", "seat"] (spF K Tb (ul4 F_seat_behind)) := by
  refine fnO0 F sc_seat_behind (fun vs H Q E h => spF_len len4 h) (fun cdv A outer s H vs Q E hr h => ?_)
  refine ⟨_, (pss_cons (ps_if (pt_cmpR (op_eqA (K := K) rfl hr.units) (pe_op op_mod (pv 2) pe_int) pe_int (nomark _))
      (pss_cons (ps_ret (pe_ifExp (pt_cmpR (op_eqA (K := K) rfl hr.units) (pv 1) pe_int (nomark _)) (pe_op op_mod (pe_op (op_addA (K := K) rfl) (pv 3) (pe_op op_fdivW (pv 2) pe_int)) (pv 0)) (pe_op op_mod (pe_op op_sub (pv 3) (pe_op op_fdivW (pv 2) pe_int)) (pv 0)))) pss_nil) pss_nil)
      (pss_cons (ps_ret (pe_ifExp (pt_cmpR (op_eqA (K := K) rfl hr.units) (pv 1) pe_int (nomark _)) (pe_op op_mod (pe_op op_sub (pe_op op_fdivW (pe_un un_neg (pe_op (op_addA (K := K) rfl) (pv 2) pe_int)) pe_int) (pv 3)) (pv 0)) (pe_op op_mod (pe_op op_sub (pe_op op_fdivW (pe_op op_sub (pv 2) pe_int) pe_int) (pv 3)) (pv 0)))) pss_nil)), ?_⟩
  exact fn_of4 (F := F_seat_behind) (envU := fun _ => List.replicate 4 .no) h (fun n kind count seat => rfl) (fun p c n kind count seat => (ss_if (fun (w5 : Unit) => [.fz n, .fz kind, .fz count, .fz seat]) (sb_tst (se_op sr_eq (se_op sr_mod se_var se_int) se_int)) (ss_ret (se_if (sb_tst (se_op sr_eq se_var se_int)) (se_op sr_mod (se_op sr_add se_var (se_op sr_div se_var se_int)) se_var) (se_op sr_mod (se_op sr_sub se_var (se_op sr_div se_var se_int)) se_var))) (ss_nx (.s (.s (.s (.s .nil))))) (fun (w5 : Unit) => (ss_ret (se_if (sb_tst (se_op sr_eq se_var se_int)) (se_op sr_mod (se_op sr_sub (se_op sr_div (se_un sr_neg (se_op sr_add se_var se_int)) se_int) se_var) se_var) (se_op sr_mod (se_op sr_sub (se_op sr_div (se_op sr_sub se_var se_int) se_int) se_var) se_var))))))
abbrev N_Span___init__ : List Str := ["self", "halves", "more", "odd"]
theorem sc_Span___init__ : FnScope N_Span___init__ ["self", "halves", "more", "odd"] (defScope s_Span___init__) := ⟨rfl, rfl, rfl, by decide +kernel, rfl, by decide +kernel, by decide +kernel⟩
def F_Span___init__ (fs : Fs) (halves more odd : D) : Tr Fs :=
  finI (bdF (W' := Unit) (bd (bd (bd (bd (bd (.ok halves) fun v5 => (bd (bd (.ok (.int 0)) fun v3 => (bd (bd (.ok (.int 8)) fun v1 => (bd (.ok []) fun r2 => .ok (v1 :: r2))) fun r4 => .ok (v3 :: r4))) fun r6 => .ok (v5 :: r6))) (ul3 F_is_within)) asB) fun k => .ok (!k)) fun k => if k = true then .bad else (.ok (.nx ()))) fun (w7 : Unit) => (bdF (W' := Unit) (bd (bd (bd (bd (bd (.ok more) fun v12 => (bd (bd (bd (.ok (.int 60)) negD) fun v10 => (bd (bd (.ok (.int 60)) fun v8 => (bd (.ok []) fun r9 => .ok (v8 :: r9))) fun r11 => .ok (v10 :: r11))) fun r13 => .ok (v12 :: r13))) (ul3 F_is_within)) asB) fun k => .ok (!k)) fun k => if k = true then .bad else (.ok (.nx ()))) fun (w14 : Unit) => (bdF (W' := Unit) (bd (bd (bd (bd (bd (.ok odd) fun v19 => (bd (bd (bd (.ok (.int 9)) negD) fun v17 => (bd (bd (.ok (.int 9)) fun v15 => (bd (.ok []) fun r16 => .ok (v15 :: r16))) fun r18 => .ok (v17 :: r18))) fun r20 => .ok (v19 :: r20))) (ul3 F_is_within)) asB) fun k => .ok (!k)) fun k => if k = true then .bad else (.ok (.nx ()))) fun (w21 : Unit) => (bd (bd (bd (.ok halves) fun v26 => (bd (bd (.ok more) fun v24 => (bd (bd (.ok odd) fun v22 => (bd (.ok []) fun r23 => .ok (v22 :: r23))) fun r25 => .ok (v24 :: r25))) fun r27 => .ok (v26 :: r27))) fun ds => if ds.length ≤ sizeLine then .ok (.tup ds) else .bad) fun own_parts28 => if fs.length < 900 then (.ok (.nx (putD "own_parts" own_parts28 fs))) else .bad))))
theorem ok_Span___init__ (F : FnA K d_Span___init__ fd) (T : Tx K mg) (G_is_within : PromO P w K mg base CX0 2 (gd "is_within" K) [] (spF K Tb (ul3 F_is_within))) : FnOk P w K mg base CX0 3 (d_Span___init__.adr K) fd ["self", "halves", "more", "odd"] (spI K Tb "Span" (fun fs => ul3 (F_Span___init__ fs))) := by
  refine fnO0 F sc_Span___init__ (fun vs H Q E h => spI_len lenI3 h) (fun cdv A outer s H vs Q E hr h => ?_)
  refine ⟨_, (pss_cons (ps_if (pt_not (pt_val (pe_g (PromO.call G_is_within (hr.mono (by decide)) (passA (E := E))) (by rfl) T.g_is_within T.k_is_within (pa_cons (pv 1) (pa_cons pe_int (pa_cons (pe_gi T.m_MOST_HALVES (by rfl)) pa_nil))))))
      (pss_cons ps_never pss_nil) pss_nil)
      (pss_cons (ps_if (pt_not (pt_val (pe_g (PromO.call G_is_within (hr.mono (by decide)) (passA (E := E))) (by rfl) T.g_is_within T.k_is_within (pa_cons (pv 2) (pa_cons (pe_un un_neg (pe_gi T.m_MOST_MORE (by rfl))) (pa_cons (pe_gi T.m_MOST_MORE (by rfl)) pa_nil))))))
      (pss_cons ps_never pss_nil) pss_nil)
      (pss_cons (ps_if (pt_not (pt_val (pe_g (PromO.call G_is_within (hr.mono (by decide)) (passA (E := E))) (by rfl) T.g_is_within T.k_is_within (pa_cons (pv 3) (pa_cons (pe_un un_neg (pe_gi T.m_MOST_ODD (by rfl))) (pa_cons (pe_gi T.m_MOST_ODD (by rfl)) pa_nil))))))
      (pss_cons ps_never pss_nil) pss_nil)
      (pss_cons (ps_f (pv 0) (pe_tup (pa_cons (pv 1) (pa_cons (pv 2) (pa_cons (pv 3) pa_nil)))) T.cl_Span T.n_Span_own_parts)
      pss_nil)))), ?_⟩
  exact ini_of3 (F := F_Span___init__) (envI := fun fs => .oi "Span" fs :: List.replicate 3 .no) h (fun fs halves more odd => rfl) (fun p c fs halves more odd => (ss_if (fun (w7 : Unit) => [.oi "Span" fs, .fz halves, .fz more, .fz odd]) (sb_not (sb_tb (se_cl srl_sp0 (sa_cons se_var (sa_cons se_int (sa_cons se_int sa_nil)))))) ss_never (ss_nx (.s (.s (.s (.s .nil))))) (fun (w7 : Unit) => (ss_if (fun (w14 : Unit) => [.oi "Span" fs, .fz halves, .fz more, .fz odd]) (sb_not (sb_tb (se_cl srl_sp0 (sa_cons se_var (sa_cons (se_un sr_neg se_int) (sa_cons se_int sa_nil)))))) ss_never (ss_nx (.s (.s (.s (.s .nil))))) (fun (w14 : Unit) => (ss_if (fun (w21 : Unit) => [.oi "Span" fs, .fz halves, .fz more, .fz odd]) (sb_not (sb_tb (se_cl srl_sp0 (sa_cons se_var (sa_cons (se_un sr_neg se_int) (sa_cons se_int sa_nil)))))) ss_never (ss_nx (.s (.s (.s (.s .nil))))) (fun (w21 : Unit) => (ss_setf (se_tup (sa_cons se_var (sa_cons se_var (sa_cons se_var sa_nil)))) (fun own_parts28 => (ss_nx (.s (le_no _ rfl))))))))))))
abbrev N_Span_halves : List Str := ["self"]
theorem sc_Span_halves : FnScope N_Span_halves ["self"] (defScope s_Span_halves) := ⟨rfl, rfl, rfl, by decide +kernel, rfl, by decide +kernel, by decide +kernel⟩
def F_Span_halves (self : D) : Tr D :=
  fin (bd (bd (bd (.ok self) (fldD "Span" "own_parts")) fun v1 => (bd (.ok (.int 0)) fun v2 => ixD v1 v2)) fun d => .ok (.rt d))
theorem ok_Span_halves (F : FnA K d_Span_halves fd) (T : Tx K mg)  : FnOk P w K mg base CX0 1 (d_Span_halves.adr K) fd ["self"] (spF K Tb (ul1 F_Span_halves)) := by
  refine fnO0 F sc_Span_halves (fun vs H Q E h => spF_len len1 h) (fun cdv A outer s H vs Q E hr h => ?_)
  refine ⟨_, (pss_cons (ps_ret (pe_ix (ix_seqK (K := K) rfl) (pe_f (pv 0) T.cl_Span T.n_Span_own_parts) pe_int (fun _ _ => rfl))) pss_nil), ?_⟩
  exact fn_of1 (F := F_Span_halves) (envU := fun _ => List.replicate 1 .no) h (fun self => rfl) (fun p c self => (ss_ret (se_op sr_ix (se_un sr_fld se_var) se_int)))
abbrev N_Span_more : List Str := ["self"]
theorem sc_Span_more : FnScope N_Span_more ["self"] (defScope s_Span_more) := ⟨rfl, rfl, rfl, by decide +kernel, rfl, by decide +kernel, by decide +kernel⟩
def F_Span_more (self : D) : Tr D :=
  fin (bd (bd (bd (.ok self) (fldD "Span" "own_parts")) fun v1 => (bd (.ok (.int 1)) fun v2 => ixD v1 v2)) fun d => .ok (.rt d))
theorem ok_Span_more (F : FnA K d_Span_more fd) (T : Tx K mg)  : FnOk P w K mg base CX0 1 (d_Span_more.adr K) fd ["self"] (spF K Tb (ul1 F_Span_more)) := by
  refine fnO0 F sc_Span_more (fun vs H Q E h => spF_len len1 h) (fun cdv A outer s H vs Q E hr h => ?_)
  refine ⟨_, (pss_cons (ps_ret (pe_ix (ix_seqK (K := K) rfl) (pe_f (pv 0) T.cl_Span T.n_Span_own_parts) pe_int (fun _ _ => rfl))) pss_nil), ?_⟩
  exact fn_of1 (F := F_Span_more) (envU := fun _ => List.replicate 1 .no) h (fun self => rfl) (fun p c self => (ss_ret (se_op sr_ix (se_un sr_fld se_var) se_int)))
abbrev N_Span_odd : List Str := ["self"]
theorem sc_Span_odd : FnScope N_Span_odd ["self"] (defScope s_Span_odd) := ⟨rfl, rfl, rfl, by decide +kernel, rfl, by decide +kernel, by decide +kernel⟩
def F_Span_odd (self : D) : Tr D :=
  fin (bd (bd (bd (.ok self) (fldD "Span" "own_parts")) fun v1 => (bd (.ok (.int 2)) fun v2 => ixD v1 v2)) fun d => .ok (.rt d))
theorem ok_Span_odd (F : FnA K d_Span_odd fd) (T : Tx K mg)  : FnOk P w K mg base CX0 1 (d_Span_odd.adr K) fd ["self"] (spF K Tb (ul1 F_Span_odd)) := by
  refine fnO0 F sc_Span_odd (fun vs H Q E h => spF_len len1 h) (fun cdv A outer s H vs Q E hr h => ?_)
  refine ⟨_, (pss_cons (ps_ret (pe_ix (ix_seqK (K := K) rfl) (pe_f (pv 0) T.cl_Span T.n_Span_own_parts) pe_int (fun _ _ => rfl))) pss_nil), ?_⟩
  exact fn_of1 (F := F_Span_odd) (envU := fun _ => List.replicate 1 .no) h (fun self => rfl) (fun p c self => (ss_ret (se_op sr_ix (se_un sr_fld se_var) se_int)))
abbrev N_Span_number_at : List Str := ["self", "n"]
theorem sc_Span_number_at : FnScope N_Span_number_at ["self", "n"] (defScope s_Span_number_at) := ⟨rfl, rfl, rfl, by decide +kernel, rfl, by decide +kernel, by decide +kernel⟩
def F_Span_number_at (self n : D) : Tr D :=
  fin (bd (bd (bd (bd (nox (bd (.ok self) fun o1 => (isO "Span" o1 fun _ => (ul1 F_Span_halves) [o1]))) fun v4 => (bd (bd (.ok n) fun v2 => (bd (.ok (.int 2)) fun v3 => divD v2 v3)) fun v5 => mulD v4 v5)) fun v11 => (bd (bd (nox (bd (.ok self) fun o6 => (isO "Span" o6 fun _ => (ul1 F_Span_odd) [o6]))) fun v9 => (bd (bd (.ok n) fun v7 => (bd (.ok (.int 2)) fun v8 => modD v7 v8)) fun v10 => mulD v9 v10)) fun v12 => addD v11 v12)) fun v14 => (bd (nox (bd (.ok self) fun o13 => (isO "Span" o13 fun _ => (ul1 F_Span_more) [o13]))) fun v15 => addD v14 v15)) fun d => .ok (.rt d))
theorem ok_Span_number_at (F : FnA K d_Span_number_at fd) (T : Tx K mg) (G_Span_halves : PromO P w K mg base CX0 1 (propG "Span" "halves" K) [] (spF K Tb (ul1 F_Span_halves))) (G_Span_odd : PromO P w K mg base CX0 1 (propG "Span" "odd" K) [] (spF K Tb (ul1 F_Span_odd))) (G_Span_more : PromO P w K mg base CX0 1 (propG "Span" "more" K) [] (spF K Tb (ul1 F_Span_more))) : FnOk P w K mg base CX0 3 (d_Span_number_at.adr K) fd ["self", "n"] (spF K Tb (ul2 F_Span_number_at)) := by
  refine fnO0 F sc_Span_number_at (fun vs H Q E h => spF_len len2 h) (fun cdv A outer s H vs Q E hr h => ?_)
  refine ⟨_, (pss_cons (ps_ret (pe_op (op_addA (K := K) rfl) (pe_op (op_addA (K := K) rfl) (pe_op op_mulA (pe_po (pv 0) T.cl_Span T.pr_Span_halves G_Span_halves (hr.mono (by decide)) (passA (E := EF))) (pe_op op_fdivW (pv 1) pe_int)) (pe_op op_mulA (pe_po (pv 0) T.cl_Span T.pr_Span_odd G_Span_odd (hr.mono (by decide)) (passA (E := EF))) (pe_op op_mod (pv 1) pe_int))) (pe_po (pv 0) T.cl_Span T.pr_Span_more G_Span_more (hr.mono (by decide)) (passA (E := EF))))) pss_nil), ?_⟩
  exact fn_of2 (F := F_Span_number_at) (envU := fun _ => List.replicate 2 .no) h (fun self n => rfl) (fun p c self n => (ss_ret (se_op sr_add (se_op sr_add (se_op sr_mul (se_nox (se_pr se_var)) (se_op sr_div se_var se_int)) (se_op sr_mul (se_nox (se_pr se_var)) (se_op sr_mod se_var se_int))) (se_nox (se_pr se_var)))))
abbrev N_Span___call__ : List Str := ["self", "n"]
theorem sc_Span___call__ : FnScope N_Span___call__ ["self", "n"] (defScope s_Span___call__) := ⟨rfl, rfl, rfl, by decide +kernel, rfl, by decide +kernel, by decide +kernel⟩
def F_Span___call__ (self n : D) : Tr D :=
  fin (bd (bd (bd (.ok n) fun v1 => (bd (.ok []) fun r2 => .ok (v1 :: r2))) (ul1 F_need_length)) fun _ => (bd (bd (.ok self) fun o5 => (isO "Span" o5 fun fs => if fs.lookup ("number_at" : Str) = none then bd (bd (.ok n) fun v3 => (bd (.ok []) fun r4 => .ok (v3 :: r4))) fun ds => (ul2 F_Span_number_at) (o5 :: ds) else .bad)) fun d => .ok (.rt d)))
theorem ok_Span___call__ (F : FnA K d_Span___call__ fd) (T : Tx K mg) (G_need_length : PromO P w K mg base (L2.CX P w) 4 (gd "need_length" K) [] (spF K Tb (ul1 F_need_length))) (G_Span_number_at : PromO P w K mg base CX0 3 (md "Span" "number_at" K) [] (spF K Tb (ul2 F_Span_number_at))) : FnOk P w K mg base (L2.CX P w) 5 (d_Span___call__.adr K) fd ["self", "n"] (spF K Tb (ul2 F_Span___call__)) := by
  refine F.ok sc_Span___call__ (fun vs H Q E h => spF_len len2 h) (fun cdv A outer s H vs Q E hr h => ?_)
  refine ⟨_, (pss_cons (ps_expr (pe_g (PromO.call G_need_length (hr.mono (by decide)) (pass_on rfl rfl rfl rfl)) (by rfl) T.g_need_length T.k_need_length (pa_cons (pv 1) pa_nil)))
      (pss_cons (ps_ret (pe_m (pv 0) T.cl_Span T.mt_Span_number_at (PromO.call G_Span_number_at (hr.mono (by decide)) (passA (E := E))) (pa_cons (pv 1) pa_nil))) pss_nil)), ?_⟩
  exact fn_of2 (F := F_Span___call__) (envU := fun _ => List.replicate 2 .no) h (fun self n => rfl) (fun p c self n => (ss_drop (se_cl srl_sp0 (sa_cons se_var sa_nil)) (ss_ret (se_mt srl_sp0 se_var (sa_cons se_var sa_nil)))))
end
end Lw
end
section
set_option Elab.async false
set_option linter.all false
set_option maxRecDepth 100000
set_option maxHeartbeats 4000000
set_option pp.maxSteps 600
namespace Lw
open PySem PySem.Spec PyProof.Rows L2 Gh Gp
section
variable {P : Program} {w : World} {K : PySem.W.Frag} {mg : Str → Option Value} {base : Heap} {f : Addr} {fd : FuncData} {Tb : List (Addr × Str)}
abbrev N_Sided___init___at_Stretch : List Str := ["self", "side"]
theorem sc_Sided___init___at_Stretch : FnScope N_Sided___init___at_Stretch ["self", "side"] (defScope s_Sided___init___at_Stretch) := ⟨rfl, rfl, rfl, by decide +kernel, rfl, by decide +kernel, by decide +kernel⟩
def F_Sided___init___at_Stretch (fs : Fs) (side : D) : Tr Fs :=
  finI (bd (.ok side) fun side1 => if fs.length < 900 then (.ok (.nx (putD "side" side1 fs))) else .bad)
theorem ok_Sided___init___at_Stretch (F : FnA K d_Sided___init___at_Stretch fd) (T : Tx K mg)  : FnOk P w K mg base CX0 1 (d_Sided___init___at_Stretch.adr K) fd ["self", "side"] (spI K Tb "Stretch" (fun fs => ul1 (F_Sided___init___at_Stretch fs))) := by
  refine fnO0 F sc_Sided___init___at_Stretch (fun vs H Q E h => spI_len lenI1 h) (fun cdv A outer s H vs Q E hr h => ?_)
  refine ⟨_, (pss_cons (ps_f (pv 0) (pv 1) T.cl_Stretch T.n_Stretch_side)
      pss_nil), ?_⟩
  exact ini_of1 (F := F_Sided___init___at_Stretch) (envI := fun fs => .oi "Stretch" fs :: List.replicate 1 .no) h (fun fs side => rfl) (fun p c fs side => (ss_setf se_var (fun side1 => (ss_nx (.s (le_no _ rfl))))))
abbrev N_Stretch___init__ : List Str := ["self", "first", "span", "side", "late", "__class__"]
theorem sc_Stretch___init__ : NdefX.NScope N_Stretch___init__ ["self", "first", "span", "side", "late"] ["__class__"] (defScope s_Stretch___init__) := NdefX.nscope_by (by decide +kernel)
def F_Stretch___init__ (fs : Fs) (first span side late : D) : Tr Fs :=
  finI (bdF (W' := Unit) (bd (bd (bd (bd (bd (.ok first) fun v5 => (bd (bd (.ok (.int 0)) fun v3 => (bd (bd (.ok (.int 1)) fun v1 => (bd (.ok []) fun r2 => .ok (v1 :: r2))) fun r4 => .ok (v3 :: r4))) fun r6 => .ok (v5 :: r6))) (ul3 F_is_within)) asB) fun k => .ok (!k)) fun k => if k = true then .bad else (.ok (.nx ()))) fun (w7 : Unit) => (bdF (W' := Unit) (bd (bd (bd (bd (.ok span) fun d => bd (opt (isi_Span d)) fun k => .ok (.bl k)) asB) fun k => .ok (!k)) fun k => if k = true then .bad else (.ok (.nx ()))) fun (w8 : Unit) => (bdF (W' := Unit) (bd (bd (bd (bd (bd (.ok side) fun d => bd (opt (isi_str d)) fun k => .ok (.bl k)) asB) fun k => .ok (!k)) fun k => if k = true then .ok true else (bd (bd (.ok side) fun v9 => (bd (.ok (.tup [.str "front", .str "back"])) fun v10 => notinD v9 v10)) asB)) fun k => if k = true then .bad else (.ok (.nx ()))) fun (w11 : Unit) => (bdF (W' := Unit) (bd (bd (bd (bd (.ok late) fun d => bd (opt (isi_bool d)) fun k => .ok (.bl k)) asB) fun k => .ok (!k)) fun k => if k = true then .bad else (.ok (.nx ()))) fun (w12 : Unit) => (bd (bd (.ok side) fun v13 => (bd (.ok []) fun r14 => .ok (v13 :: r14))) fun ds => bd ((fun fs => ul1 (F_Sided___init___at_Stretch fs)) fs ds) fun fs15 => (bd (.ok first) fun first16 => if fs15.length < 900 then (bd (.ok span) fun span17 => if (putD "first" first16 fs15).length < 900 then (bd (.ok late) fun late18 => if (putD "span" span17 (putD "first" first16 fs15)).length < 900 then (.ok (.nx (putD "late" late18 (putD "span" span17 (putD "first" first16 fs15))))) else .bad) else .bad) else .bad))))))
theorem ok_Stretch___init__ (F : FnS K ds_Stretch___init__ pfile fd) (T : Tx K mg) (hP : ((P.main.file : Str) == pfile) = true ∧ (P.main.scope.names.lookup ("super" : Str)).isSome = false) (G_is_within : PromO P w K mg base CX0 2 (gd "is_within" K) [] (spF K Tb (ul3 F_is_within))) (G_Sided___init___at_Stretch : PromO P w K mg base CX0 1 (md "Sided" "__init__" K) [] (spI K Tb "Stretch" (fun fs => ul1 (F_Sided___init___at_Stretch fs)))) : FnOk P w K mg base CX0 3 (ds_Stretch___init__.d.adr K) fd ["self", "first", "span", "side", "late"] (spI K Tb "Stretch" (fun fs => ul4 (F_Stretch___init__ fs))) := by
  refine SupF.ok (k := 2) (pre := (defBody s_Stretch___init__).take 4) (post := (defBody s_Stretch___init__).drop 5) (by rfl) F ⟨Option.isSome_iff_exists.mp T.cd_Stretch, T.f_super, T.stat⟩ sc_Stretch___init__ (fun vs H Q E h => spI_len lenI4 h) hP.1 hP.2 (by decide) rfl rfl rfl rfl (fun cc cda A outer s H vs Q E hr h => ?_) (pl := _) (he := fun _ => rfl)
  refine ⟨_, _, _, _, _, _, _, _, _, (pss_cons (ps_if (pt_not (pt_val (pe_g (PromO.call G_is_within (hr.mono (by decide)) (passA (E := E))) (by rfl) T.g_is_within T.k_is_within (pa_cons (pv 1) (pa_cons pe_int (pa_cons pe_int pa_nil))))))
      (pss_cons ps_never pss_nil) pss_nil)
      (pss_cons (ps_if (pt_not (pt_val (pe_callB (call_isiZ (K := K) rfl) (by rfl) T.f_isinstance (by decide +kernel) (pa_cons (pv 2) (pa_cons (pe_glob (v := .ref _) rfl T.g_Span rfl) pa_nil)))))
      (pss_cons ps_never pss_nil) pss_nil)
      (pss_cons (ps_if (PW.pt (pw_or (pt_not (pt_val (pe_callB (call_isiZ (K := K) rfl) (by rfl) T.f_isinstance (by decide +kernel) (pa_cons (pv 3) (pa_cons (pe_bltn (v := .ty "str") (by rfl) T.f_str (by decide +kernel) rfl) pa_nil))))) (pw_or1 (pt_cmpR (op_notinA (K := K) rfl) (pv 3) (pe_glob (v := .ref (gd "SIDES" K)) rfl T.g_SIDES rfl) (by rfl)))))
      (pss_cons ps_never pss_nil) pss_nil)
      (pss_cons (ps_if (pt_not (pt_val (pe_callB (call_isiZ (K := K) rfl) (by rfl) T.f_isinstance (by decide +kernel) (pa_cons (pv 4) (pa_cons (pe_bltn (v := .ty "bool") (by rfl) T.f_bool (by decide +kernel) rfl) pa_nil)))))
      (pss_cons ps_never pss_nil) pss_nil)
      pss_nil)))), (pa_cons (pv 3) pa_nil), (pss_cons (ps_f (pv 0) (pv 1) T.cl_Stretch T.n_Stretch_first)
      (pss_cons (ps_f (pv 0) (pv 2) T.cl_Stretch T.n_Stretch_span)
      (pss_cons (ps_f (pv 0) (pv 4) T.cl_Stretch T.n_Stretch_late)
      pss_nil))), G_Sided___init___at_Stretch, by decide, (passA (E := E)), ?_⟩
  refine sup_goal ?_
  exact ini_of4 (F := F_Stretch___init__) (envI := fun fs => .oi "Stretch" fs :: List.replicate 5 .no) h (fun fs first span side late => rfl) (fun p c fs first span side late => (ss_assoc (ss_if (fun (w7 : Unit) => [.oi "Stretch" fs, .fz first, .fz span, .fz side, .fz late, .no]) (sb_not (sb_tb (se_cl srl_sp0 (sa_cons se_var (sa_cons se_int (sa_cons se_int sa_nil)))))) ss_never (ss_nx (.s (.s (.s (.s (.s (.s .nil))))))) (fun (w7 : Unit) => (ss_assoc (ss_if (fun (w8 : Unit) => [.oi "Stretch" fs, .fz first, .fz span, .fz side, .fz late, .no]) (sb_not (sb_tb (se_isi (.own _) (isT_Span T) se_var))) ss_never (ss_nx (.s (.s (.s (.s (.s (.s .nil))))))) (fun (w8 : Unit) => (ss_assoc (ss_if (fun (w11 : Unit) => [.oi "Stretch" fs, .fz first, .fz span, .fz side, .fz late, .no]) (sb_or (sb_not (sb_tb (se_isi (.ty _) (isT_str T) se_var))) (sb_tst (se_op sr_notin se_var (se_c fun _ _ => .tupW (vs := [.str "front", .str "back"]) T.tu_SIDES (by decide) (.cons (.str _ (by decide)) (.cons (.str _ (by decide)) .nil)))))) ss_never (ss_nx (.s (.s (.s (.s (.s (.s .nil))))))) (fun (w11 : Unit) => (ss_assoc (ss_if (fun (w12 : Unit) => [.oi "Stretch" fs, .fz first, .fz span, .fz side, .fz late, .no]) (sb_not (sb_tb (se_isi (.ty _) (isT_bool T) se_var))) ss_never (ss_nx (.s (.s (.s (.s (.s (.s .nil))))))) (fun (w12 : Unit) => (ss_next (ss_sup T.sc_Stretch_Stretch (sa_cons se_var sa_nil) (fun fs15 => (ss_setf se_var (fun first16 => (ss_setf se_var (fun span17 => (ss_setf se_var (fun late18 => (ss_nx (.s (le_no _ rfl)))))))))))))))))))))))))
abbrev N_Stretch_changes : List Str := ["self", "n", "count"]
theorem sc_Stretch_changes : FnScope N_Stretch_changes ["self", "n"] (defScope s_Stretch_changes) := ⟨rfl, rfl, rfl, by decide +kernel, rfl, by decide +kernel, by decide +kernel⟩
def F_Stretch_changes (self n : D) : Tr D :=
  fin (bd (bd (bd (.ok n) fun v1 => (bd (.ok []) fun r2 => .ok (v1 :: r2))) (ul1 F_need_length)) fun _ => (bd (bd (.ok self) fun o6 => (isO "Stretch" o6 fun fs => match fs.lookup ("span" : Str) with | some y7 => isO "Span" y7 fun _ => bd (bd (.ok n) fun v4 => (bd (.ok []) fun r5 => .ok (v4 :: r5))) fun ds => (ul2 F_Span___call__) (y7 :: ds) | none => .bad)) fun count2 => (bd (bd (bd (bd (.ok count2) fun v8 => (bd (.ok (.int 0)) fun v9 => gtD v8 v9)) asB) fun k => if k = true then (.ok count2) else (.ok (.int 0))) fun d => .ok (.rt d))))
theorem ok_Stretch_changes (F : FnA K d_Stretch_changes fd) (T : Tx K mg) (G_need_length : PromO P w K mg base (L2.CX P w) 4 (gd "need_length" K) [] (spF K Tb (ul1 F_need_length))) (G_Span___call__ : PromO P w K mg base (L2.CX P w) 5 (md "Span" "__call__" K) [] (spF K Tb (ul2 F_Span___call__))) : FnOk P w K mg base (L2.CX P w) 6 (d_Stretch_changes.adr K) fd ["self", "n"] (spF K Tb (ul2 F_Stretch_changes)) := by
  refine F.ok sc_Stretch_changes (fun vs H Q E h => spF_len len2 h) (fun cdv A outer s H vs Q E hr h => ?_)
  refine ⟨_, (pss_cons (ps_expr (pe_g (PromO.call G_need_length (hr.mono (by decide)) (pass_on rfl rfl rfl rfl)) (by rfl) T.g_need_length T.k_need_length (pa_cons (pv 1) pa_nil)))
      (pss_cons (ps_set (i := 2) sc_Stretch_changes.nd rfl (.inl rfl) (pe_fcall (pv 0) T.cl_Stretch T.n_Stretch_span T.co_Span G_Span___call__ (hr.mono (by decide)) (pass_on rfl rfl rfl rfl) (pa_cons (pv 1) pa_nil)))
      (pss_cons (ps_ret (pe_ifExp (pt_cmpR op_gt (pv 2) pe_int (nomark _)) (pv 2) pe_int)) pss_nil))), ?_⟩
  exact fn_of2 (F := F_Stretch_changes) (envU := fun _ => List.replicate 3 .no) h (fun self n => rfl) (fun p c self n => (ss_drop (se_cl srl_sp0 (sa_cons se_var sa_nil)) (ss_asg (se_fcall se_var (sa_cons se_var sa_nil)) (fun count2 => (ss_ret (se_if (sb_tst (se_op sr_gt se_var se_int)) se_var se_int))))))
abbrev N_Stretch_begin : List Str := ["self", "count"]
theorem sc_Stretch_begin : FnScope N_Stretch_begin ["self", "count"] (defScope s_Stretch_begin) := ⟨rfl, rfl, rfl, by decide +kernel, rfl, by decide +kernel, by decide +kernel⟩
def F_Stretch_begin (self count : D) : Tr D :=
  fin (bd (bd (bd (bd (bd (.ok self) (fldD "Stretch" "late")) asB) fun k => if k = true then (bd (bd (bd (.ok count) fun v1 => (bd (.ok (.int 2)) fun v2 => modD v1 v2)) fun v3 => (bd (.ok (.int 0)) fun v4 => eqD v3 v4)) asB) else .ok false) fun k => if k = true then (bd (.ok (.int 1)) fun v5 => (bd (bd (.ok self) (fldD "Stretch" "first")) fun v6 => subD v5 v6)) else (bd (.ok self) (fldD "Stretch" "first"))) fun d => .ok (.rt d))
theorem ok_Stretch_begin (F : FnA K d_Stretch_begin fd) (T : Tx K mg)  : FnOk P w K mg base CX0 1 (d_Stretch_begin.adr K) fd ["self", "count"] (spF K Tb (ul2 F_Stretch_begin)) := by
  refine fnO0 F sc_Stretch_begin (fun vs H Q E h => spF_len len2 h) (fun cdv A outer s H vs Q E hr h => ?_)
  refine ⟨_, (pss_cons (ps_ret (pe_ifExp (PW.pt (pw_and (pt_val (pe_f (pv 0) T.cl_Stretch T.n_Stretch_late)) (pw_and1 (pt_cmpR (op_eqA (K := K) rfl hr.units) (pe_op op_mod (pv 1) pe_int) pe_int (nomark _))))) (pe_op op_sub pe_int (pe_f (pv 0) T.cl_Stretch T.n_Stretch_first)) (pe_f (pv 0) T.cl_Stretch T.n_Stretch_first))) pss_nil), ?_⟩
  exact fn_of2 (F := F_Stretch_begin) (envU := fun _ => List.replicate 2 .no) h (fun self count => rfl) (fun p c self count => (ss_ret (se_if (sb_and (sb_tb (se_un sr_fld se_var)) (sb_tst (se_op sr_eq (se_op sr_mod se_var se_int) se_int))) (se_op sr_sub se_int (se_un sr_fld se_var)) (se_un sr_fld se_var))))
abbrev N_Stretch_to : List Str := ["self", "n", "place", "count", "kind"]
theorem sc_Stretch_to : FnScope N_Stretch_to ["self", "n", "place"] (defScope s_Stretch_to) := ⟨rfl, rfl, rfl, by decide +kernel, rfl, by decide +kernel, by decide +kernel⟩
def F_Stretch_to (self n place : D) : Tr D :=
  fin (bd (bd (bd (.ok n) fun v3 => (bd (bd (.ok place) fun v1 => (bd (.ok []) fun r2 => .ok (v1 :: r2))) fun r4 => .ok (v3 :: r4))) (ul2 F_need_place)) fun _ => (bd (bd (.ok self) fun o8 => (isO "Stretch" o8 fun fs => if fs.lookup ("changes" : Str) = none then bd (bd (.ok n) fun v6 => (bd (.ok []) fun r7 => .ok (v6 :: r7))) fun ds => (ul2 F_Stretch_changes) (o8 :: ds) else .bad)) fun count4 => (bd (bd (.ok self) fun o12 => (isO "Stretch" o12 fun fs => if fs.lookup ("begin" : Str) = none then bd (bd (.ok count4) fun v10 => (bd (.ok []) fun r11 => .ok (v10 :: r11))) fun ds => (ul2 F_Stretch_begin) (o12 :: ds) else .bad)) fun kind8 => (bdF (W' := D) (bd (bd (bd (bd (bd (.ok self) (fldD "Stretch" "side")) fun v13 => (bd (.ok (.str "back")) fun v14 => eqD v13 v14)) asB) fun k => if k = true then (bd (bd (bd (.ok n) fun v15 => (bd (.ok (.int 2)) fun v16 => modD v15 v16)) fun v17 => (bd (.ok (.int 1)) fun v18 => eqD v17 v18)) asB) else .ok false) fun k => if k = true then (bd (bd (.ok (.int 1)) fun v21 => (bd (.ok kind8) fun v22 => subD v21 v22)) fun kind19 => (.ok (.nx kind19))) else (.ok (.nx kind8))) fun (w19 : D) => (bd (bd (bd (.ok n) fun v37 => (bd (bd (bd (bd (.ok n) fun v33 => (bd (bd (.ok w19) fun v31 => (bd (bd (.ok count4) fun v29 => (bd (bd (bd (bd (.ok n) fun v25 => (bd (bd (.ok place) fun v23 => (bd (.ok []) fun r24 => .ok (v23 :: r24))) fun r26 => .ok (v25 :: r26))) (ul2 F_seat_at)) fun v27 => (bd (.ok []) fun r28 => .ok (v27 :: r28))) fun r30 => .ok (v29 :: r30))) fun r32 => .ok (v31 :: r32))) fun r34 => .ok (v33 :: r34))) (ul4 F_seat_behind)) fun v35 => (bd (.ok []) fun r36 => .ok (v35 :: r36))) fun r38 => .ok (v37 :: r38))) (ul2 F_place_at)) fun d => .ok (.rt d))))))
theorem ok_Stretch_to (F : FnA K d_Stretch_to fd) (T : Tx K mg) (G_need_place : PromO P w K mg base (L2.CX P w) 5 (gd "need_place" K) [] (spF K Tb (ul2 F_need_place))) (G_Stretch_changes : PromO P w K mg base (L2.CX P w) 6 (md "Stretch" "changes" K) [] (spF K Tb (ul2 F_Stretch_changes))) (G_Stretch_begin : PromO P w K mg base CX0 1 (md "Stretch" "begin" K) [] (spF K Tb (ul2 F_Stretch_begin))) (G_place_at : PromO P w K mg base CX0 1 (gd "place_at" K) [] (spF K Tb (ul2 F_place_at))) (G_seat_behind : PromO P w K mg base CX0 1 (gd "seat_behind" K) [] (spF K Tb (ul4 F_seat_behind))) (G_seat_at : PromO P w K mg base CX0 1 (gd "seat_at" K) [] (spF K Tb (ul2 F_seat_at))) : FnOk P w K mg base (L2.CX P w) 7 (d_Stretch_to.adr K) fd ["self", "n", "place"] (spF K Tb (ul3 F_Stretch_to)) := by
  refine F.ok sc_Stretch_to (fun vs H Q E h => spF_len len3 h) (fun cdv A outer s H vs Q E hr h => ?_)
  refine ⟨_, (pss_cons (ps_expr (pe_g (PromO.call G_need_place (hr.mono (by decide)) (pass_on rfl rfl rfl rfl)) (by rfl) T.g_need_place T.k_need_place (pa_cons (pv 1) (pa_cons (pv 2) pa_nil))))
      (pss_cons (ps_set (i := 3) sc_Stretch_to.nd rfl (.inl rfl) (pe_m (pv 0) T.cl_Stretch T.mt_Stretch_changes (PromO.call G_Stretch_changes (hr.mono (by decide)) (pass_on rfl rfl rfl rfl)) (pa_cons (pv 1) pa_nil)))
      (pss_cons (ps_set (i := 4) sc_Stretch_to.nd rfl (.inl rfl) (pe_m (pv 0) T.cl_Stretch T.mt_Stretch_begin (PromO.call G_Stretch_begin (hr.mono (by decide)) (passA (E := E))) (pa_cons (pv 3) pa_nil)))
      (pss_cons (ps_if (PW.pt (pw_and (pt_cmpR (op_eqA (K := K) rfl hr.units) (pe_f (pv 0) T.cl_Stretch T.n_Stretch_side) pe_str (nomark _)) (pw_and1 (pt_cmpR (op_eqA (K := K) rfl hr.units) (pe_op op_mod (pv 1) pe_int) pe_int (nomark _)))))
      (pss_cons (ps_set (i := 4) sc_Stretch_to.nd rfl (.inl rfl) (pe_op op_sub pe_int (pv 4)))
      pss_nil) pss_nil)
      (pss_cons (ps_ret (pe_g (PromO.call G_place_at (hr.mono (by decide)) (passA (E := E))) (by rfl) T.g_place_at T.k_place_at (pa_cons (pv 1) (pa_cons (pe_g (PromO.call G_seat_behind (hr.mono (by decide)) (passA (E := E))) (by rfl) T.g_seat_behind T.k_seat_behind (pa_cons (pv 1) (pa_cons (pv 4) (pa_cons (pv 3) (pa_cons (pe_g (PromO.call G_seat_at (hr.mono (by decide)) (passA (E := E))) (by rfl) T.g_seat_at T.k_seat_at (pa_cons (pv 1) (pa_cons (pv 2) pa_nil))) pa_nil))))) pa_nil)))) pss_nil))))), ?_⟩
  exact fn_of3 (F := F_Stretch_to) (envU := fun _ => List.replicate 5 .no) h (fun self n place => rfl) (fun p c self n place => (ss_drop (se_cl srl_sp0 (sa_cons se_var (sa_cons se_var sa_nil))) (ss_asg (se_mt srl_sp0 se_var (sa_cons se_var sa_nil)) (fun count4 => (ss_asg (se_mt srl_sp0 se_var (sa_cons se_var sa_nil)) (fun kind8 => (ss_if (fun (w19 : D) => [.fz self, .fz n, .fz place, .fz count4, .fz w19]) (sb_and (sb_tst (se_op sr_eq (se_un sr_fld se_var) (se_str (by decide)))) (sb_tst (se_op sr_eq (se_op sr_mod se_var se_int) se_int))) (ss_asg (se_op sr_sub se_int se_var) (fun kind19 => (ss_nx (.s (.s (.s (.s (.s .nil)))))))) (ss_nx (.s (.s (.s (.s (.s .nil)))))) (fun (w19 : D) => (ss_ret (se_cl srl_sp0 (sa_cons se_var (sa_cons (se_cl srl_sp0 (sa_cons se_var (sa_cons se_var (sa_cons se_var (sa_cons (se_cl srl_sp0 (sa_cons se_var (sa_cons se_var sa_nil))) sa_nil))))) sa_nil))))))))))))
abbrev N__law_pick : List Str := ["_law_pen_here", "_law_some"]
theorem sc__law_pick : FnScope N__law_pick ["_law_pen_here", "_law_some"] (defScope s__law_pick) := ⟨rfl, rfl, rfl, by decide +kernel, rfl, by decide +kernel, by decide +kernel⟩
def F__law_pick (l_pen_here l_some : D) : Tr D :=
  fin (bd (bd (.ok l_some) fun v1 => (bd (bd (bd (.ok l_pen_here) fun v7 => (bd (bd (bd (bd (.ok l_some) fun v3 => (bd (.ok []) fun r4 => .ok (v3 :: r4))) (ul1 lenD)) fun v5 => (bd (.ok []) fun r6 => .ok (v5 :: r6))) fun r8 => .ok (v7 :: r8))) (ul2 F_draw)) fun v2 => ixD v1 v2)) fun d => .ok (.rt d))
theorem ok__law_pick (F : FnA K d__law_pick fd) (T : Tx K mg) (G__law_draw : PromO P w K mg base CX0 1 (gd "_law_draw" K) [] (spF K Tb (ul2 F_draw))) : FnOk P w K mg base CX0 2 (d__law_pick.adr K) fd ["_law_pen_here", "_law_some"] (spF K Tb (ul2 F__law_pick)) := by
  refine fnO0 F sc__law_pick (fun vs H Q E h => spF_len len2 h) (fun cdv A outer s H vs Q E hr h => ?_)
  refine ⟨_, (pss_cons (ps_ret (pe_ix (ix_seqK (K := K) rfl) (pv 1) (pe_g (PromO.call G__law_draw (hr.mono (by decide)) (passA (E := E))) (by rfl) T.g__law_draw T.k__law_draw (pa_cons (pv 0) (pa_cons (pe_callB (cr_len (K := K) rfl) (by rfl) T.f_len (by decide +kernel) (pa_cons (pv 1) pa_nil)) pa_nil))) (fun _ _ => rfl))) pss_nil), ?_⟩
  exact fn_of2 (F := F__law_pick) (envU := fun _ => List.replicate 2 .no) h (fun l_pen_here l_some => rfl) (fun p c l_pen_here l_some => (ss_ret (se_op sr_ix se_var (se_cl srl_sp0 (sa_cons se_var (sa_cons (se_cb srl_len (sa_cons se_var sa_nil)) sa_nil))))))
abbrev N__law_changed : List Str := ["_law_items", "_law_told_here", "_law_edge", "_law_found", "_law_line", "_law_k"]
theorem sc__law_changed : FnScope N__law_changed ["_law_items", "_law_told_here", "_law_edge"] (defScope s__law_changed) := ⟨rfl, rfl, rfl, by decide +kernel, rfl, by decide +kernel, by decide +kernel⟩
def F__law_changed (l_items l_told_here l_edge : D) : Tr D :=
  fin (bd (bd (bd (.ok l_items) listL) fun ds7 => bd (bd (bd (bd (bd (bd (.ok l_items) fun v1 => (bd (.ok []) fun r2 => .ok (v1 :: r2))) (ul1 lenD)) rgA1) fun r => if rgOk r.1 r.2 then .ok (.lst (rgD r.1 (r.2 - r.1).toNat)) else .bad) fun v5 => (bd (bd (.ok (.int 0)) fun v3 => (bd (.ok []) fun r4 => .ok (v3 :: r4))) fun r6 => .ok (v5 :: r6))) fun r8 => .ok (.lst ds7 :: r8)) (ul3 fun l_found8o l_line8 l_k8 => uoD (fun l_found8 => (bdF (W' := D) (bd (bd (bd (.ok l_edge) fun v10 => (bd (.ok (.str "back")) fun v11 => eqD v10 v11)) asB) fun k => if k = true then (bd (bd (.ok l_line8) revA) fun l_line12 => (.ok (.nx l_line12))) else (.ok (.nx l_line8))) fun (w12 : D) => (bdF (whF (fun (w16 : List D × D) => (bd (bd (.ok w16.2) fun v19 => (bd (bd (bd (.ok w12) fun v17 => (bd (.ok []) fun r18 => .ok (v17 :: r18))) (ul1 lenD)) fun v20 => ltD v19 v20)) asB)) (fun (w16 : List D × D) => (bdF (W' := List D × D) (bd (bd (bd (bd (bd (.ok w12) fun v21 => (bd (.ok w16.2) fun v22 => ixD v21 v22)) fun v23 => (bd (.ok l_told_here) fun v24 => notinD v23 v24)) asB) fun k => if k = true then (bd (bd (bd (bd (.ok w16.2) fun v25 => (bd (.ok (.int 1)) fun v26 => addD v25 v26)) fun v29 => (bd (bd (bd (.ok w12) fun v27 => (bd (.ok []) fun r28 => .ok (v27 :: r28))) (ul1 lenD)) fun v30 => ltD v29 v30)) asB) fun k => if k = true then (bd (bd (bd (.ok w12) fun v31 => (bd (bd (.ok w16.2) fun v33 => (bd (.ok (.int 1)) fun v34 => addD v33 v34)) fun v32 => ixD v31 v32)) fun v35 => (bd (.ok l_told_here) fun v36 => notinD v35 v36)) asB) else .ok false) else .ok false) fun k => if k = true then (bd (bd (.ok l_items) fun v38 => (bd (bd (.ok w12) fun v40 => (bd (bd (.ok w16.2) fun v42 => (bd (.ok (.int 1)) fun v43 => addD v42 v43)) fun v41 => ixD v40 v41)) fun v39 => ixD v38 v39)) fun v46 => bd (bd (.ok w12) fun v44 => (bd (.ok w16.2) fun v45 => ixD v44 v45)) fun v47 => bd (setD w16.1 v47 v46) fun l_found47 => (bd (bd (.ok l_items) fun v49 => (bd (bd (.ok w12) fun v51 => (bd (.ok w16.2) fun v52 => ixD v51 v52)) fun v50 => ixD v49 v50)) fun v57 => bd (bd (.ok w12) fun v53 => (bd (bd (.ok w16.2) fun v55 => (bd (.ok (.int 1)) fun v56 => addD v55 v56)) fun v54 => ixD v53 v54)) fun v58 => bd (setD l_found47 v58 v57) fun l_found58 => (bd (bd (.ok w16.2) fun v61 => (bd (.ok (.int 1)) fun v62 => addD v61 v62)) fun l_k59 => (.ok (.nx (l_found58, l_k59)))))) else (.ok (.nx (w16.1, w16.2)))) fun (w37 : List D × D) => (bd (bd (.ok w37.2) fun v64 => (bd (.ok (.int 1)) fun v65 => addD v64 v65)) fun l_k62 => (.ok (.nx (w37.1, l_k62)))))) 100000 (l_found8, l_k8)) fun (w16 : List D × D) => (bd (.ok (.lst w16.1)) fun d => .ok (.rt d))))) l_found8o))
theorem ok__law_changed (F : FnA K d__law_changed fd) (T : Tx K mg)  : FnOk P w K mg base CX0 1 (d__law_changed.adr K) fd ["_law_items", "_law_told_here", "_law_edge"] (spF K Tb (ul3 F__law_changed)) := by
  refine fnO0 F sc__law_changed (fun vs H Q E h => spF_len len3 h) (fun cdv A outer s H vs Q E hr h => ?_)
  refine ⟨_, (pss_cons (ps_par3 (i := 3) (j := 4) (l := 5) (by rfl) sc__law_changed.nd rfl rfl rfl (by decide) (by decide) (by decide) rfl rfl rfl (pa_cons (pe_callTy (cr_listOf (K := K) rfl) (by rfl) T.f_list (by decide +kernel) (pa_cons (pv 0) pa_nil)) (pa_cons (pe_listRg rfl (by rfl) T.f_list (prg_1 (by rfl) T.f_range (pe_callB (cr_len (K := K) rfl) (by rfl) T.f_len (by decide +kernel) (pa_cons (pv 0) pa_nil)))) (pa_cons pe_int pa_nil))) (by rfl))
      (pss_cons (ps_if (pt_cmpR (op_eqA (K := K) rfl hr.units) (pv 2) pe_str (nomark _))
      (pss_cons (ps_set (i := 4) sc__law_changed.nd rfl (.inl rfl) (pe_revAK (K := K) rfl (pv 4)))
      pss_nil) pss_nil)
      (pss_cons (ps_while PassesOwn.never (pt_cmpR op_lt (pv 5) (pe_callB (cr_len (K := K) rfl) (by rfl) T.f_len (by decide +kernel) (pa_cons (pv 4) pa_nil)) (nomark _))
      (pss_cons (ps_if (PW.pt (pw_and (pt_cmpR (op_notinA (K := K) rfl) (pe_ix (ix_seqK (K := K) rfl) (pv 4) (pv 5) (fun _ _ => rfl)) (pv 1) (by rfl)) (pw_and (pt_cmpR op_lt (pe_op (op_addA (K := K) rfl) (pv 5) pe_int) (pe_callB (cr_len (K := K) rfl) (by rfl) T.f_len (by decide +kernel) (pa_cons (pv 4) pa_nil)) (nomark _)) (pw_and1 (pt_cmpR (op_notinA (K := K) rfl) (pe_ix (ix_seqK (K := K) rfl) (pv 4) (pe_op (op_addA (K := K) rfl) (pv 5) pe_int) (fun _ _ => rfl)) (pv 1) (by rfl))))))
      (pss_cons (ps_asg (pe_ix (ix_seqK (K := K) rfl) (pv 0) (pe_ix (ix_seqK (K := K) rfl) (pv 4) (pe_op (op_addA (K := K) rfl) (pv 5) pe_int) (fun _ _ => rfl)) (fun _ _ => rfl)) (pg_sub (pv 3) (pe_ix (ix_seqK (K := K) rfl) (pv 4) (pv 5) (fun _ _ => rfl)) set_list))
      (pss_cons (ps_asg (pe_ix (ix_seqK (K := K) rfl) (pv 0) (pe_ix (ix_seqK (K := K) rfl) (pv 4) (pv 5) (fun _ _ => rfl)) (fun _ _ => rfl)) (pg_sub (pv 3) (pe_ix (ix_seqK (K := K) rfl) (pv 4) (pe_op (op_addA (K := K) rfl) (pv 5) pe_int) (fun _ _ => rfl)) set_list))
      (pss_cons (ps_set (i := 5) sc__law_changed.nd rfl (.inl rfl) (pe_op (op_addA (K := K) rfl) (pv 5) pe_int))
      pss_nil))) pss_nil)
      (pss_cons (ps_set (i := 5) sc__law_changed.nd rfl (.inl rfl) (pe_op (op_addA (K := K) rfl) (pv 5) pe_int))
      pss_nil)))
      (pss_cons (ps_ret (pv 3)) pss_nil)))), ?_⟩
  exact fn_of3 (F := F__law_changed) (envU := fun _ => List.replicate 6 .no) h (fun l_items l_told_here l_edge => rfl) (fun p c l_items l_told_here l_edge => (ss_par3q0 (sq_here (sn_list se_var) (sa_cons (se_lstRg (srg_1 (se_cb srl_len (sa_cons se_var sa_nil)))) (sa_cons se_int sa_nil))) (fun l_found8 l_line8 l_k8 => (ss_if (fun (w12 : D) => [.fz l_items, .fz l_told_here, .fz l_edge, .ow l_found8, .fz w12, .fz l_k8]) (sb_tst (se_op sr_eq se_var (se_str (by decide)))) (ss_asg (se_revA se_var) (fun l_line12 => (ss_nx (.s (.s (.s (.s (.s (.s .nil))))))))) (ss_nx (.s (.s (.s (.s (.s (.s .nil))))))) (fun (w12 : D) => (ss_wh (fun (w16 : List D × D) => [.fz l_items, .fz l_told_here, .fz l_edge, .ow w16.1, .fz w12, .fz w16.2]) 100000 (.s (.s (.s (.s (.s (.s .nil)))))) (fun (w16 : List D × D) => (sb_tst (se_op sr_lt se_var (se_cb srl_len (sa_cons se_var sa_nil))))) (fun (w16 : List D × D) => (ss_if (fun (w37 : List D × D) => [.fz l_items, .fz l_told_here, .fz l_edge, .ow w37.1, .fz w12, .fz w37.2]) (sb_and (sb_tst (se_op sr_notin (se_op sr_ix se_var se_var) se_var)) (sb_and (sb_tst (se_op sr_lt (se_op sr_add se_var se_int) (se_cb srl_len (sa_cons se_var sa_nil)))) (sb_tst (se_op sr_notin (se_op sr_ix se_var (se_op sr_add se_var se_int)) se_var)))) (ss_setix (se_op sr_ix se_var (se_op sr_ix se_var (se_op sr_add se_var se_int))) (se_op sr_ix se_var se_var) (fun l_found47 => (ss_setix (se_op sr_ix se_var (se_op sr_ix se_var se_var)) (se_op sr_ix se_var (se_op sr_add se_var se_int)) (fun l_found58 => (ss_asg (se_op sr_add se_var se_int) (fun l_k59 => (ss_nx (.s (.s (.s (.s (.s (.s .nil))))))))))))) (ss_nx (.s (.s (.s (.s (.s (.s .nil))))))) (fun (w37 : List D × D) => (ss_asg (se_op sr_add se_var se_int) (fun l_k62 => (ss_nx (.s (.s (.s (.s (.s (.s .nil)))))))))))) (fun (w16 : List D × D) => (ss_fz (i := 3) rfl (ss_ret se_var)))))))))
abbrev N__law_kinds : List Str := ["_law_part_here", "_law_many", "_law_begin", "_law_k"]
theorem sc__law_kinds : FnScope N__law_kinds ["_law_part_here", "_law_many"] (defScope s__law_kinds) := ⟨rfl, rfl, rfl, by decide +kernel, rfl, by decide +kernel, by decide +kernel⟩
def F__law_kinds (l_part_here l_many : D) : Tr D :=
  fin (bd (bd (bd (bd (bd (.ok l_part_here) fun v2 => (bd (.ok (.int 4)) fun v3 => ixD v2 v3)) asB) fun k => if k = true then (bd (bd (bd (bd (bd (.ok l_many) fun v4 => (bd (.ok []) fun r5 => .ok (v4 :: r5))) (ul1 intD)) fun v6 => (bd (.ok (.int 2)) fun v7 => modD v6 v7)) fun v8 => (bd (.ok (.int 0)) fun v9 => eqD v8 v9)) asB) else .ok false) fun k => if k = true then (bd (.ok (.int 1)) fun v12 => (bd (bd (.ok l_part_here) fun v10 => (bd (.ok (.int 1)) fun v11 => ixD v10 v11)) fun v13 => subD v12 v13)) else (bd (.ok l_part_here) fun v14 => (bd (.ok (.int 1)) fun v15 => ixD v14 v15))) fun l_begin0 => (bd (bd (bd (bd (.ok l_many) fun v16 => (bd (.ok []) fun r17 => .ok (v16 :: r17))) (ul1 rg1)) fun ds => bd (lcF (fun l_k17 => nox (bd (bd (bd (bd (bd (.ok l_begin0) fun v19 => (bd (.ok l_k17) fun v20 => addD v19 v20)) fun v21 => (bd (.ok []) fun r22 => .ok (v21 :: r22))) (ul1 intD)) fun v23 => (bd (.ok (.int 2)) fun v24 => modD v23 v24)) fun y => .ok (some y))) ds) fun r => .ok (.lst r)) fun d => .ok (.rt d)))
theorem ok__law_kinds (F : FnA K d__law_kinds fd) (T : Tx K mg)  : FnOk P w K mg base CX0 1 (d__law_kinds.adr K) fd ["_law_part_here", "_law_many"] (spF K Tb (ul2 F__law_kinds)) := by
  refine fnO0 F sc__law_kinds (fun vs H Q E h => spF_len len2 h) (fun cdv A outer s H vs Q E hr h => ?_)
  refine ⟨_, (pss_cons (ps_set (i := 2) sc__law_kinds.nd rfl (.inr rfl) (pe_ifExp (PW.pt (pw_and (pt_val (pe_ix (ix_seqK (K := K) rfl) (pv 0) pe_int (fun _ _ => rfl))) (pw_and1 (pt_cmpR (op_eqA (K := K) rfl hr.units) (pe_op op_mod (pe_callTy cr_int (by rfl) T.f_int (by decide +kernel) (pa_cons (pv 1) pa_nil)) pe_int) pe_int (nomark _))))) (pe_op op_sub pe_int (pe_ix (ix_seqK (K := K) rfl) (pv 0) pe_int (fun _ _ => rfl))) (pe_ix (ix_seqK (K := K) rfl) (pv 0) pe_int (fun _ _ => rfl))))
      (pss_cons (ps_ret (pe_lc (own := [("_law_k", 3)]) (g := gName 3) (by rfl) sc__law_kinds.nd (pi_range1 (by rfl) T.f_range (pa_cons (pv 1) pa_nil)) (blkOk_by (own := [("_law_k", 3)]) (N := N__law_kinds) (sc := defScope s__law_kinds) (by decide +kernel)) (fun _ _ _ _ _ => pg_name (i := 3) sc__law_kinds.nd rfl (Or.inl rfl)) (fun _ _ _ _ _ => pts_nil) (fun _ _ _ _ _ => (pe_op op_mod (pe_callTy cr_int (by rfl) T.f_int (by decide +kernel) (pa_cons (pe_op (op_addA (K := K) rfl) (pv 2) (pv 3)) pa_nil)) pe_int)))) pss_nil)), ?_⟩
  exact fn_of2 (F := F__law_kinds) (envU := fun _ => List.replicate 4 .no) h (fun l_part_here l_many => rfl) (fun p c l_part_here l_many => (ss_asg (se_if (sb_and (sb_tb (se_op sr_ix se_var se_int)) (sb_tst (se_op sr_eq (se_op sr_mod (se_cb srl_int (sa_cons se_var sa_nil)) se_int) se_int))) (se_op sr_sub se_int (se_op sr_ix se_var se_int)) (se_op sr_ix se_var se_int)) (fun l_begin0 => (ss_ret (se_lc (si_rg1 (sa_cons se_var sa_nil)) (fun l_k17 => (sc_map (se_op sr_mod (se_cb srl_int (sa_cons (se_op sr_add se_var se_var) sa_nil)) se_int))))))))
abbrev N__law_count : List Str := ["_law_lot", "_law_size", "_law_many"]
theorem sc__law_count : FnScope N__law_count ["_law_lot", "_law_size"] (defScope s__law_count) := ⟨rfl, rfl, rfl, by decide +kernel, rfl, by decide +kernel, by decide +kernel⟩
def F__law_count (l_lot l_size : D) : Tr D :=
  fin (bd (bd (bd (bd (bd (.ok l_lot) fun v2 => (bd (.ok (.int 0)) fun v3 => ixD v2 v3)) fun v6 => (bd (bd (.ok l_size) fun v4 => (bd (.ok (.int 2)) fun v5 => divD v4 v5)) fun v7 => mulD v6 v7)) fun v10 => (bd (bd (.ok l_lot) fun v8 => (bd (.ok (.int 1)) fun v9 => ixD v8 v9)) fun v11 => addD v10 v11)) fun v20 => (bd (bd (bd (.ok l_lot) fun v12 => (bd (.ok (.int 2)) fun v13 => ixD v12 v13)) fun v18 => (bd (bd (bd (bd (.ok l_size) fun v14 => (bd (.ok []) fun r15 => .ok (v14 :: r15))) (ul1 intD)) fun v16 => (bd (.ok (.int 2)) fun v17 => modD v16 v17)) fun v19 => mulD v18 v19)) fun v21 => addD v20 v21)) fun l_many0 => (bd (bd (bd (bd (.ok l_many0) fun v22 => (bd (.ok (.int 0)) fun v23 => gtD v22 v23)) asB) fun k => if k = true then (.ok l_many0) else (.ok (.int 0))) fun d => .ok (.rt d)))
theorem ok__law_count (F : FnA K d__law_count fd) (T : Tx K mg)  : FnOk P w K mg base CX0 1 (d__law_count.adr K) fd ["_law_lot", "_law_size"] (spF K Tb (ul2 F__law_count)) := by
  refine fnO0 F sc__law_count (fun vs H Q E h => spF_len len2 h) (fun cdv A outer s H vs Q E hr h => ?_)
  refine ⟨_, (pss_cons (ps_set (i := 2) sc__law_count.nd rfl (.inl rfl) (pe_op (op_addA (K := K) rfl) (pe_op (op_addA (K := K) rfl) (pe_op op_mulA (pe_ix (ix_seqK (K := K) rfl) (pv 0) pe_int (fun _ _ => rfl)) (pe_op op_fdivW (pv 1) pe_int)) (pe_ix (ix_seqK (K := K) rfl) (pv 0) pe_int (fun _ _ => rfl))) (pe_op op_mulA (pe_ix (ix_seqK (K := K) rfl) (pv 0) pe_int (fun _ _ => rfl)) (pe_op op_mod (pe_callTy cr_int (by rfl) T.f_int (by decide +kernel) (pa_cons (pv 1) pa_nil)) pe_int))))
      (pss_cons (ps_ret (pe_ifExp (pt_cmpR op_gt (pv 2) pe_int (nomark _)) (pv 2) pe_int)) pss_nil)), ?_⟩
  exact fn_of2 (F := F__law_count) (envU := fun _ => List.replicate 3 .no) h (fun l_lot l_size => rfl) (fun p c l_lot l_size => (ss_asg (se_op sr_add (se_op sr_add (se_op sr_mul (se_op sr_ix se_var se_int) (se_op sr_div se_var se_int)) (se_op sr_ix se_var se_int)) (se_op sr_mul (se_op sr_ix se_var se_int) (se_op sr_mod (se_cb srl_int (sa_cons se_var sa_nil)) se_int))) (fun l_many0 => (ss_ret (se_if (sb_tst (se_op sr_gt se_var se_int)) se_var se_int)))))
abbrev N__law_told : List Str := ["_law_part_here", "_law_size", "_law_at"]
theorem sc__law_told : FnScope N__law_told ["_law_part_here", "_law_size"] (defScope s__law_told) := ⟨rfl, rfl, rfl, by decide +kernel, rfl, by decide +kernel, by decide +kernel⟩
def F__law_told (l_part_here l_size : D) : Tr D :=
  fin (bd (bd (bd (bd (bd (.ok l_part_here) fun v1 => (bd (.ok (.int 1)) fun v2 => ixD v1 v2)) itD) fun ds => bd (lcF (fun l_at2 => nox (bd (bd (bd (.ok l_at2) fun v4 => (bd (.ok l_size) fun v5 => ltD v4 v5)) asB) fun k => if k = true then bd (.ok l_at2) fun y => .ok (some y) else .ok none)) ds) fun r => .ok (.lst r)) fun v15 => (bd (bd (bd (bd (.ok l_part_here) fun v6 => (bd (.ok (.int 2)) fun v7 => ixD v6 v7)) itD) fun ds => bd (lcF (fun l_at7 => nox (bd (bd (bd (.ok l_at7) fun v9 => (bd (.ok l_size) fun v10 => ltD v9 v10)) asB) fun k => if k = true then bd (bd (bd (.ok l_size) fun v11 => (bd (.ok (.int 1)) fun v12 => subD v11 v12)) fun v13 => (bd (.ok l_at7) fun v14 => subD v13 v14)) fun y => .ok (some y) else .ok none)) ds) fun r => .ok (.lst r)) fun v16 => addD v15 v16)) fun d => .ok (.rt d))
theorem ok__law_told (F : FnA K d__law_told fd) (T : Tx K mg)  : FnOk P w K mg base CX0 1 (d__law_told.adr K) fd ["_law_part_here", "_law_size"] (spF K Tb (ul2 F__law_told)) := by
  refine fnO0 F sc__law_told (fun vs H Q E h => spF_len len2 h) (fun cdv A outer s H vs Q E hr h => ?_)
  refine ⟨_, (pss_cons (ps_ret (pe_op (op_addA (K := K) rfl) (pe_lc (own := [("_law_at", 2)]) (g := gName 2) (tt := _) (by rfl) sc__law_told.nd (pi_seq (K := K) rfl (pe_ix (ix_seqK (K := K) rfl) (pv 0) pe_int (fun _ _ => rfl))) (blkOk_by (own := [("_law_at", 2)]) (N := N__law_told) (sc := defScope s__law_told) (by decide +kernel)) (fun _ _ _ _ _ => pg_name (i := 2) sc__law_told.nd rfl (Or.inl rfl)) (fun _ _ _ _ _ => (pts_one (pt_cmpR op_lt (pv 2) (pv 1) (nomark _)))) (fun _ _ _ _ _ => (pv 2))) (pe_lc (own := [("_law_at", 2)]) (g := gName 2) (tt := _) (by rfl) sc__law_told.nd (pi_seq (K := K) rfl (pe_ix (ix_seqK (K := K) rfl) (pv 0) pe_int (fun _ _ => rfl))) (blkOk_by (own := [("_law_at", 2)]) (N := N__law_told) (sc := defScope s__law_told) (by decide +kernel)) (fun _ _ _ _ _ => pg_name (i := 2) sc__law_told.nd rfl (Or.inl rfl)) (fun _ _ _ _ _ => (pts_one (pt_cmpR op_lt (pv 2) (pv 1) (nomark _)))) (fun _ _ _ _ _ => (pe_op op_sub (pe_op op_sub (pv 1) pe_int) (pv 2)))))) pss_nil), ?_⟩
  exact fn_of2 (F := F__law_told) (envU := fun _ => List.replicate 3 .no) h (fun l_part_here l_size => rfl) (fun p c l_part_here l_size => (ss_ret (se_op sr_add (se_lc (si_seq (se_op sr_ix se_var se_int)) (fun l_at2 => (sc_name (sb_tst (se_op sr_lt se_var se_var)) se_var))) (se_lc (si_seq (se_op sr_ix se_var se_int)) (fun l_at7 => (sc_name (sb_tst (se_op sr_lt se_var se_var)) (se_op sr_sub (se_op sr_sub se_var se_int) se_var)))))))
end
end Lw
end
section
set_option Elab.async false
set_option linter.all false
set_option maxRecDepth 100000
set_option maxHeartbeats 4000000
set_option pp.maxSteps 600
namespace Lw
open PySem PySem.Spec PyProof.Rows L2 Gh Gp
section
variable {P : Program} {w : World} {K : PySem.W.Frag} {mg : Str → Option Value} {base : Heap} {f : Addr} {fd : FuncData} {Tb : List (Addr × Str)}
abbrev N__law_plain : List Str := ["_law_kind", "_law_edge", "_law_size"]
theorem sc__law_plain : FnScope N__law_plain ["_law_kind", "_law_edge", "_law_size"] (defScope s__law_plain) := ⟨rfl, rfl, rfl, by decide +kernel, rfl, by decide +kernel, by decide +kernel⟩
def F__law_plain (l_kind l_edge l_size : D) : Tr D :=
  fin (bd (bd (bd (bd (bd (bd (bd (.ok l_edge) fun v1 => (bd (.ok (.str "front")) fun v2 => eqD v1 v2)) asB) fun k => if k = true then (.ok (.int 0)) else (bd (.ok l_size) fun v3 => (bd (.ok (.int 1)) fun v4 => subD v3 v4))) fun v5 => (bd (.ok []) fun r6 => .ok (v5 :: r6))) fun ds => if ds.length ≤ sizeLine then .ok (.lst ds) else .bad) fun v7 => (bd (.ok l_kind) fun v8 => mulD v7 v8)) fun d => .ok (.rt d))
theorem ok__law_plain (F : FnA K d__law_plain fd) (T : Tx K mg)  : FnOk P w K mg base CX0 1 (d__law_plain.adr K) fd ["_law_kind", "_law_edge", "_law_size"] (spF K Tb (ul3 F__law_plain)) := by
  refine fnO0 F sc__law_plain (fun vs H Q E h => spF_len len3 h) (fun cdv A outer s H vs Q E hr h => ?_)
  refine ⟨_, (pss_cons (ps_ret (pe_op op_mulA (pe_lst (pa_cons (pe_ifExp (pt_cmpR (op_eqA (K := K) rfl hr.units) (pv 1) pe_str (nomark _)) pe_int (pe_op op_sub (pv 2) pe_int)) pa_nil)) (pv 0))) pss_nil), ?_⟩
  exact fn_of3 (F := F__law_plain) (envU := fun _ => List.replicate 3 .no) h (fun l_kind l_edge l_size => rfl) (fun p c l_kind l_edge l_size => (ss_ret (se_op sr_mul (se_lst (sa_cons (se_if (sb_tst (se_op sr_eq se_var (se_str (by decide)))) se_int (se_op sr_sub se_var se_int)) sa_nil)) se_var)))
abbrev N__law_played : List Str := ["_law_items", "_law_part_here", "_law_turn", "_law_size", "_law_found", "_law_kind", "_law_one"]
theorem sc__law_played : FnScope N__law_played ["_law_items", "_law_part_here"] (defScope s__law_played) := ⟨rfl, rfl, rfl, by decide +kernel, rfl, by decide +kernel, by decide +kernel⟩
def F__law_played : Nat → D → D → Tr D
  | 0 => fun _ _ => .bad
  | r + 1 => fun l_items l_part_here => fin (bd (bd (bd (bd (.ok l_items) fun v1 => (bd (.ok []) fun r2 => .ok (v1 :: r2))) (ul1 lenD)) fun v7 => (bd (bd (bd (bd (.ok l_items) fun v3 => (bd (.ok []) fun r4 => .ok (v3 :: r4))) (ul1 listD)) fun v5 => (bd (.ok []) fun r6 => .ok (v5 :: r6))) fun r8 => .ok (v7 :: r8))) (ul2 fun l_size8 l_found8 => (bdF (W' := Unit) (bd (bd (bd (bd (.ok l_part_here) fun v10 => (bd (.ok (.int 0)) fun v11 => ixD v10 v11)) fun v12 => (bd (.ok (.str "change")) fun v13 => eqD v12 v13)) asB) fun k => if k = true then (bd (bd (bd (.ok l_found8) fun v25 => (bd (bd (bd (bd (.ok l_part_here) fun v17 => (bd (bd (.ok l_size8) fun v15 => (bd (.ok []) fun r16 => .ok (v15 :: r16))) fun r18 => .ok (v17 :: r18))) (ul2 F__law_told)) fun v23 => (bd (bd (bd (.ok l_part_here) fun v19 => (bd (.ok (.int 3)) fun v20 => ixD v19 v20)) fun v21 => (bd (.ok []) fun r22 => .ok (v21 :: r22))) fun r24 => .ok (v23 :: r24))) fun r26 => .ok (v25 :: r26))) (ul3 F__law_changed)) fun d => .ok (.rt d)) else (.ok (.nx ()))) fun (w14 : Unit) => (bdF (W' := D) (bd (bd (bd (bd (.ok l_part_here) fun v27 => (bd (.ok (.int 0)) fun v28 => ixD v27 v28)) fun v29 => (bd (.ok (.str "stretch")) fun v30 => eqD v29 v30)) asB) fun k => if k = true then (bdF (bd (bd (bd (bd (.ok l_part_here) fun v40 => (bd (bd (bd (bd (bd (.ok l_part_here) fun v32 => (bd (.ok (.int 2)) fun v33 => ixD v32 v33)) fun v36 => (bd (bd (.ok l_size8) fun v34 => (bd (.ok []) fun r35 => .ok (v34 :: r35))) fun r37 => .ok (v36 :: r37))) (ul2 F__law_count)) fun v38 => (bd (.ok []) fun r39 => .ok (v38 :: r39))) fun r41 => .ok (v40 :: r41))) (ul2 F__law_kinds)) itD) fun ds => forF (fun (d43 : D) (w42 : D) => (bd (bd (bd (.ok w42) fun v60 => (bd (bd (bd (bd (.ok d43) fun v52 => (bd (bd (bd (.ok l_part_here) fun v46 => (bd (.ok (.int 3)) fun v47 => ixD v46 v47)) fun v50 => (bd (bd (.ok l_size8) fun v48 => (bd (.ok []) fun r49 => .ok (v48 :: r49))) fun r51 => .ok (v50 :: r51))) fun r53 => .ok (v52 :: r53))) (ul3 F__law_plain)) fun v58 => (bd (bd (bd (.ok l_part_here) fun v54 => (bd (.ok (.int 3)) fun v55 => ixD v54 v55)) fun v56 => (bd (.ok []) fun r57 => .ok (v56 :: r57))) fun r59 => .ok (v58 :: r59))) fun r61 => .ok (v60 :: r61))) (ul3 F__law_changed)) fun l_found44 => (.ok (.nx l_found44)))) ds l_found8) fun (w42 : D) => (bd (.ok w42) fun d => .ok (.rt d))) else (.ok (.nx l_found8))) fun (w31 : D) => (bdF (bd (bd (bd (bd (.ok l_part_here) fun v62 => (bd (.ok (.int 1)) fun v63 => ixD v62 v63)) fun v64 => (bd (.ok []) fun r65 => .ok (v64 :: r65))) (ul1 rg1)) fun ds => forF (fun (d67 : D) (w66 : D) => (bdF (bd (bd (bd (.ok l_part_here) fun v69 => (bd (.ok (.int 2)) fun v70 => ixD v69 v70)) itD) fun ds => forF (fun (d72 : D) (w71 : D) => (bd (bd (bd (.ok w71) fun v77 => (bd (bd (.ok d72) fun v75 => (bd (.ok []) fun r76 => .ok (v75 :: r76))) fun r78 => .ok (v77 :: r78))) (ul2 (F__law_played r))) fun l_found73 => (.ok (.nx l_found73)))) ds w66) fun (w71 : D) => (.ok (.nx w71)))) ds w31) fun (w66 : D) => (bd (.ok w66) fun d => .ok (.rt d)))))))
theorem ok__law_played (F : FnA K d__law_played fd) (T : Tx K mg) (bn : Binds K fd ["_law_items", "_law_part_here"] []) (G__law_changed : PromO P w K mg base CX0 1 (gd "_law_changed" K) [] (spF K Tb (ul3 F__law_changed))) (G__law_told : PromO P w K mg base CX0 1 (gd "_law_told" K) [] (spF K Tb (ul2 F__law_told))) (G__law_kinds : PromO P w K mg base CX0 1 (gd "_law_kinds" K) [] (spF K Tb (ul2 F__law_kinds))) (G__law_count : PromO P w K mg base CX0 1 (gd "_law_count" K) [] (spF K Tb (ul2 F__law_count))) (G__law_plain : PromO P w K mg base CX0 1 (gd "_law_plain" K) [] (spF K Tb (ul3 F__law_plain))) : ∀ r : Nat, FnOk P w K mg base CX0 (2 + 1 * r) (d__law_played.adr K) fd ["_law_items", "_law_part_here"] (spF K Tb (ul2 (F__law_played r)))
  | 0 => fn_bad ul2_bad
  | r + 1 => by
    have G__law_played : PromO P w K mg base CX0 (2 + 1 * r) (gd "_law_played" K) [] (spF K Tb (ul2 (F__law_played r))) := ⟨fd, _, [], ok__law_played F T bn G__law_changed G__law_told G__law_kinds G__law_count G__law_plain r, bn, .nil⟩
    rw [show 2 + 1 * (r + 1) = (2 + 1 * r + 0) + 1 by omega]
    refine fnO0 F sc__law_played (fun vs H Q E h => spF_len len2 h) (fun cdv A outer s H vs Q E hr h => ?_)
    refine ⟨_, (pss_cons (ps_par (i := 3) (j := 4) (by rfl) sc__law_played.nd rfl rfl (by decide) rfl rfl (pa_cons (pe_callB (cr_len (K := K) rfl) (by rfl) T.f_len (by decide +kernel) (pa_cons (pv 0) pa_nil)) (pa_cons (pe_callTy (cr_listOf (K := K) rfl) (by rfl) T.f_list (by decide +kernel) (pa_cons (pv 0) pa_nil)) pa_nil)) (by rfl))
      (pss_cons (ps_if (pt_cmpR (op_eqA (K := K) rfl hr.units) (pe_ix (ix_seqK (K := K) rfl) (pv 1) pe_int (fun _ _ => rfl)) pe_str (nomark _))
      (pss_cons (ps_ret (pe_g (PromO.call G__law_changed (hr.mono (by omega)) (passA (E := E))) (by rfl) T.g__law_changed T.k__law_changed (pa_cons (pv 4) (pa_cons (pe_g (PromO.call G__law_told (hr.mono (by omega)) (passA (E := E))) (by rfl) T.g__law_told T.k__law_told (pa_cons (pv 1) (pa_cons (pv 3) pa_nil))) (pa_cons (pe_ix (ix_seqK (K := K) rfl) (pv 1) pe_int (fun _ _ => rfl)) pa_nil))))) pss_nil) pss_nil)
      (pss_cons (ps_if (pt_cmpR (op_eqA (K := K) rfl hr.units) (pe_ix (ix_seqK (K := K) rfl) (pv 1) pe_int (fun _ _ => rfl)) pe_str (nomark _))
      (pss_cons (ps_for PassesOwn.never rfl (pi_seq (K := K) rfl (pe_g (PromO.call G__law_kinds (hr.mono (by omega)) (passA (E := E))) (by rfl) T.g__law_kinds T.k__law_kinds (pa_cons (pv 1) (pa_cons (pe_g (PromO.call G__law_count (hr.mono (by omega)) (passA (E := E))) (by rfl) T.g__law_count T.k__law_count (pa_cons (pe_ix (ix_seqK (K := K) rfl) (pv 1) pe_int (fun _ _ => rfl)) (pa_cons (pv 3) pa_nil))) pa_nil)))) (pg_name (i := 5) sc__law_played.nd rfl (.inl rfl))
      (pss_cons (ps_set (i := 4) sc__law_played.nd rfl (.inl rfl) (pe_g (PromO.call G__law_changed (hr.mono (by omega)) (passA (E := E))) (by rfl) T.g__law_changed T.k__law_changed (pa_cons (pv 4) (pa_cons (pe_g (PromO.call G__law_plain (hr.mono (by omega)) (passA (E := E))) (by rfl) T.g__law_plain T.k__law_plain (pa_cons (pv 5) (pa_cons (pe_ix (ix_seqK (K := K) rfl) (pv 1) pe_int (fun _ _ => rfl)) (pa_cons (pv 3) pa_nil)))) (pa_cons (pe_ix (ix_seqK (K := K) rfl) (pv 1) pe_int (fun _ _ => rfl)) pa_nil)))))
      pss_nil))
      (pss_cons (ps_ret (pv 4)) pss_nil)) pss_nil)
      (pss_cons (ps_for PassesOwn.never rfl (pi_range1 (by rfl) T.f_range (pa_cons (pe_ix (ix_seqK (K := K) rfl) (pv 1) pe_int (fun _ _ => rfl)) pa_nil)) (pg_name (i := 2) sc__law_played.nd rfl (.inl rfl))
      (pss_cons (ps_for PassesOwn.never rfl (pi_seq (K := K) rfl (pe_ix (ix_seqK (K := K) rfl) (pv 1) pe_int (fun _ _ => rfl))) (pg_name (i := 6) sc__law_played.nd rfl (.inl rfl))
      (pss_cons (ps_set (i := 4) sc__law_played.nd rfl (.inl rfl) (pe_g (PromO.call G__law_played (hr.mono (by omega)) (passA (E := E))) (by rfl) T.g__law_played T.k__law_played (pa_cons (pv 4) (pa_cons (pv 6) pa_nil))))
      pss_nil))
      pss_nil))
      (pss_cons (ps_ret (pv 4)) pss_nil))))), ?_⟩
    exact fn_of2 (F := F__law_played (r + 1)) (envU := fun _ => List.replicate 7 .no) h (fun l_items l_part_here => rfl) (fun p c l_items l_part_here => (ss_par (sa_cons (se_cb srl_len (sa_cons se_var sa_nil)) (sa_cons (se_cb srl_list (sa_cons se_var sa_nil)) sa_nil)) (fun l_size8 l_found8 => (ss_if (fun (w14 : Unit) => [.fz l_items, .fz l_part_here, .no, .fz l_size8, .fz l_found8, .no, .no]) (sb_tst (se_op sr_eq (se_op sr_ix se_var se_int) (se_str (by decide)))) (ss_ret (se_cl srl_sp0 (sa_cons se_var (sa_cons (se_cl srl_sp0 (sa_cons se_var (sa_cons se_var sa_nil))) (sa_cons (se_op sr_ix se_var se_int) sa_nil))))) (ss_nx (.s (.s (.s (.s (.s (.s (.s .nil)))))))) (fun (w14 : Unit) => (ss_if (fun (w31 : D) => [.fz l_items, .fz l_part_here, .no, .fz l_size8, .fz w31, .no, .no]) (sb_tst (se_op sr_eq (se_op sr_ix se_var se_int) (se_str (by decide)))) (ss_for (fun (w42 : D) => [.fz l_items, .fz l_part_here, .no, .fz l_size8, .fz w42, .no, .no]) (si_seq (se_cl srl_sp0 (sa_cons se_var (sa_cons (se_cl srl_sp0 (sa_cons (se_op sr_ix se_var se_int) (sa_cons se_var sa_nil))) sa_nil)))) (.s (.s (.s (.s (.s (.s (.s .nil))))))) (fun (d43 : D) (w42 : D) => (sx_name (ss_asg (se_cl srl_sp0 (sa_cons se_var (sa_cons (se_cl srl_sp0 (sa_cons se_var (sa_cons (se_op sr_ix se_var se_int) (sa_cons se_var sa_nil)))) (sa_cons (se_op sr_ix se_var se_int) sa_nil)))) (fun l_found44 => (ss_nx (.s (.s (.s (.s (.s (.n (.s .nil)))))))))))) (fun (w42 : D) => (ss_ret se_var))) (ss_nx (.s (.s (.s (.s (.s (.s (.s .nil)))))))) (fun (w31 : D) => (ss_for (fun (w66 : D) => [.fz l_items, .fz l_part_here, .no, .fz l_size8, .fz w66, .no, .no]) (si_rg1 (sa_cons (se_op sr_ix se_var se_int) sa_nil)) (.s (.s (.s (.s (.s (.s (.s .nil))))))) (fun (d67 : D) (w66 : D) => (sx_name (ss_for (fun (w71 : D) => [.fz l_items, .fz l_part_here, .fz d67, .fz l_size8, .fz w71, .no, .no]) (si_seq (se_op sr_ix se_var se_int)) (.s (.s (.s (.s (.s (.s (.s .nil))))))) (fun (d72 : D) (w71 : D) => (sx_name (ss_asg (se_cl srl_sp0 (sa_cons se_var (sa_cons se_var sa_nil))) (fun l_found73 => (ss_nx (.s (.s (.s (.s (.s (.s (.n .nil)))))))))))) (fun (w71 : D) => (ss_nx (.s (.s (.n (.s (.s (.s (.s .nil)))))))))))) (fun (w66 : D) => (ss_ret se_var))))))))))
abbrev N__law_moved : List Str := ["_law_size", "_law_place", "_law_told_here", "_law_edge", "_law_other", "_law_along", "_law_far", "_law_there", "_law_low", "_law_high"]
theorem sc__law_moved : FnScope N__law_moved ["_law_size", "_law_place", "_law_told_here", "_law_edge"] (defScope s__law_moved) := ⟨rfl, rfl, rfl, by decide +kernel, rfl, by decide +kernel, by decide +kernel⟩
def F__law_moved (l_size l_place l_told_here l_edge : D) : Tr D :=
  fin (bdF (W' := Unit) (bd (bd (bd (.ok l_place) fun v1 => (bd (.ok l_told_here) fun v2 => inOD v1 v2)) asB) fun k => if k = true then (bd (.ok l_place) fun d => .ok (.rt d)) else (.ok (.nx ()))) fun (w3 : Unit) => (bd (bd (.ok (.int 0)) fun v8 => (bd (bd (bd (.ok l_size) fun v4 => (bd (.ok (.int 1)) fun v5 => subD v4 v5)) fun v6 => (bd (.ok []) fun r7 => .ok (v6 :: r7))) fun r9 => .ok (v8 :: r9))) (ul2 fun l_low9 l_high9 => (bdF (bd (bd (.ok l_told_here) itD) fun ds => forF (fun (d12 : D) (w11 : D × D) => (bdF (W' := D) (bd (bd (bd (.ok w11.1) fun v14 => (bd (.ok d12) fun v15 => (bd (bd (leD v14 v15) asB) fun k => if k = true then (bd (.ok l_place) fun v16 => ltD v15 v16) else .ok (.bl false)))) asB) fun k => if k = true then (bd (bd (.ok d12) fun v19 => (bd (.ok (.int 1)) fun v20 => addD v19 v20)) fun l_low17 => (.ok (.nx l_low17))) else (.ok (.nx w11.1))) fun (w17 : D) => (bdF (W' := D) (bd (bd (bd (.ok l_place) fun v21 => (bd (.ok d12) fun v22 => (bd (bd (ltD v21 v22) asB) fun k => if k = true then (bd (.ok w11.2) fun v23 => leD v22 v23) else .ok (.bl false)))) asB) fun k => if k = true then (bd (bd (.ok d12) fun v26 => (bd (.ok (.int 1)) fun v27 => subD v26 v27)) fun l_high24 => (.ok (.nx l_high24))) else (.ok (.nx w11.2))) fun (w24 : D) => (.ok (.nx (w17, w24)))))) ds (l_low9, l_high9)) fun (w11 : D × D) => (bd (bd (bd (bd (.ok l_edge) fun v29 => (bd (.ok (.str "front")) fun v30 => eqD v29 v30)) asB) fun k => if k = true then (.ok (.int 1)) else (bd (.ok (.int 1)) negD)) fun l_along27 => (bd (bd (bd (bd (.ok l_edge) fun v32 => (bd (.ok (.str "front")) fun v33 => eqD v32 v33)) asB) fun k => if k = true then (bd (.ok l_place) fun v34 => (bd (.ok w11.1) fun v35 => subD v34 v35)) else (bd (.ok w11.2) fun v36 => (bd (.ok l_place) fun v37 => subD v36 v37))) fun l_far30 => (bd (bd (bd (bd (bd (bd (bd (.ok l_far30) fun v39 => (bd (.ok []) fun r40 => .ok (v39 :: r40))) (ul1 intD)) fun v41 => (bd (.ok (.int 2)) fun v42 => modD v41 v42)) fun v43 => (bd (.ok (.int 0)) fun v44 => eqD v43 v44)) asB) fun k => if k = true then (bd (.ok l_place) fun v45 => (bd (.ok l_along27) fun v46 => addD v45 v46)) else (bd (.ok l_place) fun v47 => (bd (.ok l_along27) fun v48 => subD v47 v48))) fun l_there37 => (bd (bd (bd (bd (.ok w11.1) fun v49 => (bd (.ok l_there37) fun v50 => (bd (bd (leD v49 v50) asB) fun k => if k = true then (bd (.ok w11.2) fun v51 => leD v50 v51) else .ok (.bl false)))) asB) fun k => if k = true then (.ok l_there37) else (.ok l_place)) fun d => .ok (.rt d)))))))))
theorem ok__law_moved (F : FnA K d__law_moved fd) (T : Tx K mg)  : FnOk P w K mg base CX0 1 (d__law_moved.adr K) fd ["_law_size", "_law_place", "_law_told_here", "_law_edge"] (spF K Tb (ul4 F__law_moved)) := by
  refine fnO0 F sc__law_moved (fun vs H Q E h => spF_len len4 h) (fun cdv A outer s H vs Q E hr h => ?_)
  refine ⟨_, (pss_cons (ps_if (pt_cmpR (op_inA (K := K) rfl) (pv 1) (pv 2) (by rfl))
      (pss_cons (ps_ret (pv 1)) pss_nil) pss_nil)
      (pss_cons (ps_par (i := 8) (j := 9) (by rfl) sc__law_moved.nd rfl rfl (by decide) rfl rfl (pa_cons pe_int (pa_cons (pe_op op_sub (pv 0) pe_int) pa_nil)) (by rfl))
      (pss_cons (ps_for PassesOwn.never rfl (pi_seq (K := K) rfl (pv 2)) (pg_name (i := 4) sc__law_moved.nd rfl (.inl rfl))
      (pss_cons (ps_if (pt_chain op_le op_lt (pv 8) (pv 4) (pv 1))
      (pss_cons (ps_set (i := 8) sc__law_moved.nd rfl (.inl rfl) (pe_op (op_addA (K := K) rfl) (pv 4) pe_int))
      pss_nil) pss_nil)
      (pss_cons (ps_if (pt_chain op_lt op_le (pv 1) (pv 4) (pv 9))
      (pss_cons (ps_set (i := 9) sc__law_moved.nd rfl (.inl rfl) (pe_op op_sub (pv 4) pe_int))
      pss_nil) pss_nil)
      pss_nil)))
      (pss_cons (ps_set (i := 5) sc__law_moved.nd rfl (.inl rfl) (pe_ifExp (pt_cmpR (op_eqA (K := K) rfl hr.units) (pv 3) pe_str (nomark _)) pe_int (pe_un un_neg pe_int)))
      (pss_cons (ps_set (i := 6) sc__law_moved.nd rfl (.inl rfl) (pe_ifExp (pt_cmpR (op_eqA (K := K) rfl hr.units) (pv 3) pe_str (nomark _)) (pe_op op_sub (pv 1) (pv 8)) (pe_op op_sub (pv 9) (pv 1))))
      (pss_cons (ps_set (i := 7) sc__law_moved.nd rfl (.inl rfl) (pe_ifExp (pt_cmpR (op_eqA (K := K) rfl hr.units) (pe_op op_mod (pe_callTy cr_int (by rfl) T.f_int (by decide +kernel) (pa_cons (pv 6) pa_nil)) pe_int) pe_int (nomark _)) (pe_op (op_addA (K := K) rfl) (pv 1) (pv 5)) (pe_op op_sub (pv 1) (pv 5))))
      (pss_cons (ps_ret (pe_ifExp (pt_chain op_le op_le (pv 8) (pv 7) (pv 9)) (pv 7) (pv 1))) pss_nil))))))), ?_⟩
  exact fn_of4 (F := F__law_moved) (envU := fun _ => List.replicate 10 .no) h (fun l_size l_place l_told_here l_edge => rfl) (fun p c l_size l_place l_told_here l_edge => (ss_if (fun (w3 : Unit) => [.fz l_size, .fz l_place, .fz l_told_here, .fz l_edge, .no, .no, .no, .no, .no, .no]) (sb_tst (se_op sr_in se_var se_var)) (ss_ret se_var) (ss_nx (.s (.s (.s (.s (.s (.s (.s (.s (.s (.s .nil))))))))))) (fun (w3 : Unit) => (ss_par (sa_cons se_int (sa_cons (se_op sr_sub se_var se_int) sa_nil)) (fun l_low9 l_high9 => (ss_for (fun (w11 : D × D) => [.fz l_size, .fz l_place, .fz l_told_here, .fz l_edge, .no, .no, .no, .no, .fz w11.1, .fz w11.2]) (si_seq se_var) (.s (.s (.s (.s (.s (.s (.s (.s (.s (.s .nil)))))))))) (fun (d12 : D) (w11 : D × D) => (sx_name (ss_if (fun (w17 : D) => [.fz l_size, .fz l_place, .fz l_told_here, .fz l_edge, .fz d12, .no, .no, .no, .fz w17, .fz w11.2]) (sb_tst (se_chain sr_le sr_lt se_var se_var se_var)) (ss_asg (se_op sr_add se_var se_int) (fun l_low17 => (ss_nx (.s (.s (.s (.s (.s (.s (.s (.s (.s (.s .nil))))))))))))) (ss_nx (.s (.s (.s (.s (.s (.s (.s (.s (.s (.s .nil))))))))))) (fun (w17 : D) => (ss_if (fun (w24 : D) => [.fz l_size, .fz l_place, .fz l_told_here, .fz l_edge, .fz d12, .no, .no, .no, .fz w17, .fz w24]) (sb_tst (se_chain sr_lt sr_le se_var se_var se_var)) (ss_asg (se_op sr_sub se_var se_int) (fun l_high24 => (ss_nx (.s (.s (.s (.s (.s (.s (.s (.s (.s (.s .nil))))))))))))) (ss_nx (.s (.s (.s (.s (.s (.s (.s (.s (.s (.s .nil))))))))))) (fun (w24 : D) => (ss_nx (.s (.s (.s (.s (.n (.s (.s (.s (.s (.s .nil))))))))))))))))) (fun (w11 : D × D) => (ss_asg (se_if (sb_tst (se_op sr_eq se_var (se_str (by decide)))) se_int (se_un sr_neg se_int)) (fun l_along27 => (ss_asg (se_if (sb_tst (se_op sr_eq se_var (se_str (by decide)))) (se_op sr_sub se_var se_var) (se_op sr_sub se_var se_var)) (fun l_far30 => (ss_asg (se_if (sb_tst (se_op sr_eq (se_op sr_mod (se_cb srl_int (sa_cons se_var sa_nil)) se_int) se_int)) (se_op sr_add se_var se_var) (se_op sr_sub se_var se_var)) (fun l_there37 => (ss_ret (se_if (sb_tst (se_chain sr_le sr_le se_var se_var se_var)) se_var se_var)))))))))))))))
abbrev N__law_went : List Str := ["_law_size", "_law_place", "_law_part_here", "_law_turn", "_law_kind", "_law_one"]
theorem sc__law_went : FnScope N__law_went ["_law_size", "_law_place", "_law_part_here"] (defScope s__law_went) := ⟨rfl, rfl, rfl, by decide +kernel, rfl, by decide +kernel, by decide +kernel⟩
def F__law_went : Nat → D → D → D → Tr D
  | 0 => fun _ _ _ => .bad
  | r + 1 => fun l_size l_place l_part_here => fin (bdF (W' := Unit) (bd (bd (bd (bd (.ok l_part_here) fun v1 => (bd (.ok (.int 0)) fun v2 => ixD v1 v2)) fun v3 => (bd (.ok (.str "change")) fun v4 => eqD v3 v4)) asB) fun k => if k = true then (bd (bd (bd (.ok l_size) fun v18 => (bd (bd (.ok l_place) fun v16 => (bd (bd (bd (bd (.ok l_part_here) fun v8 => (bd (bd (.ok l_size) fun v6 => (bd (.ok []) fun r7 => .ok (v6 :: r7))) fun r9 => .ok (v8 :: r9))) (ul2 F__law_told)) fun v14 => (bd (bd (bd (.ok l_part_here) fun v10 => (bd (.ok (.int 3)) fun v11 => ixD v10 v11)) fun v12 => (bd (.ok []) fun r13 => .ok (v12 :: r13))) fun r15 => .ok (v14 :: r15))) fun r17 => .ok (v16 :: r17))) fun r19 => .ok (v18 :: r19))) (ul4 F__law_moved)) fun d => .ok (.rt d)) else (.ok (.nx ()))) fun (w5 : Unit) => (bdF (W' := D) (bd (bd (bd (bd (.ok l_part_here) fun v20 => (bd (.ok (.int 0)) fun v21 => ixD v20 v21)) fun v22 => (bd (.ok (.str "stretch")) fun v23 => eqD v22 v23)) asB) fun k => if k = true then (bdF (bd (bd (bd (bd (.ok l_part_here) fun v33 => (bd (bd (bd (bd (bd (.ok l_part_here) fun v25 => (bd (.ok (.int 2)) fun v26 => ixD v25 v26)) fun v29 => (bd (bd (.ok l_size) fun v27 => (bd (.ok []) fun r28 => .ok (v27 :: r28))) fun r30 => .ok (v29 :: r30))) (ul2 F__law_count)) fun v31 => (bd (.ok []) fun r32 => .ok (v31 :: r32))) fun r34 => .ok (v33 :: r34))) (ul2 F__law_kinds)) itD) fun ds => forF (fun (d36 : D) (w35 : D) => (bd (bd (bd (.ok l_size) fun v55 => (bd (bd (.ok w35) fun v53 => (bd (bd (bd (bd (.ok d36) fun v45 => (bd (bd (bd (.ok l_part_here) fun v39 => (bd (.ok (.int 3)) fun v40 => ixD v39 v40)) fun v43 => (bd (bd (.ok l_size) fun v41 => (bd (.ok []) fun r42 => .ok (v41 :: r42))) fun r44 => .ok (v43 :: r44))) fun r46 => .ok (v45 :: r46))) (ul3 F__law_plain)) fun v51 => (bd (bd (bd (.ok l_part_here) fun v47 => (bd (.ok (.int 3)) fun v48 => ixD v47 v48)) fun v49 => (bd (.ok []) fun r50 => .ok (v49 :: r50))) fun r52 => .ok (v51 :: r52))) fun r54 => .ok (v53 :: r54))) fun r56 => .ok (v55 :: r56))) (ul4 F__law_moved)) fun l_place37 => (.ok (.nx l_place37)))) ds l_place) fun (w35 : D) => (bd (.ok w35) fun d => .ok (.rt d))) else (.ok (.nx l_place))) fun (w24 : D) => (bdF (bd (bd (bd (bd (.ok l_part_here) fun v57 => (bd (.ok (.int 1)) fun v58 => ixD v57 v58)) fun v59 => (bd (.ok []) fun r60 => .ok (v59 :: r60))) (ul1 rg1)) fun ds => forF (fun (d62 : D) (w61 : D) => (bdF (bd (bd (bd (.ok l_part_here) fun v64 => (bd (.ok (.int 2)) fun v65 => ixD v64 v65)) itD) fun ds => forF (fun (d67 : D) (w66 : D) => (bd (bd (bd (.ok l_size) fun v74 => (bd (bd (.ok w66) fun v72 => (bd (bd (.ok d67) fun v70 => (bd (.ok []) fun r71 => .ok (v70 :: r71))) fun r73 => .ok (v72 :: r73))) fun r75 => .ok (v74 :: r75))) (ul3 (F__law_went r))) fun l_place68 => (.ok (.nx l_place68)))) ds w61) fun (w66 : D) => (.ok (.nx w66)))) ds w24) fun (w61 : D) => (bd (.ok w61) fun d => .ok (.rt d)))))
theorem ok__law_went (F : FnA K d__law_went fd) (T : Tx K mg) (bn : Binds K fd ["_law_size", "_law_place", "_law_part_here"] []) (G__law_moved : PromO P w K mg base CX0 1 (gd "_law_moved" K) [] (spF K Tb (ul4 F__law_moved))) (G__law_told : PromO P w K mg base CX0 1 (gd "_law_told" K) [] (spF K Tb (ul2 F__law_told))) (G__law_kinds : PromO P w K mg base CX0 1 (gd "_law_kinds" K) [] (spF K Tb (ul2 F__law_kinds))) (G__law_count : PromO P w K mg base CX0 1 (gd "_law_count" K) [] (spF K Tb (ul2 F__law_count))) (G__law_plain : PromO P w K mg base CX0 1 (gd "_law_plain" K) [] (spF K Tb (ul3 F__law_plain))) : ∀ r : Nat, FnOk P w K mg base CX0 (2 + 1 * r) (d__law_went.adr K) fd ["_law_size", "_law_place", "_law_part_here"] (spF K Tb (ul3 (F__law_went r)))
  | 0 => fn_bad ul3_bad
  | r + 1 => by
    have G__law_went : PromO P w K mg base CX0 (2 + 1 * r) (gd "_law_went" K) [] (spF K Tb (ul3 (F__law_went r))) := ⟨fd, _, [], ok__law_went F T bn G__law_moved G__law_told G__law_kinds G__law_count G__law_plain r, bn, .nil⟩
    rw [show 2 + 1 * (r + 1) = (2 + 1 * r + 0) + 1 by omega]
    refine fnO0 F sc__law_went (fun vs H Q E h => spF_len len3 h) (fun cdv A outer s H vs Q E hr h => ?_)
    refine ⟨_, (pss_cons (ps_if (pt_cmpR (op_eqA (K := K) rfl hr.units) (pe_ix (ix_seqK (K := K) rfl) (pv 2) pe_int (fun _ _ => rfl)) pe_str (nomark _))
      (pss_cons (ps_ret (pe_g (PromO.call G__law_moved (hr.mono (by omega)) (passA (E := E))) (by rfl) T.g__law_moved T.k__law_moved (pa_cons (pv 0) (pa_cons (pv 1) (pa_cons (pe_g (PromO.call G__law_told (hr.mono (by omega)) (passA (E := E))) (by rfl) T.g__law_told T.k__law_told (pa_cons (pv 2) (pa_cons (pv 0) pa_nil))) (pa_cons (pe_ix (ix_seqK (K := K) rfl) (pv 2) pe_int (fun _ _ => rfl)) pa_nil)))))) pss_nil) pss_nil)
      (pss_cons (ps_if (pt_cmpR (op_eqA (K := K) rfl hr.units) (pe_ix (ix_seqK (K := K) rfl) (pv 2) pe_int (fun _ _ => rfl)) pe_str (nomark _))
      (pss_cons (ps_for PassesOwn.never rfl (pi_seq (K := K) rfl (pe_g (PromO.call G__law_kinds (hr.mono (by omega)) (passA (E := E))) (by rfl) T.g__law_kinds T.k__law_kinds (pa_cons (pv 2) (pa_cons (pe_g (PromO.call G__law_count (hr.mono (by omega)) (passA (E := E))) (by rfl) T.g__law_count T.k__law_count (pa_cons (pe_ix (ix_seqK (K := K) rfl) (pv 2) pe_int (fun _ _ => rfl)) (pa_cons (pv 0) pa_nil))) pa_nil)))) (pg_name (i := 4) sc__law_went.nd rfl (.inl rfl))
      (pss_cons (ps_set (i := 1) sc__law_went.nd rfl (.inl rfl) (pe_g (PromO.call G__law_moved (hr.mono (by omega)) (passA (E := E))) (by rfl) T.g__law_moved T.k__law_moved (pa_cons (pv 0) (pa_cons (pv 1) (pa_cons (pe_g (PromO.call G__law_plain (hr.mono (by omega)) (passA (E := E))) (by rfl) T.g__law_plain T.k__law_plain (pa_cons (pv 4) (pa_cons (pe_ix (ix_seqK (K := K) rfl) (pv 2) pe_int (fun _ _ => rfl)) (pa_cons (pv 0) pa_nil)))) (pa_cons (pe_ix (ix_seqK (K := K) rfl) (pv 2) pe_int (fun _ _ => rfl)) pa_nil))))))
      pss_nil))
      (pss_cons (ps_ret (pv 1)) pss_nil)) pss_nil)
      (pss_cons (ps_for PassesOwn.never rfl (pi_range1 (by rfl) T.f_range (pa_cons (pe_ix (ix_seqK (K := K) rfl) (pv 2) pe_int (fun _ _ => rfl)) pa_nil)) (pg_name (i := 3) sc__law_went.nd rfl (.inl rfl))
      (pss_cons (ps_for PassesOwn.never rfl (pi_seq (K := K) rfl (pe_ix (ix_seqK (K := K) rfl) (pv 2) pe_int (fun _ _ => rfl))) (pg_name (i := 5) sc__law_went.nd rfl (.inl rfl))
      (pss_cons (ps_set (i := 1) sc__law_went.nd rfl (.inl rfl) (pe_g (PromO.call G__law_went (hr.mono (by omega)) (passA (E := E))) (by rfl) T.g__law_went T.k__law_went (pa_cons (pv 0) (pa_cons (pv 1) (pa_cons (pv 5) pa_nil)))))
      pss_nil))
      pss_nil))
      (pss_cons (ps_ret (pv 1)) pss_nil)))), ?_⟩
    exact fn_of3 (F := F__law_went (r + 1)) (envU := fun _ => List.replicate 6 .no) h (fun l_size l_place l_part_here => rfl) (fun p c l_size l_place l_part_here => (ss_if (fun (w5 : Unit) => [.fz l_size, .fz l_place, .fz l_part_here, .no, .no, .no]) (sb_tst (se_op sr_eq (se_op sr_ix se_var se_int) (se_str (by decide)))) (ss_ret (se_cl srl_sp0 (sa_cons se_var (sa_cons se_var (sa_cons (se_cl srl_sp0 (sa_cons se_var (sa_cons se_var sa_nil))) (sa_cons (se_op sr_ix se_var se_int) sa_nil)))))) (ss_nx (.s (.s (.s (.s (.s (.s .nil))))))) (fun (w5 : Unit) => (ss_if (fun (w24 : D) => [.fz l_size, .fz w24, .fz l_part_here, .no, .no, .no]) (sb_tst (se_op sr_eq (se_op sr_ix se_var se_int) (se_str (by decide)))) (ss_for (fun (w35 : D) => [.fz l_size, .fz w35, .fz l_part_here, .no, .no, .no]) (si_seq (se_cl srl_sp0 (sa_cons se_var (sa_cons (se_cl srl_sp0 (sa_cons (se_op sr_ix se_var se_int) (sa_cons se_var sa_nil))) sa_nil)))) (.s (.s (.s (.s (.s (.s .nil)))))) (fun (d36 : D) (w35 : D) => (sx_name (ss_asg (se_cl srl_sp0 (sa_cons se_var (sa_cons se_var (sa_cons (se_cl srl_sp0 (sa_cons se_var (sa_cons (se_op sr_ix se_var se_int) (sa_cons se_var sa_nil)))) (sa_cons (se_op sr_ix se_var se_int) sa_nil))))) (fun l_place37 => (ss_nx (.s (.s (.s (.s (.n (.s .nil))))))))))) (fun (w35 : D) => (ss_ret se_var))) (ss_nx (.s (.s (.s (.s (.s (.s .nil))))))) (fun (w24 : D) => (ss_for (fun (w61 : D) => [.fz l_size, .fz w61, .fz l_part_here, .no, .no, .no]) (si_rg1 (sa_cons (se_op sr_ix se_var se_int) sa_nil)) (.s (.s (.s (.s (.s (.s .nil)))))) (fun (d62 : D) (w61 : D) => (sx_name (ss_for (fun (w66 : D) => [.fz l_size, .fz w66, .fz l_part_here, .fz d62, .no, .no]) (si_seq (se_op sr_ix se_var se_int)) (.s (.s (.s (.s (.s (.s .nil)))))) (fun (d67 : D) (w66 : D) => (sx_name (ss_asg (se_cl srl_sp0 (sa_cons se_var (sa_cons se_var (sa_cons se_var sa_nil)))) (fun l_place68 => (ss_nx (.s (.s (.s (.s (.s (.n .nil))))))))))) (fun (w66 : D) => (ss_nx (.s (.s (.s (.n (.s (.s .nil))))))))))) (fun (w61 : D) => (ss_ret se_var))))))))
abbrev N__law_stretch : List Str := ["_law_part_here"]
theorem sc__law_stretch : FnScope N__law_stretch ["_law_part_here"] (defScope s__law_stretch) := ⟨rfl, rfl, rfl, by decide +kernel, rfl, by decide +kernel, by decide +kernel⟩
def F__law_stretch (l_part_here : D) : Tr D :=
  fin (bd (bd (bd (bd (.ok l_part_here) fun v1 => (bd (.ok (.int 1)) fun v2 => ixD v1 v2)) fun v31 => (bd (bd (bd (bd (bd (bd (.ok l_part_here) fun v3 => (bd (.ok (.int 2)) fun v4 => ixD v3 v4)) fun v5 => (bd (.ok (.int 0)) fun v6 => ixD v5 v6)) fun v19 => (bd (bd (bd (bd (.ok l_part_here) fun v7 => (bd (.ok (.int 2)) fun v8 => ixD v7 v8)) fun v9 => (bd (.ok (.int 1)) fun v10 => ixD v9 v10)) fun v17 => (bd (bd (bd (bd (.ok l_part_here) fun v11 => (bd (.ok (.int 2)) fun v12 => ixD v11 v12)) fun v13 => (bd (.ok (.int 2)) fun v14 => ixD v13 v14)) fun v15 => (bd (.ok []) fun r16 => .ok (v15 :: r16))) fun r18 => .ok (v17 :: r18))) fun r20 => .ok (v19 :: r20))) (fun ds => bd ((fun fs => ul3 (F_Span___init__ fs)) [] ds) fun fs => .ok (.obj "Span" fs))) fun v29 => (bd (bd (bd (.ok l_part_here) fun v21 => (bd (.ok (.int 3)) fun v22 => ixD v21 v22)) fun v27 => (bd (bd (bd (.ok l_part_here) fun v23 => (bd (.ok (.int 4)) fun v24 => ixD v23 v24)) fun v25 => (bd (.ok []) fun r26 => .ok (v25 :: r26))) fun r28 => .ok (v27 :: r28))) fun r30 => .ok (v29 :: r30))) fun r32 => .ok (v31 :: r32))) (fun ds => bd ((fun fs => ul4 (F_Stretch___init__ fs)) [] ds) fun fs => .ok (.obj "Stretch" fs))) fun d => .ok (.rt d))
theorem ok__law_stretch (F : FnA K d__law_stretch fd) (T : Tx K mg) (G_Stretch___init__ : PromO P w K mg base CX0 3 (md "Stretch" "__init__" K) [] (spI K Tb "Stretch" (fun fs => ul4 (F_Stretch___init__ fs)))) (G_Span___init__ : PromO P w K mg base CX0 3 (md "Span" "__init__" K) [] (spI K Tb "Span" (fun fs => ul3 (F_Span___init__ fs)))) : FnOk P w K mg base CX0 5 (d__law_stretch.adr K) fd ["_law_part_here"] (spF K Tb (ul1 F__law_stretch)) := by
  refine fnO0 F sc__law_stretch (fun vs H Q E h => spF_len len1 h) (fun cdv A outer s H vs Q E hr h => ?_)
  refine ⟨_, (pss_cons (ps_ret (pe_g (PromO.make T.mk_Stretch G_Stretch___init__ (hr.mono (by decide)) (passA (E := E))) (by rfl) T.g_Stretch T.k_Stretch (pa_cons (pe_ix (ix_seqK (K := K) rfl) (pv 0) pe_int (fun _ _ => rfl)) (pa_cons (pe_g (PromO.make T.mk_Span G_Span___init__ (hr.mono (by decide)) (passA (E := E))) (by rfl) T.g_Span T.k_Span (pa_cons (pe_ix (ix_seqK (K := K) rfl) (pe_ix (ix_seqK (K := K) rfl) (pv 0) pe_int (fun _ _ => rfl)) pe_int (fun _ _ => rfl)) (pa_cons (pe_ix (ix_seqK (K := K) rfl) (pe_ix (ix_seqK (K := K) rfl) (pv 0) pe_int (fun _ _ => rfl)) pe_int (fun _ _ => rfl)) (pa_cons (pe_ix (ix_seqK (K := K) rfl) (pe_ix (ix_seqK (K := K) rfl) (pv 0) pe_int (fun _ _ => rfl)) pe_int (fun _ _ => rfl)) pa_nil)))) (pa_cons (pe_ix (ix_seqK (K := K) rfl) (pv 0) pe_int (fun _ _ => rfl)) (pa_cons (pe_ix (ix_seqK (K := K) rfl) (pv 0) pe_int (fun _ _ => rfl)) pa_nil)))))) pss_nil), ?_⟩
  exact fn_of1 (F := F__law_stretch) (envU := fun _ => List.replicate 1 .no) h (fun l_part_here => rfl) (fun p c l_part_here => (ss_ret (se_cl srl_mk0 (sa_cons (se_op sr_ix se_var se_int) (sa_cons (se_cl srl_mk0 (sa_cons (se_op sr_ix (se_op sr_ix se_var se_int) se_int) (sa_cons (se_op sr_ix (se_op sr_ix se_var se_int) se_int) (sa_cons (se_op sr_ix (se_op sr_ix se_var se_int) se_int) sa_nil)))) (sa_cons (se_op sr_ix se_var se_int) (sa_cons (se_op sr_ix se_var se_int) sa_nil)))))))
abbrev N__law_part : List Str := ["_law_pen_here", "_law_lot"]
theorem sc__law_part : FnScope N__law_part ["_law_pen_here", "_law_lot"] (defScope s__law_part) := ⟨rfl, rfl, rfl, by decide +kernel, rfl, by decide +kernel, by decide +kernel⟩
def F__law_part (l_pen_here l_lot : D) : Tr D :=
  fin (bd (bd (bd (.ok (.str "stretch")) fun v27 => (bd (bd (bd (bd (.ok l_pen_here) fun v3 => (bd (bd (.ok (.int 2)) fun v1 => (bd (.ok []) fun r2 => .ok (v1 :: r2))) fun r4 => .ok (v3 :: r4))) (ul2 F_draw)) fun v25 => (bd (bd (.ok l_lot) fun v23 => (bd (bd (bd (bd (.ok l_pen_here) fun v11 => (bd (bd (bd (bd (.ok (.str "front")) fun v7 => (bd (bd (.ok (.str "back")) fun v5 => (bd (.ok []) fun r6 => .ok (v5 :: r6))) fun r8 => .ok (v7 :: r8))) fun ds => if ds.length ≤ sizeLine then .ok (.lst ds) else .bad) fun v9 => (bd (.ok []) fun r10 => .ok (v9 :: r10))) fun r12 => .ok (v11 :: r12))) (ul2 F__law_pick)) fun v21 => (bd (bd (bd (bd (bd (.ok l_pen_here) fun v15 => (bd (bd (.ok (.int 2)) fun v13 => (bd (.ok []) fun r14 => .ok (v13 :: r14))) fun r16 => .ok (v15 :: r16))) (ul2 F_draw)) fun v17 => (bd (.ok (.int 0)) fun v18 => eqD v17 v18)) fun v19 => (bd (.ok []) fun r20 => .ok (v19 :: r20))) fun r22 => .ok (v21 :: r22))) fun r24 => .ok (v23 :: r24))) fun r26 => .ok (v25 :: r26))) fun r28 => .ok (v27 :: r28))) fun ds => if ds.length ≤ sizeLine then .ok (.tup ds) else .bad) fun d => .ok (.rt d))
theorem ok__law_part (F : FnA K d__law_part fd) (T : Tx K mg) (G__law_draw : PromO P w K mg base CX0 1 (gd "_law_draw" K) [] (spF K Tb (ul2 F_draw))) (G__law_pick : PromO P w K mg base CX0 2 (gd "_law_pick" K) [] (spF K Tb (ul2 F__law_pick))) : FnOk P w K mg base CX0 3 (d__law_part.adr K) fd ["_law_pen_here", "_law_lot"] (spF K Tb (ul2 F__law_part)) := by
  refine fnO0 F sc__law_part (fun vs H Q E h => spF_len len2 h) (fun cdv A outer s H vs Q E hr h => ?_)
  refine ⟨_, (pss_cons (ps_ret (pe_tup (pa_cons pe_str (pa_cons (pe_g (PromO.call G__law_draw (hr.mono (by decide)) (passA (E := E))) (by rfl) T.g__law_draw T.k__law_draw (pa_cons (pv 0) (pa_cons pe_int pa_nil))) (pa_cons (pv 1) (pa_cons (pe_g (PromO.call G__law_pick (hr.mono (by decide)) (passA (E := E))) (by rfl) T.g__law_pick T.k__law_pick (pa_cons (pv 0) (pa_cons (pe_lst (pa_cons pe_str (pa_cons pe_str pa_nil))) pa_nil))) (pa_cons (pe_cmpR (op_eqA (K := K) rfl hr.units) (pe_g (PromO.call G__law_draw (hr.mono (by decide)) (passA (E := E))) (by rfl) T.g__law_draw T.k__law_draw (pa_cons (pv 0) (pa_cons pe_int pa_nil))) pe_int (nomark _)) pa_nil))))))) pss_nil), ?_⟩
  exact fn_of2 (F := F__law_part) (envU := fun _ => List.replicate 2 .no) h (fun l_pen_here l_lot => rfl) (fun p c l_pen_here l_lot => (ss_ret (se_tup (sa_cons (se_str (by decide)) (sa_cons (se_cl srl_sp0 (sa_cons se_var (sa_cons se_int sa_nil))) (sa_cons se_var (sa_cons (se_cl srl_sp0 (sa_cons se_var (sa_cons (se_lst (sa_cons (se_str (by decide)) (sa_cons (se_str (by decide)) sa_nil))) sa_nil))) (sa_cons (se_op sr_eq (se_cl srl_sp0 (sa_cons se_var (sa_cons se_int sa_nil))) se_int) sa_nil))))))))
abbrev N__law_short_right : List Str := ["_law_pen_here", "_law_size", "_law_lot", "_law_part_here", "_law_stretch_here", "_law_items", "_law_place"]
theorem sc__law_short_right : FnScope N__law_short_right ["_law_pen_here", "_law_size"] (defScope s__law_short_right) := ⟨rfl, rfl, rfl, by decide +kernel, rfl, by decide +kernel, by decide +kernel⟩
def F__law_short_right (l_pen_here l_size : D) : Tr D :=
  fin (bd (bd (bd (bd (bd (.ok l_pen_here) fun v12 => (bd (bd (bd (bd (.ok (.int 0)) fun v8 => (bd (bd (.ok (.int 1)) fun v6 => (bd (bd (.ok (.int 2)) fun v4 => (bd (bd (.ok (.int 8)) fun v2 => (bd (.ok []) fun r3 => .ok (v2 :: r3))) fun r5 => .ok (v4 :: r5))) fun r7 => .ok (v6 :: r7))) fun r9 => .ok (v8 :: r9))) fun ds => if ds.length ≤ sizeLine then .ok (.lst ds) else .bad) fun v10 => (bd (.ok []) fun r11 => .ok (v10 :: r11))) fun r13 => .ok (v12 :: r13))) (ul2 F__law_pick)) fun v48 => (bd (bd (bd (bd (.ok l_pen_here) fun v30 => (bd (bd (bd (bd (.ok (.int 0)) fun v26 => (bd (bd (.ok (.int 1)) fun v24 => (bd (bd (bd (.ok (.int 1)) negD) fun v22 => (bd (bd (bd (.ok (.int 4)) negD) fun v20 => (bd (bd (.ok (.int 7)) fun v18 => (bd (bd (.ok (.int 12)) fun v16 => (bd (bd (.ok (.int 31)) fun v14 => (bd (.ok []) fun r15 => .ok (v14 :: r15))) fun r17 => .ok (v16 :: r17))) fun r19 => .ok (v18 :: r19))) fun r21 => .ok (v20 :: r21))) fun r23 => .ok (v22 :: r23))) fun r25 => .ok (v24 :: r25))) fun r27 => .ok (v26 :: r27))) fun ds => if ds.length ≤ sizeLine then .ok (.lst ds) else .bad) fun v28 => (bd (.ok []) fun r29 => .ok (v28 :: r29))) fun r31 => .ok (v30 :: r31))) (ul2 F__law_pick)) fun v46 => (bd (bd (bd (bd (.ok l_pen_here) fun v42 => (bd (bd (bd (bd (.ok (.int 0)) fun v38 => (bd (bd (.ok (.int 1)) fun v36 => (bd (bd (bd (.ok (.int 1)) negD) fun v34 => (bd (bd (.ok (.int 3)) fun v32 => (bd (.ok []) fun r33 => .ok (v32 :: r33))) fun r35 => .ok (v34 :: r35))) fun r37 => .ok (v36 :: r37))) fun r39 => .ok (v38 :: r39))) fun ds => if ds.length ≤ sizeLine then .ok (.lst ds) else .bad) fun v40 => (bd (.ok []) fun r41 => .ok (v40 :: r41))) fun r43 => .ok (v42 :: r43))) (ul2 F__law_pick)) fun v44 => (bd (.ok []) fun r45 => .ok (v44 :: r45))) fun r47 => .ok (v46 :: r47))) fun r49 => .ok (v48 :: r49))) fun ds => if ds.length ≤ sizeLine then .ok (.tup ds) else .bad) fun l_lot0 => (bd (bd (bd (.ok l_pen_here) fun v53 => (bd (bd (.ok l_lot0) fun v51 => (bd (.ok []) fun r52 => .ok (v51 :: r52))) fun r54 => .ok (v53 :: r54))) (ul2 F__law_part)) fun l_part_here49 => (bd (bd (bd (bd (bd (.ok l_part_here49) fun v55 => (bd (.ok []) fun r56 => .ok (v55 :: r56))) (ul1 F__law_stretch)) fun v63 => (bd (bd (bd (bd (bd (bd (.ok l_size) rgA1) fun r => if rgOk r.1 r.2 then .ok (.lst (rgD r.1 (r.2 - r.1).toNat)) else .bad) fun v59 => (bd (bd (.ok l_part_here49) fun v57 => (bd (.ok []) fun r58 => .ok (v57 :: r58))) fun r60 => .ok (v59 :: r60))) (ul2 (F__law_played 2))) fun v61 => (bd (.ok []) fun r62 => .ok (v61 :: r62))) fun r64 => .ok (v63 :: r64))) fun ds => if ds.length ≤ sizeLine then .ok (.tup ds) else .bad) fun d66 => un2 d66 fun l_stretch_here64 l_items64 => (bd (bd (bd (bd (bd (.ok l_size) fun v67 => (bd (.ok []) fun r68 => .ok (v67 :: r68))) (ul1 rg1)) fun ds => bd (lcF (fun l_place68 => nox (bd (nox (bd (.ok l_stretch_here64) fun o74 => (isO "Stretch" o74 fun fs => if fs.lookup ("to" : Str) = none then bd (bd (.ok l_size) fun v72 => (bd (bd (.ok l_place68) fun v70 => (bd (.ok []) fun r71 => .ok (v70 :: r71))) fun r73 => .ok (v72 :: r73))) fun ds => (ul3 F_Stretch_to) (o74 :: ds) else .bad))) fun y => .ok (some y))) ds) fun r => .ok (.lst r)) fun v80 => (bd (bd (bd (bd (.ok l_size) fun v75 => (bd (.ok []) fun r76 => .ok (v75 :: r76))) (ul1 rg1)) fun ds => bd (lcF (fun l_place76 => nox (bd (bd (.ok l_items64) fun v78 => match v78 with | .lst ds => bd (.ok l_place76) fun v79 => indexD (.lst ds) v79 | _ => .bad) fun y => .ok (some y))) ds) fun r => .ok (.lst r)) fun v81 => eqD v80 v81)) fun d => .ok (.rt d)))))
theorem ok__law_short_right (F : FnA K d__law_short_right fd) (T : Tx K mg) (G__law_pick : PromO P w K mg base CX0 2 (gd "_law_pick" K) [] (spF K Tb (ul2 F__law_pick))) (G__law_part : PromO P w K mg base CX0 3 (gd "_law_part" K) [] (spF K Tb (ul2 F__law_part))) (G__law_stretch : PromO P w K mg base CX0 5 (gd "_law_stretch" K) [] (spF K Tb (ul1 F__law_stretch))) (G__law_played : PromO P w K mg base CX0 4 (gd "_law_played" K) [] (spF K Tb (ul2 (F__law_played 2)))) (G_Stretch_to : PromO P w K mg base (L2.CX P w) 7 (md "Stretch" "to" K) [] (spF K Tb (ul3 F_Stretch_to))) : FnOk P w K mg base CX0 8 (d__law_short_right.adr K) fd ["_law_pen_here", "_law_size"] (spF K Tb (ul2 F__law_short_right)) := by
  refine fnO0 F sc__law_short_right (fun vs H Q E h => spF_len len2 h) (fun cdv A outer s H vs Q E hr h => ?_)
  refine ⟨_, (pss_cons (ps_set (i := 2) sc__law_short_right.nd rfl (.inl rfl) (pe_tup (pa_cons (pe_g (PromO.call G__law_pick (hr.mono (by decide)) (passA (E := E))) (by rfl) T.g__law_pick T.k__law_pick (pa_cons (pv 0) (pa_cons (pe_lst (pa_cons pe_int (pa_cons pe_int (pa_cons pe_int (pa_cons pe_int pa_nil))))) pa_nil))) (pa_cons (pe_g (PromO.call G__law_pick (hr.mono (by decide)) (passA (E := E))) (by rfl) T.g__law_pick T.k__law_pick (pa_cons (pv 0) (pa_cons (pe_lst (pa_cons pe_int (pa_cons pe_int (pa_cons (pe_un un_neg pe_int) (pa_cons (pe_un un_neg pe_int) (pa_cons pe_int (pa_cons pe_int (pa_cons pe_int pa_nil)))))))) pa_nil))) (pa_cons (pe_g (PromO.call G__law_pick (hr.mono (by decide)) (passA (E := E))) (by rfl) T.g__law_pick T.k__law_pick (pa_cons (pv 0) (pa_cons (pe_lst (pa_cons pe_int (pa_cons pe_int (pa_cons (pe_un un_neg pe_int) (pa_cons pe_int pa_nil))))) pa_nil))) pa_nil)))))
      (pss_cons (ps_set (i := 3) sc__law_short_right.nd rfl (.inl rfl) (pe_g (PromO.call G__law_part (hr.mono (by decide)) (passA (E := E))) (by rfl) T.g__law_part T.k__law_part (pa_cons (pv 0) (pa_cons (pv 2) pa_nil))))
      (pss_cons (ps_asg (pe_tup (pa_cons (pe_g (PromO.call G__law_stretch (hr.mono (by decide)) (passA (E := E))) (by rfl) T.g__law_stretch T.k__law_stretch (pa_cons (pv 3) pa_nil)) (pa_cons (pe_g (PromO.call G__law_played (hr.mono (by decide)) (passA (E := E))) (by rfl) T.g__law_played T.k__law_played (pa_cons (pe_listRg rfl (by rfl) T.f_list (prg_1 (by rfl) T.f_range (pv 1))) (pa_cons (pv 3) pa_nil))) pa_nil))) (pg_tup rfl (pgs_cons (pg_name (i := 4) sc__law_short_right.nd rfl (.inr rfl)) (pgs_cons (pg_name (i := 5) sc__law_short_right.nd rfl (.inr rfl)) pgs_nil))))
      (pss_cons (ps_ret (pe_cmpR (op_eqA (K := K) rfl hr.units) (pe_lc (own := [("_law_place", 6)]) (g := gName 6) (by rfl) sc__law_short_right.nd (pi_range1 (by rfl) T.f_range (pa_cons (pv 1) pa_nil)) (blkOk_by (own := [("_law_place", 6)]) (N := N__law_short_right) (sc := defScope s__law_short_right) (by decide +kernel)) (fun _ _ _ _ _ => pg_name (i := 6) sc__law_short_right.nd rfl (Or.inl rfl)) (fun _ _ _ _ _ => pts_nil) (fun _ _ _ _ _ => (pe_m (pv 4) T.cl_Stretch T.mt_Stretch_to (PromO.call G_Stretch_to (hr.mono (by decide)) passF) (pa_cons (pv 1) (pa_cons (pv 6) pa_nil))))) (pe_lc (own := [("_law_place", 6)]) (g := gName 6) (by rfl) sc__law_short_right.nd (pi_range1 (by rfl) T.f_range (pa_cons (pv 1) pa_nil)) (blkOk_by (own := [("_law_place", 6)]) (N := N__law_short_right) (sc := defScope s__law_short_right) (by decide +kernel)) (fun _ _ _ _ _ => pg_name (i := 6) sc__law_short_right.nd rfl (Or.inl rfl)) (fun _ _ _ _ _ => pts_nil) (fun _ _ _ _ _ => (pe_indexK (K := K) rfl (pv 5) (pa_cons (pv 6) pa_nil)))) (nomark _))) pss_nil)))), ?_⟩
  exact fn_of2 (F := F__law_short_right) (envU := fun _ => List.replicate 7 .no) h (fun l_pen_here l_size => rfl) (fun p c l_pen_here l_size => (ss_asg (se_tup (sa_cons (se_cl srl_sp0 (sa_cons se_var (sa_cons (se_lst (sa_cons se_int (sa_cons se_int (sa_cons se_int (sa_cons se_int sa_nil))))) sa_nil))) (sa_cons (se_cl srl_sp0 (sa_cons se_var (sa_cons (se_lst (sa_cons se_int (sa_cons se_int (sa_cons (se_un sr_neg se_int) (sa_cons (se_un sr_neg se_int) (sa_cons se_int (sa_cons se_int (sa_cons se_int sa_nil)))))))) sa_nil))) (sa_cons (se_cl srl_sp0 (sa_cons se_var (sa_cons (se_lst (sa_cons se_int (sa_cons se_int (sa_cons (se_un sr_neg se_int) (sa_cons se_int sa_nil))))) sa_nil))) sa_nil)))) (fun l_lot0 => (ss_asg (se_cl srl_sp0 (sa_cons se_var (sa_cons se_var sa_nil))) (fun l_part_here49 => (ss_unp (se_tup (sa_cons (se_cl srl_sp0 (sa_cons se_var sa_nil)) (sa_cons (se_cl srl_sp0 (sa_cons (se_lstRg (srg_1 se_var)) (sa_cons se_var sa_nil))) sa_nil))) (fun d66 => sx_tup2 (fun l_stretch_here64 l_items64 => (ss_ret (se_op sr_eq (se_lc (si_rg1 (sa_cons se_var sa_nil)) (fun l_place68 => (sc_map (se_nox (se_mt srl_sp0 se_var (sa_cons se_var (sa_cons se_var sa_nil))))))) (se_lc (si_rg1 (sa_cons se_var sa_nil)) (fun l_place76 => (sc_map (se_index se_var se_var))))))))))))))
abbrev N__law_great : List Str := ["_law_pen_here", "_law_size", "_law_near"]
theorem sc__law_great : FnScope N__law_great ["_law_pen_here"] (defScope s__law_great) := ⟨rfl, rfl, rfl, by decide +kernel, rfl, by decide +kernel, by decide +kernel⟩
def F__law_great (l_pen_here : D) : Tr D :=
  fin (bd (bd (.ok (.int 1000)) fun v26 => (bd (bd (bd (.ok l_pen_here) fun v24 => (bd (bd (bd (bd (bd (bd (.ok l_pen_here) fun v4 => (bd (bd (.ok (.int 50)) fun v2 => (bd (.ok []) fun r3 => .ok (v2 :: r3))) fun r5 => .ok (v4 :: r5))) (ul2 F_draw)) fun v20 => (bd (bd (bd (bd (.ok l_pen_here) fun v8 => (bd (bd (.ok (.int 100000000000000000000)) fun v6 => (bd (.ok []) fun r7 => .ok (v6 :: r7))) fun r9 => .ok (v8 :: r9))) (ul2 F_draw)) fun v18 => (bd (bd (bd (bd (.ok l_pen_here) fun v14 => (bd (bd (bd (.ok (.int 10000000000000000000000000000000000000000)) fun v10 => (bd (.ok (.int 1000)) fun v11 => subD v10 v11)) fun v12 => (bd (.ok []) fun r13 => .ok (v12 :: r13))) fun r15 => .ok (v14 :: r15))) (ul2 F_draw)) fun v16 => (bd (.ok []) fun r17 => .ok (v16 :: r17))) fun r19 => .ok (v18 :: r19))) fun r21 => .ok (v20 :: r21))) fun ds => if ds.length ≤ sizeLine then .ok (.lst ds) else .bad) fun v22 => (bd (.ok []) fun r23 => .ok (v22 :: r23))) fun r25 => .ok (v24 :: r25))) (ul2 F__law_pick)) fun v27 => addD v26 v27)) fun l_size0 => (bd (bd (bd (.ok l_pen_here) fun v31 => (bd (bd (.ok (.int 40)) fun v29 => (bd (.ok []) fun r30 => .ok (v29 :: r30))) fun r32 => .ok (v31 :: r32))) (ul2 F_draw)) fun l_near27 => (bd (bd (bd (.ok l_size0) fun v61 => (bd (bd (bd (bd (.ok l_pen_here) fun v57 => (bd (bd (bd (bd (.ok l_near27) fun v53 => (bd (bd (bd (bd (.ok l_size0) fun v33 => (bd (.ok (.int 1)) fun v34 => subD v33 v34)) fun v35 => (bd (.ok l_near27) fun v36 => subD v35 v36)) fun v51 => (bd (bd (bd (bd (bd (.ok l_size0) fun v37 => (bd (.ok (.int 2)) fun v38 => divD v37 v38)) fun v39 => (bd (.ok l_near27) fun v40 => addD v39 v40)) fun v41 => (bd (.ok (.int 20)) fun v42 => subD v41 v42)) fun v49 => (bd (bd (bd (bd (.ok l_pen_here) fun v45 => (bd (bd (.ok l_size0) fun v43 => (bd (.ok []) fun r44 => .ok (v43 :: r44))) fun r46 => .ok (v45 :: r46))) (ul2 F_draw)) fun v47 => (bd (.ok []) fun r48 => .ok (v47 :: r48))) fun r50 => .ok (v49 :: r50))) fun r52 => .ok (v51 :: r52))) fun r54 => .ok (v53 :: r54))) fun ds => if ds.length ≤ sizeLine then .ok (.lst ds) else .bad) fun v55 => (bd (.ok []) fun r56 => .ok (v55 :: r56))) fun r58 => .ok (v57 :: r58))) (ul2 F__law_pick)) fun v59 => (bd (.ok []) fun r60 => .ok (v59 :: r60))) fun r62 => .ok (v61 :: r62))) fun ds => if ds.length ≤ sizeLine then .ok (.tup ds) else .bad) fun d => .ok (.rt d))))
theorem ok__law_great (F : FnA K d__law_great fd) (T : Tx K mg) (G__law_pick : PromO P w K mg base CX0 2 (gd "_law_pick" K) [] (spF K Tb (ul2 F__law_pick))) (G__law_draw : PromO P w K mg base CX0 1 (gd "_law_draw" K) [] (spF K Tb (ul2 F_draw))) : FnOk P w K mg base CX0 3 (d__law_great.adr K) fd ["_law_pen_here"] (spF K Tb (ul1 F__law_great)) := by
  refine fnO0 F sc__law_great (fun vs H Q E h => spF_len len1 h) (fun cdv A outer s H vs Q E hr h => ?_)
  refine ⟨_, (pss_cons (ps_set (i := 1) sc__law_great.nd rfl (.inl rfl) (pe_op (op_addA (K := K) rfl) pe_int (pe_g (PromO.call G__law_pick (hr.mono (by decide)) (passA (E := E))) (by rfl) T.g__law_pick T.k__law_pick (pa_cons (pv 0) (pa_cons (pe_lst (pa_cons (pe_g (PromO.call G__law_draw (hr.mono (by decide)) (passA (E := E))) (by rfl) T.g__law_draw T.k__law_draw (pa_cons (pv 0) (pa_cons pe_int pa_nil))) (pa_cons (pe_g (PromO.call G__law_draw (hr.mono (by decide)) (passA (E := E))) (by rfl) T.g__law_draw T.k__law_draw (pa_cons (pv 0) (pa_cons (pe_op (op_powK 100000000000000000000) pe_int pe_int) pa_nil))) (pa_cons (pe_g (PromO.call G__law_draw (hr.mono (by decide)) (passA (E := E))) (by rfl) T.g__law_draw T.k__law_draw (pa_cons (pv 0) (pa_cons (pe_op op_sub (pe_op (op_powK 10000000000000000000000000000000000000000) pe_int pe_int) pe_int) pa_nil))) pa_nil)))) pa_nil)))))
      (pss_cons (ps_set (i := 2) sc__law_great.nd rfl (.inl rfl) (pe_g (PromO.call G__law_draw (hr.mono (by decide)) (passA (E := E))) (by rfl) T.g__law_draw T.k__law_draw (pa_cons (pv 0) (pa_cons pe_int pa_nil))))
      (pss_cons (ps_ret (pe_tup (pa_cons (pv 1) (pa_cons (pe_g (PromO.call G__law_pick (hr.mono (by decide)) (passA (E := E))) (by rfl) T.g__law_pick T.k__law_pick (pa_cons (pv 0) (pa_cons (pe_lst (pa_cons (pv 2) (pa_cons (pe_op op_sub (pe_op op_sub (pv 1) pe_int) (pv 2)) (pa_cons (pe_op op_sub (pe_op (op_addA (K := K) rfl) (pe_op op_fdivW (pv 1) pe_int) (pv 2)) pe_int) (pa_cons (pe_g (PromO.call G__law_draw (hr.mono (by decide)) (passA (E := E))) (by rfl) T.g__law_draw T.k__law_draw (pa_cons (pv 0) (pa_cons (pv 1) pa_nil))) pa_nil))))) pa_nil))) pa_nil)))) pss_nil))), ?_⟩
  exact fn_of1 (F := F__law_great) (envU := fun _ => List.replicate 3 .no) h (fun l_pen_here => rfl) (fun p c l_pen_here => (ss_asg (se_op sr_add se_int (se_cl srl_sp0 (sa_cons se_var (sa_cons (se_lst (sa_cons (se_cl srl_sp0 (sa_cons se_var (sa_cons se_int sa_nil))) (sa_cons (se_cl srl_sp0 (sa_cons se_var (sa_cons (se_powK (by decide) (by decide) (by decide)) sa_nil))) (sa_cons (se_cl srl_sp0 (sa_cons se_var (sa_cons (se_op sr_sub (se_powK (by decide) (by decide) (by decide)) se_int) sa_nil))) sa_nil)))) sa_nil)))) (fun l_size0 => (ss_asg (se_cl srl_sp0 (sa_cons se_var (sa_cons se_int sa_nil))) (fun l_near27 => (ss_ret (se_tup (sa_cons se_var (sa_cons (se_cl srl_sp0 (sa_cons se_var (sa_cons (se_lst (sa_cons se_var (sa_cons (se_op sr_sub (se_op sr_sub se_var se_int) se_var) (sa_cons (se_op sr_sub (se_op sr_add (se_op sr_div se_var se_int) se_var) se_int) (sa_cons (se_cl srl_sp0 (sa_cons se_var (sa_cons se_var sa_nil))) sa_nil))))) sa_nil))) sa_nil)))))))))
abbrev N__law_great_right : List Str := ["_law_pen_here", "_law_few", "_law_long", "_law_many", "_law_begin", "_law_there", "_law_k", "_law_size", "_law_place", "_law_times", "_law_more", "_law_kind"]
theorem sc__law_great_right : FnScope N__law_great_right ["_law_pen_here"] (defScope s__law_great_right) := ⟨rfl, rfl, rfl, by decide +kernel, rfl, by decide +kernel, by decide +kernel⟩
def F__law_great_right (l_pen_here : D) : Tr D :=
  fin (bd (bd (bd (.ok l_pen_here) fun v1 => (bd (.ok []) fun r2 => .ok (v1 :: r2))) (ul1 F__law_great)) fun d4 => un2 d4 fun l_size2 l_place2 => (bd (bd (bd (.ok l_pen_here) fun v42 => (bd (bd (bd (bd (.ok (.int 0)) fun v38 => (bd (bd (bd (bd (.ok l_pen_here) fun v20 => (bd (bd (bd (bd (.ok (.int 0)) fun v16 => (bd (bd (.ok (.int 1)) fun v14 => (bd (bd (.ok (.int 2)) fun v12 => (bd (bd (.ok (.int 17)) fun v10 => (bd (bd (.ok (.int 51)) fun v8 => (bd (bd (.ok (.int 60)) fun v6 => (bd (.ok []) fun r7 => .ok (v6 :: r7))) fun r9 => .ok (v8 :: r9))) fun r11 => .ok (v10 :: r11))) fun r13 => .ok (v12 :: r13))) fun r15 => .ok (v14 :: r15))) fun r17 => .ok (v16 :: r17))) fun ds => if ds.length ≤ sizeLine then .ok (.lst ds) else .bad) fun v18 => (bd (.ok []) fun r19 => .ok (v18 :: r19))) fun r21 => .ok (v20 :: r21))) (ul2 F__law_pick)) fun v36 => (bd (bd (bd (bd (.ok l_pen_here) fun v32 => (bd (bd (bd (bd (.ok (.int 0)) fun v28 => (bd (bd (.ok (.int 1)) fun v26 => (bd (bd (.ok (.int 9)) fun v24 => (bd (bd (bd (.ok (.int 9)) negD) fun v22 => (bd (.ok []) fun r23 => .ok (v22 :: r23))) fun r25 => .ok (v24 :: r25))) fun r27 => .ok (v26 :: r27))) fun r29 => .ok (v28 :: r29))) fun ds => if ds.length ≤ sizeLine then .ok (.lst ds) else .bad) fun v30 => (bd (.ok []) fun r31 => .ok (v30 :: r31))) fun r33 => .ok (v32 :: r33))) (ul2 F__law_pick)) fun v34 => (bd (.ok []) fun r35 => .ok (v34 :: r35))) fun r37 => .ok (v36 :: r37))) fun r39 => .ok (v38 :: r39))) fun ds => if ds.length ≤ sizeLine then .ok (.tup ds) else .bad) fun v40 => (bd (.ok []) fun r41 => .ok (v40 :: r41))) fun r43 => .ok (v42 :: r43))) (ul2 F__law_part)) fun l_few4 => (bdF (W' := Unit) (bd (bd (bd (nox (bd (bd (bd (.ok l_few4) fun v44 => (bd (.ok []) fun r45 => .ok (v44 :: r45))) (ul1 F__law_stretch)) fun o50 => (isO "Stretch" o50 fun fs => if fs.lookup ("to" : Str) = none then bd (bd (.ok l_size2) fun v48 => (bd (bd (.ok l_place2) fun v46 => (bd (.ok []) fun r47 => .ok (v46 :: r47))) fun r49 => .ok (v48 :: r49))) fun ds => (ul3 F_Stretch_to) (o50 :: ds) else .bad))) fun v57 => (bd (bd (bd (.ok l_size2) fun v55 => (bd (bd (.ok l_place2) fun v53 => (bd (bd (.ok l_few4) fun v51 => (bd (.ok []) fun r52 => .ok (v51 :: r52))) fun r54 => .ok (v53 :: r54))) fun r56 => .ok (v55 :: r56))) (ul3 (F__law_went 2))) fun v58 => neD v57 v58)) asB) fun k => if k = true then (bd (.ok (.bl false)) fun d => .ok (.rt d)) else (.ok (.nx ()))) fun (w59 : Unit) => (bd (bd (bd (.ok (.int 1)) fun v64 => (bd (bd (bd (.ok l_pen_here) fun v62 => (bd (bd (.ok (.int 4)) fun v60 => (bd (.ok []) fun r61 => .ok (v60 :: r61))) fun r63 => .ok (v62 :: r63))) (ul2 F_draw)) fun v65 => addD v64 v65)) fun v72 => (bd (bd (bd (bd (.ok l_pen_here) fun v68 => (bd (bd (.ok (.int 21)) fun v66 => (bd (.ok []) fun r67 => .ok (v66 :: r67))) fun r69 => .ok (v68 :: r69))) (ul2 F_draw)) fun v70 => (bd (.ok []) fun r71 => .ok (v70 :: r71))) fun r73 => .ok (v72 :: r73))) (ul2 fun l_times73 l_more73 => (bd (bd (bd (.ok l_pen_here) fun v86 => (bd (bd (bd (bd (bd (.ok (.int 2)) fun v76 => (bd (.ok l_times73) fun v77 => mulD v76 v77)) fun v82 => (bd (bd (.ok l_more73) fun v80 => (bd (bd (.ok l_times73) fun v78 => (bd (.ok []) fun r79 => .ok (v78 :: r79))) fun r81 => .ok (v80 :: r81))) fun r83 => .ok (v82 :: r83))) fun ds => if ds.length ≤ sizeLine then .ok (.tup ds) else .bad) fun v84 => (bd (.ok []) fun r85 => .ok (v84 :: r85))) fun r87 => .ok (v86 :: r87))) (ul2 F__law_part)) fun l_long74 => (bd (bd (bd (.ok l_times73) fun v89 => (bd (.ok l_size2) fun v90 => mulD v89 v90)) fun v91 => (bd (.ok l_more73) fun v92 => addD v91 v92)) fun l_many87 => (bd (bd (bd (bd (bd (.ok l_long74) fun v94 => (bd (.ok (.int 4)) fun v95 => ixD v94 v95)) asB) fun k => if k = true then (bd (bd (bd (bd (bd (.ok l_many87) fun v96 => (bd (.ok []) fun r97 => .ok (v96 :: r97))) (ul1 intD)) fun v98 => (bd (.ok (.int 2)) fun v99 => modD v98 v99)) fun v100 => (bd (.ok (.int 0)) fun v101 => eqD v100 v101)) asB) else .ok false) fun k => if k = true then (bd (.ok (.int 1)) fun v104 => (bd (bd (.ok l_long74) fun v102 => (bd (.ok (.int 1)) fun v103 => ixD v102 v103)) fun v105 => subD v104 v105)) else (bd (.ok l_long74) fun v106 => (bd (.ok (.int 1)) fun v107 => ixD v106 v107))) fun l_begin92 => (bd (bd (bd (bd (bd (bd (bd (.ok l_times73) fun v109 => (bd (.ok []) fun r110 => .ok (v109 :: r110))) (ul1 intD)) fun v111 => (bd (.ok (.int 2)) fun v112 => modD v111 v112)) fun v113 => (bd (.ok (.int 0)) fun v114 => eqD v113 v114)) asB) fun k => if k = true then (.ok l_place2) else (bd (bd (.ok l_size2) fun v115 => (bd (.ok (.int 1)) fun v116 => subD v115 v116)) fun v117 => (bd (.ok l_place2) fun v118 => subD v117 v118))) fun l_there107 => (bdF (bd (bd (bd (.ok l_more73) fun v119 => (bd (.ok []) fun r120 => .ok (v119 :: r120))) (ul1 rg1)) fun ds => forF (fun (d122 : D) (w121 : D) => (bd (bd (bd (bd (bd (bd (.ok l_begin92) fun v127 => (bd (bd (.ok l_times73) fun v125 => (bd (.ok l_size2) fun v126 => mulD v125 v126)) fun v128 => addD v127 v128)) fun v129 => (bd (.ok d122) fun v130 => addD v129 v130)) fun v131 => (bd (.ok []) fun r132 => .ok (v131 :: r132))) (ul1 intD)) fun v133 => (bd (.ok (.int 2)) fun v134 => modD v133 v134)) fun l_kind123 => (bd (bd (bd (.ok l_size2) fun v152 => (bd (bd (.ok w121) fun v150 => (bd (bd (bd (bd (.ok l_kind123) fun v142 => (bd (bd (bd (.ok l_long74) fun v136 => (bd (.ok (.int 3)) fun v137 => ixD v136 v137)) fun v140 => (bd (bd (.ok l_size2) fun v138 => (bd (.ok []) fun r139 => .ok (v138 :: r139))) fun r141 => .ok (v140 :: r141))) fun r143 => .ok (v142 :: r143))) (ul3 F__law_plain)) fun v148 => (bd (bd (bd (.ok l_long74) fun v144 => (bd (.ok (.int 3)) fun v145 => ixD v144 v145)) fun v146 => (bd (.ok []) fun r147 => .ok (v146 :: r147))) fun r149 => .ok (v148 :: r149))) fun r151 => .ok (v150 :: r151))) fun r153 => .ok (v152 :: r153))) (ul4 F__law_moved)) fun l_there134 => (.ok (.nx l_there134))))) ds l_there107) fun (w121 : D) => (bd (bd (nox (bd (bd (bd (.ok l_long74) fun v154 => (bd (.ok []) fun r155 => .ok (v154 :: r155))) (ul1 F__law_stretch)) fun o160 => (isO "Stretch" o160 fun fs => if fs.lookup ("to" : Str) = none then bd (bd (.ok l_size2) fun v158 => (bd (bd (.ok l_place2) fun v156 => (bd (.ok []) fun r157 => .ok (v156 :: r157))) fun r159 => .ok (v158 :: r159))) fun ds => (ul3 F_Stretch_to) (o160 :: ds) else .bad))) fun v161 => (bd (.ok w121) fun v162 => eqD v161 v162)) fun d => .ok (.rt d))))))))))))
theorem ok__law_great_right (F : FnA K d__law_great_right fd) (T : Tx K mg) (G__law_great : PromO P w K mg base CX0 3 (gd "_law_great" K) [] (spF K Tb (ul1 F__law_great))) (G__law_part : PromO P w K mg base CX0 3 (gd "_law_part" K) [] (spF K Tb (ul2 F__law_part))) (G__law_pick : PromO P w K mg base CX0 2 (gd "_law_pick" K) [] (spF K Tb (ul2 F__law_pick))) (G_Stretch_to : PromO P w K mg base (L2.CX P w) 7 (md "Stretch" "to" K) [] (spF K Tb (ul3 F_Stretch_to))) (G__law_stretch : PromO P w K mg base CX0 5 (gd "_law_stretch" K) [] (spF K Tb (ul1 F__law_stretch))) (G__law_went : PromO P w K mg base CX0 4 (gd "_law_went" K) [] (spF K Tb (ul3 (F__law_went 2)))) (G__law_draw : PromO P w K mg base CX0 1 (gd "_law_draw" K) [] (spF K Tb (ul2 F_draw))) (G__law_moved : PromO P w K mg base CX0 1 (gd "_law_moved" K) [] (spF K Tb (ul4 F__law_moved))) (G__law_plain : PromO P w K mg base CX0 1 (gd "_law_plain" K) [] (spF K Tb (ul3 F__law_plain))) : FnOk P w K mg base CX0 8 (d__law_great_right.adr K) fd ["_law_pen_here"] (spF K Tb (ul1 F__law_great_right)) := by
  refine fnO0 F sc__law_great_right (fun vs H Q E h => spF_len len1 h) (fun cdv A outer s H vs Q E hr h => ?_)
  refine ⟨_, (pss_cons (ps_asg (pe_g (PromO.call G__law_great (hr.mono (by decide)) (passA (E := E))) (by rfl) T.g__law_great T.k__law_great (pa_cons (pv 0) pa_nil)) (pg_tup rfl (pgs_cons (pg_name (i := 7) sc__law_great_right.nd rfl (.inl rfl)) (pgs_cons (pg_name (i := 8) sc__law_great_right.nd rfl (.inl rfl)) pgs_nil))))
      (pss_cons (ps_set (i := 1) sc__law_great_right.nd rfl (.inl rfl) (pe_g (PromO.call G__law_part (hr.mono (by decide)) (passA (E := E))) (by rfl) T.g__law_part T.k__law_part (pa_cons (pv 0) (pa_cons (pe_tup (pa_cons pe_int (pa_cons (pe_g (PromO.call G__law_pick (hr.mono (by decide)) (passA (E := E))) (by rfl) T.g__law_pick T.k__law_pick (pa_cons (pv 0) (pa_cons (pe_lst (pa_cons pe_int (pa_cons pe_int (pa_cons pe_int (pa_cons pe_int (pa_cons pe_int (pa_cons pe_int pa_nil))))))) pa_nil))) (pa_cons (pe_g (PromO.call G__law_pick (hr.mono (by decide)) (passA (E := E))) (by rfl) T.g__law_pick T.k__law_pick (pa_cons (pv 0) (pa_cons (pe_lst (pa_cons pe_int (pa_cons pe_int (pa_cons pe_int (pa_cons (pe_un un_neg pe_int) pa_nil))))) pa_nil))) pa_nil)))) pa_nil))))
      (pss_cons (ps_if (pt_cmpR (op_neA (K := K) rfl hr.units) (pe_m (pe_g (PromO.call G__law_stretch (hr.mono (by decide)) (passA (E := EF))) (by rfl) T.g__law_stretch T.k__law_stretch (pa_cons (pv 1) pa_nil)) T.cl_Stretch T.mt_Stretch_to (PromO.call G_Stretch_to (hr.mono (by decide)) passF) (pa_cons (pv 7) (pa_cons (pv 8) pa_nil))) (pe_g (PromO.call G__law_went (hr.mono (by decide)) (passA (E := E))) (by rfl) T.g__law_went T.k__law_went (pa_cons (pv 7) (pa_cons (pv 8) (pa_cons (pv 1) pa_nil)))) (nomark _))
      (pss_cons (ps_ret pe_bl) pss_nil) pss_nil)
      (pss_cons (ps_par (i := 9) (j := 10) (by rfl) sc__law_great_right.nd rfl rfl (by decide) rfl rfl (pa_cons (pe_op (op_addA (K := K) rfl) pe_int (pe_g (PromO.call G__law_draw (hr.mono (by decide)) (passA (E := E))) (by rfl) T.g__law_draw T.k__law_draw (pa_cons (pv 0) (pa_cons pe_int pa_nil)))) (pa_cons (pe_g (PromO.call G__law_draw (hr.mono (by decide)) (passA (E := E))) (by rfl) T.g__law_draw T.k__law_draw (pa_cons (pv 0) (pa_cons pe_int pa_nil))) pa_nil)) (by rfl))
      (pss_cons (ps_set (i := 2) sc__law_great_right.nd rfl (.inl rfl) (pe_g (PromO.call G__law_part (hr.mono (by decide)) (passA (E := E))) (by rfl) T.g__law_part T.k__law_part (pa_cons (pv 0) (pa_cons (pe_tup (pa_cons (pe_op op_mulA pe_int (pv 9)) (pa_cons (pv 10) (pa_cons (pv 9) pa_nil)))) pa_nil))))
      (pss_cons (ps_set (i := 3) sc__law_great_right.nd rfl (.inl rfl) (pe_op (op_addA (K := K) rfl) (pe_op op_mulA (pv 9) (pv 7)) (pv 10)))
      (pss_cons (ps_set (i := 4) sc__law_great_right.nd rfl (.inl rfl) (pe_ifExp (PW.pt (pw_and (pt_val (pe_ix (ix_seqK (K := K) rfl) (pv 2) pe_int (fun _ _ => rfl))) (pw_and1 (pt_cmpR (op_eqA (K := K) rfl hr.units) (pe_op op_mod (pe_callTy cr_int (by rfl) T.f_int (by decide +kernel) (pa_cons (pv 3) pa_nil)) pe_int) pe_int (nomark _))))) (pe_op op_sub pe_int (pe_ix (ix_seqK (K := K) rfl) (pv 2) pe_int (fun _ _ => rfl))) (pe_ix (ix_seqK (K := K) rfl) (pv 2) pe_int (fun _ _ => rfl))))
      (pss_cons (ps_set (i := 5) sc__law_great_right.nd rfl (.inl rfl) (pe_ifExp (pt_cmpR (op_eqA (K := K) rfl hr.units) (pe_op op_mod (pe_callTy cr_int (by rfl) T.f_int (by decide +kernel) (pa_cons (pv 9) pa_nil)) pe_int) pe_int (nomark _)) (pv 8) (pe_op op_sub (pe_op op_sub (pv 7) pe_int) (pv 8))))
      (pss_cons (ps_for PassesOwn.never rfl (pi_range1 (by rfl) T.f_range (pa_cons (pv 10) pa_nil)) (pg_name (i := 6) sc__law_great_right.nd rfl (.inl rfl))
      (pss_cons (ps_set (i := 11) sc__law_great_right.nd rfl (.inl rfl) (pe_op op_mod (pe_callTy cr_int (by rfl) T.f_int (by decide +kernel) (pa_cons (pe_op (op_addA (K := K) rfl) (pe_op (op_addA (K := K) rfl) (pv 4) (pe_op op_mulA (pv 9) (pv 7))) (pv 6)) pa_nil)) pe_int))
      (pss_cons (ps_set (i := 5) sc__law_great_right.nd rfl (.inl rfl) (pe_g (PromO.call G__law_moved (hr.mono (by decide)) (passA (E := E))) (by rfl) T.g__law_moved T.k__law_moved (pa_cons (pv 7) (pa_cons (pv 5) (pa_cons (pe_g (PromO.call G__law_plain (hr.mono (by decide)) (passA (E := E))) (by rfl) T.g__law_plain T.k__law_plain (pa_cons (pv 11) (pa_cons (pe_ix (ix_seqK (K := K) rfl) (pv 2) pe_int (fun _ _ => rfl)) (pa_cons (pv 7) pa_nil)))) (pa_cons (pe_ix (ix_seqK (K := K) rfl) (pv 2) pe_int (fun _ _ => rfl)) pa_nil))))))
      pss_nil)))
      (pss_cons (ps_ret (pe_cmpR (op_eqA (K := K) rfl hr.units) (pe_m (pe_g (PromO.call G__law_stretch (hr.mono (by decide)) (passA (E := EF))) (by rfl) T.g__law_stretch T.k__law_stretch (pa_cons (pv 2) pa_nil)) T.cl_Stretch T.mt_Stretch_to (PromO.call G_Stretch_to (hr.mono (by decide)) passF) (pa_cons (pv 7) (pa_cons (pv 8) pa_nil))) (pv 5) (nomark _))) pss_nil)))))))))), ?_⟩
  exact fn_of1 (F := F__law_great_right) (envU := fun _ => List.replicate 12 .no) h (fun l_pen_here => rfl) (fun p c l_pen_here => (ss_unp (se_cl srl_sp0 (sa_cons se_var sa_nil)) (fun d4 => sx_tup2 (fun l_size2 l_place2 => (ss_asg (se_cl srl_sp0 (sa_cons se_var (sa_cons (se_tup (sa_cons se_int (sa_cons (se_cl srl_sp0 (sa_cons se_var (sa_cons (se_lst (sa_cons se_int (sa_cons se_int (sa_cons se_int (sa_cons se_int (sa_cons se_int (sa_cons se_int sa_nil))))))) sa_nil))) (sa_cons (se_cl srl_sp0 (sa_cons se_var (sa_cons (se_lst (sa_cons se_int (sa_cons se_int (sa_cons se_int (sa_cons (se_un sr_neg se_int) sa_nil))))) sa_nil))) sa_nil)))) sa_nil))) (fun l_few4 => (ss_if (fun (w59 : Unit) => [.fz l_pen_here, .fz l_few4, .no, .no, .no, .no, .no, .fz l_size2, .fz l_place2, .no, .no, .no]) (sb_tst (se_op sr_ne (se_nox (se_mt srl_sp0 (se_cl srl_sp0 (sa_cons se_var sa_nil)) (sa_cons se_var (sa_cons se_var sa_nil)))) (se_cl srl_sp0 (sa_cons se_var (sa_cons se_var (sa_cons se_var sa_nil)))))) (ss_ret se_bl) (ss_nx (.s (.s (.s (.s (.s (.s (.s (.s (.s (.s (.s (.s .nil))))))))))))) (fun (w59 : Unit) => (ss_par (sa_cons (se_op sr_add se_int (se_cl srl_sp0 (sa_cons se_var (sa_cons se_int sa_nil)))) (sa_cons (se_cl srl_sp0 (sa_cons se_var (sa_cons se_int sa_nil))) sa_nil)) (fun l_times73 l_more73 => (ss_asg (se_cl srl_sp0 (sa_cons se_var (sa_cons (se_tup (sa_cons (se_op sr_mul se_int se_var) (sa_cons se_var (sa_cons se_var sa_nil)))) sa_nil))) (fun l_long74 => (ss_asg (se_op sr_add (se_op sr_mul se_var se_var) se_var) (fun l_many87 => (ss_asg (se_if (sb_and (sb_tb (se_op sr_ix se_var se_int)) (sb_tst (se_op sr_eq (se_op sr_mod (se_cb srl_int (sa_cons se_var sa_nil)) se_int) se_int))) (se_op sr_sub se_int (se_op sr_ix se_var se_int)) (se_op sr_ix se_var se_int)) (fun l_begin92 => (ss_asg (se_if (sb_tst (se_op sr_eq (se_op sr_mod (se_cb srl_int (sa_cons se_var sa_nil)) se_int) se_int)) se_var (se_op sr_sub (se_op sr_sub se_var se_int) se_var)) (fun l_there107 => (ss_for (fun (w121 : D) => [.fz l_pen_here, .fz l_few4, .fz l_long74, .fz l_many87, .fz l_begin92, .fz w121, .no, .fz l_size2, .fz l_place2, .fz l_times73, .fz l_more73, .no]) (si_rg1 (sa_cons se_var sa_nil)) (.s (.s (.s (.s (.s (.s (.s (.s (.s (.s (.s (.s .nil)))))))))))) (fun (d122 : D) (w121 : D) => (sx_name (ss_asg (se_op sr_mod (se_cb srl_int (sa_cons (se_op sr_add (se_op sr_add se_var (se_op sr_mul se_var se_var)) se_var) sa_nil)) se_int) (fun l_kind123 => (ss_asg (se_cl srl_sp0 (sa_cons se_var (sa_cons se_var (sa_cons (se_cl srl_sp0 (sa_cons se_var (sa_cons (se_op sr_ix se_var se_int) (sa_cons se_var sa_nil)))) (sa_cons (se_op sr_ix se_var se_int) sa_nil))))) (fun l_there134 => (ss_nx (.s (.s (.s (.s (.s (.s (.n (.s (.s (.s (.s (.n .nil))))))))))))))))))) (fun (w121 : D) => (ss_ret (se_op sr_eq (se_nox (se_mt srl_sp0 (se_cl srl_sp0 (sa_cons se_var sa_nil)) (sa_cons se_var (sa_cons se_var sa_nil)))) se_var))))))))))))))))))))))
end
end Lw
end
section
set_option Elab.async false
set_option linter.all false
set_option maxRecDepth 100000
set_option maxHeartbeats 4000000
set_option pp.maxSteps 600
namespace Lw
open PySem PySem.Spec PyProof.Rows L2 Gh Gp
section
variable {P : Program} {w : World} {K : PySem.W.Frag} {mg : Str → Option Value} {base : Heap} {f : Addr} {fd : FuncData} {Tb : List (Addr × Str)}
abbrev N__law_heard : List Str := ["_law_ask", "_law_told_here", "error"]
theorem sc__law_heard : FnScope N__law_heard ["_law_ask"] (defScope s__law_heard) := ⟨rfl, rfl, rfl, by decide +kernel, rfl, by decide +kernel, by decide +kernel⟩
def ex__law_heard (cl cn : Str) : Option Bool := match ([("BadLength", [("BadLength", true), ("BadPlace", false)]), ("BadPlace", [("BadPlace", true)])] : List (Str × List (Str × Bool))).lookup cn with
  | some l => l.lookup cl
  | none => none
theorem exT__law_heard (T : Tx K mg) : ∀ cl cn b, ex__law_heard cl cn = some b → PySem.W.exmOne K (.ref (gd cl K)) (.ref (gd cn K)) = some b := by
  intro cl cn b h
  unfold ex__law_heard at h
  split at h
  · rename_i l h2
    exact (look_cons h2).elim (fun e => by obtain ⟨rfl, rfl⟩ := e; exact (look_cons h).elim (fun e => by obtain ⟨rfl, rfl⟩ := e; exact T.xm_BadLength_BadLength) (fun h => (look_cons h).elim (fun e => by obtain ⟨rfl, rfl⟩ := e; exact T.xm_BadPlace_BadLength) (fun h => nomatch h))) (fun h2 => (look_cons h2).elim (fun e => by obtain ⟨rfl, rfl⟩ := e; exact (look_cons h).elim (fun e => by obtain ⟨rfl, rfl⟩ := e; exact T.xm_BadPlace_BadPlace) (fun h => nomatch h)) (fun h2 => nomatch h2))
  · cases h
def cs__law_heard : List Cl := [("BadLength", some 2, [.s "length", .f "value"]), ("BadPlace", some 2, [.s "place", .f "value"]), ("HuntError", none, [.s "other"])]
def F__law_heard (m : Tr D) : Tr D := tryT m (fun _ => nox (fin (bd (.ok .non) fun d => .ok (.rt d)))) (fun cl fs => bd (pickC ex__law_heard cs__law_heard cl fs) fun d => nox (fin (bd (.ok d) fun d => .ok (.rt d))))
theorem ok__law_heard {X : Cx} {Tb : List (Addr × Str)} (T : Tx X.K X.mg) {g : Addr} {cdv : Value} {q : Str} : LamX.GivesTo X N__law_heard "_law_heard" (defScope s__law_heard) g cdv (defBody s__law_heard) "_law_ask" q (THd X.K Tb F__law_heard) := by
  intro f c' s H Q tl act hc h
  obtain ⟨p, c, U, b, m, wd, u, ha, al⟩ := h
  refine ⟨_, pss_cons (ps_set (i := 1) sc__law_heard.nd rfl (.inl rfl) pe_non) (pss_cons (ps_try_mk (X := (cxOf C8.CX0 X.prog X.w X.K X.mg X.base N__law_heard "_law_heard" (defScope s__law_heard) g cdv X.A X.stack s H C8.E0).nox) (l := cs__law_heard.map (clTS X.K 1)) (Wout := fun _ _ _ _ => False) (tb := fun W => tTry 3 (fun E => (tDrop (tAct f c' q (tl E)))) W) rfl rfl rfl sc__law_heard.nd LamX.takes0 (fun W pn xe tk _ => try_act 3 rfl tk fun E ⟨W', tk', hW⟩ => pss_one (ps_expr (act W' pn xe E _ _ tk' hW))) (HdsK.as (i := 2) rfl rfl ⟨rfl, by decide, .inl T.g_BadLength⟩ (fun a oe cls d pn hz hf => pss_one (ps_set (i := 1) sc__law_heard.nd rfl (.inl rfl) (pe_lst (pa_cons pe_str (pa_cons (pe_xf T.xf_BadLength T.n_BadLength_value hz hf (pv 2)) pa_nil))))) (HdsK.as (i := 2) rfl rfl ⟨rfl, by decide, .inl T.g_BadPlace⟩ (fun a oe cls d pn hz hf => pss_one (ps_set (i := 1) sc__law_heard.nd rfl (.inl rfl) (pe_lst (pa_cons pe_str (pa_cons (pe_xf T.xf_BadPlace T.n_BadPlace_value hz hf (pv 2)) pa_nil))))) (HdsK.no ⟨rfl, by decide, .inl T.g_HuntError⟩ (fun a oe cls d pn hz hf => pss_one (ps_set (i := 1) sc__law_heard.nd rfl (.inl rfl) (pe_lst (pa_cons pe_str pa_nil)))) .nil))))
      (pss_cons (ps_ret (pv 1)) pss_nil)), ?_⟩
  exact heardM1 (g := ⟨X.K, Tb, p, c⟩) (n := 3) (j := 1) (ex := ex__law_heard) (cs := cs__law_heard) (envU := fun _ => List.replicate 3 .no) rfl (by decide) (by decide) (by decide) (exT__law_heard T) (ss_ret se_var) (fun d => (ss_ret se_var)) hc ha wd u al
abbrev N__law_refused_right : List Str := ["_law_pen_here", "_law_size", "_law_stretch_here", "_law_odd"]
theorem sc__law_refused_right : FnScope N__law_refused_right ["_law_pen_here"] (defScope s__law_refused_right) := ⟨rfl, rfl, rfl, by decide +kernel, rfl, by decide +kernel, by decide +kernel⟩
def F__law_refused_right (l_pen_here : D) : Tr D :=
  fin (bd (bd (.ok (.int 1)) fun v6 => (bd (bd (bd (.ok l_pen_here) fun v4 => (bd (bd (.ok (.int 9)) fun v2 => (bd (.ok []) fun r3 => .ok (v2 :: r3))) fun r5 => .ok (v4 :: r5))) (ul2 F_draw)) fun v7 => addD v6 v7)) fun l_size0 => (bd (bd (bd (bd (bd (.ok l_pen_here) fun v17 => (bd (bd (bd (bd (.ok (.int 1)) fun v13 => (bd (bd (.ok (.int 1)) fun v11 => (bd (bd (.ok (.int 0)) fun v9 => (bd (.ok []) fun r10 => .ok (v9 :: r10))) fun r12 => .ok (v11 :: r12))) fun r14 => .ok (v13 :: r14))) fun ds => if ds.length ≤ sizeLine then .ok (.tup ds) else .bad) fun v15 => (bd (.ok []) fun r16 => .ok (v15 :: r16))) fun r18 => .ok (v17 :: r18))) (ul2 F__law_part)) fun v19 => (bd (.ok []) fun r20 => .ok (v19 :: r20))) (ul1 F__law_stretch)) fun l_stretch_here7 => (bd (bd (bd (.ok l_pen_here) fun v42 => (bd (bd (bd (bd (.ok (.int 0)) fun v38 => (bd (bd (bd (.ok (.int 3)) negD) fun v36 => (bd (bd (.ok .non) fun v34 => (bd (bd (.ok (.bl true)) fun v32 => (bd (bd (.ok (.str "5")) fun v30 => (bd (bd (bd (bd (.ok (.int 5)) fun v22 => (bd (.ok []) fun r23 => .ok (v22 :: r23))) fun ds => if ds.length ≤ sizeLine then .ok (.lst ds) else .bad) fun v28 => (bd (bd (bd (.ok (.int 10000000000000000000000000000000000000000)) fun v24 => (bd (.ok (.int 1)) fun v25 => addD v24 v25)) fun v26 => (bd (.ok []) fun r27 => .ok (v26 :: r27))) fun r29 => .ok (v28 :: r29))) fun r31 => .ok (v30 :: r31))) fun r33 => .ok (v32 :: r33))) fun r35 => .ok (v34 :: r35))) fun r37 => .ok (v36 :: r37))) fun r39 => .ok (v38 :: r39))) fun ds => if ds.length ≤ sizeLine then .ok (.lst ds) else .bad) fun v40 => (bd (.ok []) fun r41 => .ok (v40 :: r41))) fun r43 => .ok (v42 :: r43))) (ul2 F__law_pick)) fun l_odd20 => (bdF (W' := Unit) (bd (bd (bd (bd (bd (nox (F__law_heard (bd (.ok l_stretch_here7) fun o58 => (isO "Stretch" o58 fun fs => if fs.lookup ("to" : Str) = none then bd (bd (.ok l_odd20) fun v56 => (bd (bd (bd (bd (.ok l_pen_here) fun v52 => (bd (bd (bd (bd (.ok (.int 0)) fun v48 => (bd (bd (bd (.ok (.int 1)) negD) fun v46 => (bd (bd (.ok .non) fun v44 => (bd (.ok []) fun r45 => .ok (v44 :: r45))) fun r47 => .ok (v46 :: r47))) fun r49 => .ok (v48 :: r49))) fun ds => if ds.length ≤ sizeLine then .ok (.lst ds) else .bad) fun v50 => (bd (.ok []) fun r51 => .ok (v50 :: r51))) fun r53 => .ok (v52 :: r53))) (ul2 F__law_pick)) fun v54 => (bd (.ok []) fun r55 => .ok (v54 :: r55))) fun r57 => .ok (v56 :: r57))) fun ds => (ul3 F_Stretch_to) (o58 :: ds) else .bad)))) fun v59 => (bd (.ok []) fun r60 => .ok (v59 :: r60))) (ul1 reprD)) fun v67 => (bd (bd (bd (bd (bd (.ok (.str "length")) fun v63 => (bd (bd (.ok l_odd20) fun v61 => (bd (.ok []) fun r62 => .ok (v61 :: r62))) fun r64 => .ok (v63 :: r64))) fun ds => if ds.length ≤ sizeLine then .ok (.lst ds) else .bad) fun v65 => (bd (.ok []) fun r66 => .ok (v65 :: r66))) (ul1 reprD)) fun v68 => neD v67 v68)) asB) fun k => if k = true then (bd (.ok (.bl false)) fun d => .ok (.rt d)) else (.ok (.nx ()))) fun (w69 : Unit) => (bd (bd (bd (.ok l_pen_here) fun v95 => (bd (bd (bd (bd (.ok l_size0) fun v91 => (bd (bd (bd (.ok (.int 1)) negD) fun v89 => (bd (bd (.ok .non) fun v87 => (bd (bd (.ok (.bl false)) fun v85 => (bd (bd (.ok (.str "0")) fun v83 => (bd (bd (bd (bd (.ok (.int 0)) fun v71 => (bd (.ok []) fun r72 => .ok (v71 :: r72))) fun ds => if ds.length ≤ sizeLine then .ok (.lst ds) else .bad) fun v81 => (bd (bd (bd (bd (.ok (.int 0)) fun v73 => (bd (.ok []) fun r74 => .ok (v73 :: r74))) fun ds => if ds.length ≤ sizeLine then .ok (.tup ds) else .bad) fun v79 => (bd (bd (bd (.ok l_size0) fun v75 => (bd (.ok (.int 100000000000000000000)) fun v76 => addD v75 v76)) fun v77 => (bd (.ok []) fun r78 => .ok (v77 :: r78))) fun r80 => .ok (v79 :: r80))) fun r82 => .ok (v81 :: r82))) fun r84 => .ok (v83 :: r84))) fun r86 => .ok (v85 :: r86))) fun r88 => .ok (v87 :: r88))) fun r90 => .ok (v89 :: r90))) fun r92 => .ok (v91 :: r92))) fun ds => if ds.length ≤ sizeLine then .ok (.lst ds) else .bad) fun v93 => (bd (.ok []) fun r94 => .ok (v93 :: r94))) fun r96 => .ok (v95 :: r96))) (ul2 F__law_pick)) fun l_odd69 => (bd (bd (bd (bd (nox (F__law_heard (bd (.ok l_stretch_here7) fun o101 => (isO "Stretch" o101 fun fs => if fs.lookup ("to" : Str) = none then bd (bd (.ok l_size0) fun v99 => (bd (bd (.ok l_odd69) fun v97 => (bd (.ok []) fun r98 => .ok (v97 :: r98))) fun r100 => .ok (v99 :: r100))) fun ds => (ul3 F_Stretch_to) (o101 :: ds) else .bad)))) fun v102 => (bd (.ok []) fun r103 => .ok (v102 :: r103))) (ul1 reprD)) fun v110 => (bd (bd (bd (bd (bd (.ok (.str "place")) fun v106 => (bd (bd (.ok l_odd69) fun v104 => (bd (.ok []) fun r105 => .ok (v104 :: r105))) fun r107 => .ok (v106 :: r107))) fun ds => if ds.length ≤ sizeLine then .ok (.lst ds) else .bad) fun v108 => (bd (.ok []) fun r109 => .ok (v108 :: r109))) (ul1 reprD)) fun v111 => eqD v110 v111)) fun d => .ok (.rt d)))))))
theorem ok__law_refused_right (F : FnA K d__law_refused_right fd) (T : Tx K mg) (G__law_draw : PromO P w K mg base CX0 1 (gd "_law_draw" K) [] (spF K Tb (ul2 F_draw))) (G__law_stretch : PromO P w K mg base CX0 5 (gd "_law_stretch" K) [] (spF K Tb (ul1 F__law_stretch))) (G__law_part : PromO P w K mg base CX0 3 (gd "_law_part" K) [] (spF K Tb (ul2 F__law_part))) (G__law_pick : PromO P w K mg base CX0 2 (gd "_law_pick" K) [] (spF K Tb (ul2 F__law_pick))) (GH__law_heard : HrdP K d__law_heard ["_law_ask"]) (LD__law_refused_right : LamD base mg K Tb d__law_refused_right ("_law_refused_right", none)) (G_Stretch_to : PromO P w K mg base (L2.CX P w) 7 (md "Stretch" "to" K) [] (spF K Tb (ul3 F_Stretch_to))) : FnG P w K mg base CX0 10 (d__law_refused_right.adr K) fd ["_law_pen_here"] (spF K Tb (ul1 F__law_refused_right)) := by
  obtain ⟨fdH, FH, hbH⟩ := GH__law_heard
  obtain ⟨ocH, odH, dVH, kVH, docH, pmH, anH, cdvH, ctH, oslH, rfl, lkH, hcH, _, _⟩ := FH.ex
  have ecode : fd.code = .ref (He.cT K ("_law_refused_right", none)).1 := codeOf_fn (p := ("_law_refused_right", none)) F
  refine fnG1 F sc__law_refused_right (fun vs H Q E h => spF_len len1 h) (fun cdv A outer s H vs Q E hcdv hr hg h => ?_)
  have hcode : cdv = .ref (He.cT K ("_law_refused_right", none)).1 := hcdv.trans ecode
  have hu100 := Nat.lt_of_le_of_lt (Nat.add_le_add_left (show 102 ≤ 16 * 9 + 200 by decide) _) (show _ + (16 * 9 + 200) < cLine from hr.un)
  refine ⟨_, (pss_cons (ps_set (i := 1) sc__law_refused_right.nd rfl (.inr rfl) (pe_op (op_addA (K := K) rfl) pe_int (pe_g (PromO.call G__law_draw (hr.mono (by decide)) (passA (E := E))) (by rfl) T.g__law_draw T.k__law_draw (pa_cons (pv 0) (pa_cons pe_int pa_nil)))))
      (pss_cons (ps_set (i := 2) sc__law_refused_right.nd rfl (.inr rfl) (pe_g (PromO.call G__law_stretch (hr.mono (by decide)) (passA (E := E))) (by rfl) T.g__law_stretch T.k__law_stretch (pa_cons (pe_g (PromO.call G__law_part (hr.mono (by decide)) (passA (E := E))) (by rfl) T.g__law_part T.k__law_part (pa_cons (pv 0) (pa_cons (pe_tup (pa_cons pe_int (pa_cons pe_int (pa_cons pe_int pa_nil)))) pa_nil))) pa_nil)))
      (pss_cons (ps_set (i := 3) sc__law_refused_right.nd rfl (.inr rfl) (pe_g (PromO.call G__law_pick (hr.mono (by decide)) (passA (E := E))) (by rfl) T.g__law_pick T.k__law_pick (pa_cons (pv 0) (pa_cons (pe_lst (pa_cons pe_int (pa_cons (pe_un un_neg pe_int) (pa_cons pe_non (pa_cons pe_bl (pa_cons pe_str (pa_cons (pe_lst (pa_cons pe_int pa_nil)) (pa_cons (pe_op (op_addA (K := K) rfl) (pe_op (op_powK 10000000000000000000000000000000000000000) pe_int pe_int) pe_int) pa_nil)))))))) pa_nil))))
      (pss_cons (ps_if (pt_cmpR (op_neA (K := K) rfl hr.units) (pe_callB (call_show (K := K) rfl hu100 hg) (by rfl) T.f_repr (by decide +kernel) (pa_cons (LamX.pe_lamcall (T := Tb) (k := 7) (by rfl) T.g__law_heard T.k__law_heard lkH hcH hbH sc__law_heard rfl (.inl rfl) (ok__law_heard (Tb := Tb) T) LD__law_refused_right.tb hcode LD__law_refused_right.mem LD__law_refused_right.hu (hr.mono (by decide)) (LamX.lamS_by (by show LamX.lamSB (defScope s__law_refused_right) _ = true; decide +kernel)) rfl (fun _ _ _ _ _ => rfl) (fun A outer s H E f c' hr => (pe_m (pv 2) T.cl_Stretch T.mt_Stretch_to (PromO.call G_Stretch_to (hr.mono (by decide)) (pass_on rfl rfl rfl rfl)) (pa_cons (pv 3) (pa_cons (pe_g (PromO.call G__law_pick (hr.mono (by decide)) (passA (E := E))) (by rfl) T.g__law_pick T.k__law_pick (pa_cons (pv 0) (pa_cons (pe_lst (pa_cons pe_int (pa_cons (pe_un un_neg pe_int) (pa_cons pe_non pa_nil)))) pa_nil))) pa_nil))))) pa_nil)) (pe_callB (call_show (K := K) rfl hu100 hg) (by rfl) T.f_repr (by decide +kernel) (pa_cons (pe_lst (pa_cons pe_str (pa_cons (pv 3) pa_nil))) pa_nil)) (nomark _))
      (pss_cons (ps_ret pe_bl) pss_nil) pss_nil)
      (pss_cons (ps_set (i := 3) sc__law_refused_right.nd rfl (.inr rfl) (pe_g (PromO.call G__law_pick (hr.mono (by decide)) (passA (E := E))) (by rfl) T.g__law_pick T.k__law_pick (pa_cons (pv 0) (pa_cons (pe_lst (pa_cons (pv 1) (pa_cons (pe_un un_neg pe_int) (pa_cons pe_non (pa_cons pe_bl (pa_cons pe_str (pa_cons (pe_lst (pa_cons pe_int pa_nil)) (pa_cons (pe_tup (pa_cons pe_int pa_nil)) (pa_cons (pe_op (op_addA (K := K) rfl) (pv 1) (pe_op (op_powK 100000000000000000000) pe_int pe_int)) pa_nil))))))))) pa_nil))))
      (pss_cons (ps_ret (pe_cmpR (op_eqA (K := K) rfl hr.units) (pe_callB (call_show (K := K) rfl hu100 hg) (by rfl) T.f_repr (by decide +kernel) (pa_cons (LamX.pe_lamcall (T := Tb) (k := 7) (by rfl) T.g__law_heard T.k__law_heard lkH hcH hbH sc__law_heard rfl (.inl rfl) (ok__law_heard (Tb := Tb) T) LD__law_refused_right.tb hcode LD__law_refused_right.mem LD__law_refused_right.hu (hr.mono (by decide)) (LamX.lamS_by (by show LamX.lamSB (defScope s__law_refused_right) _ = true; decide +kernel)) rfl (fun _ _ _ _ _ => rfl) (fun A outer s H E f c' hr => (pe_m (pv 2) T.cl_Stretch T.mt_Stretch_to (PromO.call G_Stretch_to (hr.mono (by decide)) (pass_on rfl rfl rfl rfl)) (pa_cons (pv 1) (pa_cons (pv 3) pa_nil))))) pa_nil)) (pe_callB (call_show (K := K) rfl hu100 hg) (by rfl) T.f_repr (by decide +kernel) (pa_cons (pe_lst (pa_cons pe_str (pa_cons (pv 3) pa_nil))) pa_nil)) (nomark _))) pss_nil)))))), ?_⟩
  exact fn_of1 (F := F__law_refused_right) (envU := fun _ => List.replicate 4 .no) h (fun l_pen_here => rfl) (fun p c l_pen_here => (ss_asg (se_op sr_add se_int (se_cl srl_sp0 (sa_cons se_var (sa_cons se_int sa_nil)))) (fun l_size0 => (ss_asg (se_cl srl_sp0 (sa_cons (se_cl srl_sp0 (sa_cons se_var (sa_cons (se_tup (sa_cons se_int (sa_cons se_int (sa_cons se_int sa_nil)))) sa_nil))) sa_nil)) (fun l_stretch_here7 => (ss_asg (se_cl srl_sp0 (sa_cons se_var (sa_cons (se_lst (sa_cons se_int (sa_cons (se_un sr_neg se_int) (sa_cons se_non (sa_cons se_bl (sa_cons (se_str (by decide)) (sa_cons (se_lst (sa_cons se_int sa_nil)) (sa_cons (se_op sr_add (se_powK (by decide) (by decide) (by decide)) se_int) sa_nil)))))))) sa_nil))) (fun l_odd20 => (ss_if (fun (w69 : Unit) => [.fz l_pen_here, .fz l_size0, .fz l_stretch_here7, .fz l_odd20]) (sb_tst (se_op sr_ne (se_cb srl_repr (sa_cons (se_lam fun E => (se_mt srl_sp0 se_var (sa_cons se_var (sa_cons (se_cl srl_sp0 (sa_cons se_var (sa_cons (se_lst (sa_cons se_int (sa_cons (se_un sr_neg se_int) (sa_cons se_non sa_nil)))) sa_nil))) sa_nil)))) sa_nil)) (se_cb srl_repr (sa_cons (se_lst (sa_cons (se_str (by decide)) (sa_cons se_var sa_nil))) sa_nil)))) (ss_ret se_bl) (ss_nx (.s (.s (.s (.s .nil))))) (fun (w69 : Unit) => (ss_asg (se_cl srl_sp0 (sa_cons se_var (sa_cons (se_lst (sa_cons se_var (sa_cons (se_un sr_neg se_int) (sa_cons se_non (sa_cons se_bl (sa_cons (se_str (by decide)) (sa_cons (se_lst (sa_cons se_int sa_nil)) (sa_cons (se_tup (sa_cons se_int sa_nil)) (sa_cons (se_op sr_add se_var (se_powK (by decide) (by decide) (by decide))) sa_nil))))))))) sa_nil))) (fun l_odd69 => (ss_ret (se_op sr_eq (se_cb srl_repr (sa_cons (se_lam fun E => (se_mt srl_sp0 se_var (sa_cons se_var (sa_cons se_var sa_nil)))) sa_nil)) (se_cb srl_repr (sa_cons (se_lst (sa_cons (se_str (by decide)) (sa_cons se_var sa_nil))) sa_nil)))))))))))))))
abbrev N_law : List Str := ["_law_script", "_law_pen_here", "_law_turn", "_law_again"]
theorem sc_law : FnScope N_law ["_law_script"] (defScope s_law) := ⟨rfl, rfl, rfl, by decide +kernel, rfl, by decide +kernel, by decide +kernel⟩
def F_law : Tr D :=
  fin (bdF (bd (bd (bd (.ok (.int 6)) fun v1 => (bd (.ok []) fun r2 => .ok (v1 :: r2))) (ul1 rg1)) fun ds => forF (fun (d4 : D) (w3 : Unit) => (bdF (bd (bd (bd (.ok (.int 3)) fun v6 => (bd (.ok []) fun r7 => .ok (v6 :: r7))) (ul1 rg1)) fun ds => forF (fun (d9 : D) (w8 : Unit) => (bdF (W' := Unit) (bd (bd (bd (bd (bd (bd (.ok .pen) fun v19 => (bd (bd (bd (.ok (.int 1)) fun v15 => (bd (bd (bd (.ok .pen) fun v13 => (bd (bd (.ok (.int 14)) fun v11 => (bd (.ok []) fun r12 => .ok (v11 :: r12))) fun r14 => .ok (v13 :: r14))) (ul2 F_draw)) fun v16 => addD v15 v16)) fun v17 => (bd (.ok []) fun r18 => .ok (v17 :: r18))) fun r20 => .ok (v19 :: r20))) (ul2 F__law_short_right)) asB) fun k => .ok (!k)) fun k => if k = true then .ok true else (bd (bd (bd (bd (.ok .pen) fun v21 => (bd (.ok []) fun r22 => .ok (v21 :: r22))) (ul1 F__law_great_right)) asB) fun k => .ok (!k))) fun k => if k = true then (bd (.ok (.bl false)) fun d => .ok (.rt d)) else (.ok (.nx ()))) fun (w23 : Unit) => (.ok (.nx ())))) ds ()) fun (w8 : Unit) => (bdF (W' := Unit) (bd (bd (bd (bd (bd (.ok .pen) fun v24 => (bd (.ok []) fun r25 => .ok (v24 :: r25))) (ul1 F__law_refused_right)) asB) fun k => .ok (!k)) fun k => if k = true then (bd (.ok (.bl false)) fun d => .ok (.rt d)) else (.ok (.nx ()))) fun (w26 : Unit) => (.ok (.nx ()))))) ds ()) fun (w3 : Unit) => (bd (.ok (.bl true)) fun d => .ok (.rt d)))
theorem ok_law (F : FnA K d_law fd) (T : Tx K mg) (hyes : Yes F_law) (G__law_pen : PromO P w K mg base CX0 1 (gd "_law_pen" K) [] (spPn K)) (G__law_short_right : PromO P w K mg base CX0 8 (gd "_law_short_right" K) [] (spF K Tb (ul2 F__law_short_right))) (G__law_draw : PromO P w K mg base CX0 1 (gd "_law_draw" K) [] (spF K Tb (ul2 F_draw))) (G__law_great_right : PromO P w K mg base CX0 8 (gd "_law_great_right" K) [] (spF K Tb (ul1 F__law_great_right))) (G__law_refused_right : Prom P w K mg base CX0 10 (gd "_law_refused_right" K) [] (spF K Tb (ul1 F__law_refused_right))) : FnG P w K mg base CX0 11 (d_law.adr K) fd ["_law_script"] (spLaw K Tb) := by
  refine fnG0 F sc_law (fun vs H Q E h => spLaw_len h) (fun cdv A outer s H vs Q E hr hg h => ?_)
  have hu100 := Nat.lt_of_le_of_lt (Nat.add_le_add_left (show 102 ≤ 16 * 10 + 200 by decide) _) (show _ + (16 * 10 + 200) < cLine from hr.un)
  refine ⟨_, pss_cons (ps_set (i := 1) sc_law.nd rfl (.inl rfl) (pe_g (PromO.call G__law_pen (hr.mono (by decide)) (passA (E := E))) (by rfl) T.g__law_pen T.k__law_pen (pa_cons (pv 0) pa_nil)))
      (pss_cons (ps_for PassesOwn.never rfl (pi_range1 (by rfl) T.f_range (pa_cons pe_int pa_nil)) (pg_name (i := 2) sc_law.nd rfl (.inl rfl))
      (pss_cons (ps_for PassesOwn.never rfl (pi_range1 (by rfl) T.f_range (pa_cons pe_int pa_nil)) (pg_name (i := 3) sc_law.nd rfl (.inl rfl))
      (pss_cons (ps_if (PW.pt (pw_or (pt_not (pt_val (pe_g (PromO.call G__law_short_right (hr.mono (by decide)) (passA (E := EF))) (by rfl) T.g__law_short_right T.k__law_short_right (pa_cons (pv 1) (pa_cons (pe_op (op_addA (K := K) rfl) pe_int (pe_g (PromO.call G__law_draw (hr.mono (by decide)) (passA (E := EF))) (by rfl) T.g__law_draw T.k__law_draw (pa_cons (pv 1) (pa_cons pe_int pa_nil)))) pa_nil))))) (pw_or1 (pt_not (pt_val (pe_g (PromO.call G__law_great_right (hr.mono (by decide)) (passA (E := EF))) (by rfl) T.g__law_great_right T.k__law_great_right (pa_cons (pv 1) pa_nil)))))))
      (pss_cons (ps_ret pe_bl) pss_nil) pss_nil)
      pss_nil))
      (pss_cons (ps_if (pt_not (pt_val (pe_g (Prom.call G__law_refused_right (hr.mono (by decide)) hg (passA (E := EF))) (by rfl) T.g__law_refused_right T.k__law_refused_right (pa_cons (pv 1) pa_nil))))
      (pss_cons (ps_ret pe_bl) pss_nil) pss_nil)
      pss_nil)))
      (pss_cons (ps_ret pe_bl) pss_nil)), ?_⟩
  exact law_of (N := N_law) (i := 1) (n := 3) (F := F_law) (envU := fun _ => List.replicate 4 .no) hyes h rfl (by decide) (by decide) rfl (fun p c => (ss_for (fun (w3 : Unit) => [.no, .fz .pen, .no, .no]) (si_rg1 (sa_cons se_int sa_nil)) (.s (.s (.s (.s .nil)))) (fun (d4 : D) (w3 : Unit) => (sx_name (ss_for (fun (w8 : Unit) => [.no, .fz .pen, .fz d4, .no]) (si_rg1 (sa_cons se_int sa_nil)) (.s (.s (.s (.s .nil)))) (fun (d9 : D) (w8 : Unit) => (sx_name (ss_if (fun (w23 : Unit) => [.no, .fz .pen, .fz d4, .fz d9]) (sb_or (sb_not (sb_tb (se_cl srl_sp0 (sa_cons se_var (sa_cons (se_op sr_add se_int (se_cl srl_sp0 (sa_cons se_var (sa_cons se_int sa_nil)))) sa_nil))))) (sb_not (sb_tb (se_cl srl_sp0 (sa_cons se_var sa_nil))))) (ss_ret se_bl) (ss_nx (.s (.s (.s (.s .nil))))) (fun (w23 : Unit) => (ss_nx (.s (.s (.s (.n .nil))))))))) (fun (w8 : Unit) => (ss_if (fun (w26 : Unit) => [.no, .fz .pen, .fz d4, .no]) (sb_not (sb_tb (se_cl srl_sp0 (sa_cons se_var sa_nil)))) (ss_ret se_bl) (ss_nx (.s (.s (.s (.s .nil))))) (fun (w26 : Unit) => (ss_nx (.s (.s (.n (.s .nil))))))))))) (fun (w3 : Unit) => (ss_ret se_bl))))
end
end Lw
end
section
set_option linter.all false
set_option maxRecDepth 100000
namespace Gp
open PySem
section
variable {α β γ : Type}
def Bo (P : α → Prop) : Tr α → Nat → Prop
  | .ok a, _ => P a
  | .ex _ _, _ => False
  | .bad, _ => False
  | .draw m k, n => ∃ n', n = n' + 1 ∧ 0 < m ∧ m < 10 ^ 100 ∧ ∀ d, 0 ≤ d → d < m → Bo P (k d) n'
theorem Bo.mono {P Q : α → Prop} (h : ∀ a, P a → Q a) : ∀ {m : Tr α} {n k : Nat}, n ≤ k → Bo P m n → Bo Q m k
  | .ok a, _, _, _, z => h a z
  | .ex _ _, _, _, _, z => z
  | .bad, _, _, _, z => z
  | .draw m f, n, k, l, ⟨n', e, h1, h2, h3⟩ => ⟨k - 1, by omega, h1, h2, fun d d0 d1 => Bo.mono h (m := f d) (n := n') (by omega) (h3 d d0 d1)⟩
theorem Bo.bd {P : α → Prop} {Q : β → Prop} {k : α → Tr β} {b : Nat} : ∀ {m : Tr α} {a : Nat}, Bo P m a → (∀ x, P x → Bo Q (k x) b) → Bo Q (bd m k) (a + b)
  | .ok x, a, h, hk => (hk x h).mono (fun _ z => z) (Nat.le_add_left _ _)
  | .ex _ _, _, h, _ => h
  | .bad, _, h, _ => h
  | .draw m f, a, ⟨n', e, h1, h2, h3⟩, hk => ⟨n' + b, by omega, h1, h2, fun d d0 d1 => Bo.bd (m := f d) (h3 d d0 d1) hk⟩
theorem Bo.al {P : α → Prop} {Q : α → Nat → Prop} {E : Str → Fs → Nat → Prop} (h : ∀ a b, P a → Q a b) : ∀ {m : Tr α} {n : Nat}, Bo P m n → Al Q E m n
  | .ok a, _, z => h a _ z
  | .ex _ _, _, z => z.elim
  | .bad, _, z => z
  | .draw m f, n, ⟨n', e, h1, h2, h3⟩ => ⟨n', e, h1, h2, fun d d0 d1 => Bo.al (m := f d) h (h3 d d0 d1)⟩
theorem Bo.yes {F : Tr D} {n : Nat} (hn : n ≤ 1000000) (h : Bo (fun d => d = .bl true) F n) : Yes F :=
  Bo.al (fun _ _ z => z) (h.mono (fun _ z => z) hn)
theorem bo_ok {P : α → Prop} {a : α} {n : Nat} (h : P a) : Bo P (.ok a) n := h
theorem bo_draw {P : α → Prop} {m : Int} {k : Int → Tr α} {n : Nat} (h1 : 0 < m) (h2 : m < 10 ^ 100) (h : ∀ d, 0 ≤ d → d < m → Bo P (k d) n) : Bo P (.draw m k) (n + 1) := ⟨n, rfl, h1, h2, h⟩
variable {W L : Type}
end
end Gp
end
section
set_option linter.all false
set_option maxRecDepth 100000
set_option maxHeartbeats 4000000
namespace Gp
open PySem
@[simp] theorem s_bd {α β : Type} (a : α) (k : α → Tr β) : bd (.ok a) k = k a := rfl
@[simp] theorem s_bdx {α β : Type} (c : Str) (fs : Fs) (k : α → Tr β) : bd (.ex c fs) k = .ex c fs := rfl
@[simp] theorem s_bdd {α β : Type} (m : Int) (f : Int → Tr α) (k : α → Tr β) : bd (.draw m f) k = .draw m fun d => bd (f d) k := rfl
@[simp] theorem s_nox {α : Type} (a : α) : nox (.ok a) = .ok a := rfl
@[simp] theorem s_bdF {W W' L : Type} (w : W') (k : W' → Tr (Fl W L)) : bdF (.ok (.nx w)) k = k w := rfl
@[simp] theorem s_bdFr {W W' L : Type} (d : D) (k : W' → Tr (Fl W L)) : bdF (.ok (.rt d)) k = .ok (.rt d) := rfl
@[simp] theorem s_finr (d : D) : fin (.ok (.rt d)) = .ok d := rfl
@[simp] theorem s_finn (w : Unit) : fin (.ok (.nx w)) = .ok .non := rfl
@[simp] theorem s_finI (fs : Fs) : finI (.ok (.nx fs)) = .ok fs := rfl
@[simp] theorem s_asB (b : Bool) : asB (.bl b) = .ok b := rfl
@[simp] theorem s_ul0 {α : Type} (k : Tr α) : ul0 k [] = k := rfl
@[simp] theorem s_ul1 {α : Type} (k : D → Tr α) (x : D) : ul1 k [x] = k x := rfl
@[simp] theorem s_ul2 {α : Type} (k : D → D → Tr α) (x y : D) : ul2 k [x, y] = k x y := rfl
@[simp] theorem s_ul3 {α : Type} (k : D → D → D → Tr α) (x y z : D) : ul3 k [x, y, z] = k x y z := rfl
@[simp] theorem s_ul4 {α : Type} (k : D → D → D → D → Tr α) (x y z w : D) : ul4 k [x, y, z, w] = k x y z w := rfl
@[simp] theorem s_isO {α : Type} (c : Str) (fs : Fs) (k : Fs → Tr α) : isO c (.obj c fs) k = k fs := by unfold isO; simp
@[simp] theorem s_lt (i j : Int) : ltD (.int i) (.int j) = .ok (.bl (decide (i < j))) := rfl
@[simp] theorem s_le (i j : Int) : leD (.int i) (.int j) = .ok (.bl (decide (i ≤ j))) := rfl
@[simp] theorem s_gt (i j : Int) : gtD (.int i) (.int j) = .ok (.bl (decide (j < i))) := rfl
@[simp] theorem s_ge (i j : Int) : geD (.int i) (.int j) = .ok (.bl (decide (j ≤ i))) := rfl
@[simp] theorem s_sub (i j : Int) : subD (.int i) (.int j) = .ok (.int (i - j)) := rfl
@[simp] theorem s_add (i j : Int) : addD (.int i) (.int j) = .ok (.int (i + j)) := rfl
@[simp] theorem s_neg (i : Int) : negD (.int i) = .ok (.int (-i)) := rfl
@[simp] theorem s_eq (i j : Int) : eqD (.int i) (.int j) = .ok (.bl (decide (i = j))) := rfl
@[simp] theorem s_eqs (i j : Str) : eqD (.str i) (.str j) = .ok (.bl (decide (i = j))) := rfl
@[simp] theorem s_eqb (i j : Bool) : eqD (.bl i) (.bl j) = .ok (.bl (decide (i = j))) := rfl
@[simp] theorem s_len (ds : List D) : lenD (.lst ds) = .ok (.int ds.length) := rfl
@[simp] theorem s_itl (ds : List D) : itD (.lst ds) = .ok ds := rfl
@[simp] theorem s_itt (ds : List D) : itD (.tup ds) = .ok ds := rfl
@[simp] theorem s_int (i : Int) : intD (.int i) = .ok (.int i) := rfl
@[simp] theorem s_intb (k : Bool) : intD (.bl k) = .ok (.int (if k = true then 1 else 0)) := rfl
@[simp] theorem s_abs (i : Int) : absD (.int i) = .ok (.int (if i < 0 then -i else i)) := rfl
@[simp] theorem s_opt {α : Type} (a : α) : opt (some a) = .ok a := rfl
theorem s_mod {i j : Int} (h : 0 < j) : modD (.int i) (.int j) = .ok (.int (i % j)) := if_pos h
@[simp] theorem s_mod2 (i : Int) : modD (.int i) (.int 2) = .ok (.int (i % 2)) := rfl
@[simp] theorem s_div2 (i : Int) : divD (.int i) (.int 2) = .ok (.int (i / 2)) := rfl
theorem s_mul {i j : Int} (h : (-(2 ^ 64) < i ∧ i < 2 ^ 64) ∨ (-(2 ^ 64) < j ∧ j < 2 ^ 64)) : mulD (.int i) (.int j) = .ok (.int (i * j)) := if_pos h
end Gp
namespace Gp
open PySem PyProof.Rows L2
theorem toPyL_ints : ∀ l : List Int, toPyL (l.map D.int) = some (l.map PyData.int)
  | [] => rfl
  | a :: r => by
    rw [List.map_cons]
    unfold toPyL
    rw [toPyL_ints r]
    rfl
theorem eqv_ints : ∀ l m : List Int, PyData.eqvAll (l.map PyData.int) (m.map PyData.int) = decide (l = m)
  | [], [] => by simp [PyData.eqvAll]
  | [], _ :: _ => by simp [PyData.eqvAll]
  | _ :: _, [] => by simp [PyData.eqvAll]
  | a :: r, b :: s => by
    simp only [List.map_cons, PyData.eqvAll, PyData.eqv, eqv_ints r s]
    by_cases h : a = b <;> by_cases h' : r = s <;> simp [h, h']
theorem canLayAll_ints : ∀ ns : List Int, PyData.canLayAll0 (ns.map PyData.int) = true
  | [] => rfl
  | _ :: r => by simp [PyData.canLayAll0, PyData.canLay0, canLayAll_ints r]
theorem depthAll_ints : ∀ ns : List Int, PyData.depthAll (ns.map PyData.int) = 0
  | [] => rfl
  | _ :: r => by simp [PyData.depthAll, PyData.depth, depthAll_ints r]
theorem shaped_ints (ns : List Int) : SeqAt.shaped (.list (ns.map PyData.int)) = true := by
  simp [SeqAt.shaped, PyData.canLay0, PyData.depth, canLayAll_ints, depthAll_ints]
theorem s_eq_ints (l m : List Int) : eqD (.lst (l.map D.int)) (.lst (m.map D.int)) = .ok (.bl (decide (l = m))) := by
  have e : ∀ l : List Int, toPy (.lst (l.map D.int)) = some (.list (l.map PyData.int)) := fun l => by
    unfold toPy
    rw [toPyL_ints]
    rfl
  have e2 : eqB (.lst (l.map D.int)) (.lst (m.map D.int)) = .ok (decide (l = m)) := by
    unfold eqB
    rw [show eqS (.lst (l.map D.int)) (.lst (m.map D.int)) = none from rfl]
    dsimp only
    rw [e l, e m]
    dsimp only
    rw [if_pos ⟨shaped_ints l, shaped_ints m⟩]
    unfold PyData.eqv
    rw [eqv_ints]
  unfold eqD
  rw [e2]
  rfl
@[simp] theorem s_find (m : Int) (f : Int → Tr (Fl Unit Empty)) : fin (.draw m f) = .draw m fun d => fin (f d) := rfl
@[simp] theorem s_bdFd {W W' L : Type} (m : Int) (f : Int → Tr (Fl W' L)) (k : W' → Tr (Fl W L)) : bdF (.draw m f) k = .draw m fun d => bdF (f d) k := rfl
theorem bd_ok_id {α : Type} (m : Tr α) : bd m .ok = m := by
  induction m with
  | draw m f ih => show Tr.draw m _ = _; congr 1; funext d; exact ih d
  | _ => rfl
@[simp] theorem s_bdbd {α β γ : Type} (m : Tr α) (k : α → Tr β) (l : β → Tr γ) : bd (bd m k) l = bd m fun a => bd (k a) l := bd_bd ..
@[simp] theorem s_finbd {α : Type} (m : Tr α) (k : α → Tr (Fl Unit Empty)) : fin (bd m k) = bd m fun a => fin (k a) := bd_bd ..
@[simp] theorem s_bdFbd {α W W' L : Type} (m : Tr α) (f : α → Tr (Fl W' L)) (k : W' → Tr (Fl W L)) : bdF (bd m f) k = bd m fun a => bdF (f a) k := bd_bd ..
@[simp] theorem s_finIbd {α : Type} (m : Tr α) (k : α → Tr (Fl Fs Empty)) : finI (bd m k) = bd m fun a => finI (k a) := bd_bd ..
@[simp] theorem s_bdok {α : Type} (m : Tr α) : bd m (fun a => .ok a) = m := bd_ok_id m
@[simp] theorem s_ne (i j : Int) : neD (.int i) (.int j) = .ok (.bl (!decide (i = j))) := rfl
@[simp] theorem s_nes (i j : Str) : neD (.str i) (.str j) = .ok (.bl (!decide (i = j))) := rfl
theorem s_ixL {ds : List D} {i : Int} {d : D} (h0 : 0 ≤ i) (h : ds[i.toNat]? = some d) : ixD (.lst ds) (.int i) = .ok d := by
  have hl := (List.getElem?_eq_some_iff.mp h).1
  have e : atI ds i = some d := by
    unfold atI ixN
    rw [if_pos h0, if_pos (by omega)]
    exact h
  unfold ixD
  dsimp only
  rw [e]
theorem s_ixT {ds : List D} {i : Int} {d : D} (h0 : 0 ≤ i) (h : ds[i.toNat]? = some d) : ixD (.tup ds) (.int i) = .ok d := by
  have hl := (List.getElem?_eq_some_iff.mp h).1
  have e : atI ds i = some d := by
    unfold atI ixN
    rw [if_pos h0, if_pos (by omega)]
    exact h
  unfold ixD
  dsimp only
  rw [e]
theorem bo_pick {P : D → Prop} {ds : List D} (h0 : 0 < ds.length) (h1 : ds.length ≤ 100000) (h : ∀ d ∈ ds, P d) : Bo P (.draw ds.length fun i => ixD (.lst ds) (.int i)) 1 := by
  refine bo_draw (n := 0) (by omega) (by omega) fun d d0 d1 => ?_
  have hl : d.toNat < ds.length := by omega
  rw [s_ixL d0 (List.getElem?_eq_getElem hl)]
  exact h _ (List.getElem_mem hl)
theorem rgD_map (n : Nat) : rgD 0 n = ((List.range n).map fun i : Nat => (i : Int)).map D.int := by
  unfold rgD
  rw [List.map_map]
  apply List.map_congr_left
  intro i _
  show D.int (0 + i) = D.int i
  rw [Int.zero_add]
end Gp
end
section
namespace Gp
def seatZ (n p : Int) : Int := if p % 2 = 0 then p / 2 else (n - (p + 1) / 2) % n
def placeZ (n s : Int) : Int := if 2 * s < n then 2 * s else 2 * (n - s) - 1
def behZ (n kind c s : Int) : Int :=
  if c % 2 = 0 then (if kind = 0 then (s + c / 2) % n else (s - c / 2) % n)
  else (if kind = 0 then (-(c + 1) / 2 - s) % n else ((c - 1) / 2 - s) % n)
theorem modn {x y n : Int} (k : Int) (h0 : 0 ≤ y) (h1 : y < n) (e : x = y + n * k) : x % n = y := by
  rw [e, Int.add_mul_emod_self_left]
  exact Int.emod_eq_of_lt h0 h1
theorem seatZ_rng {n p : Int} (h0 : 0 ≤ p) (h1 : p < n) : 0 ≤ seatZ n p ∧ seatZ n p < n := by
  unfold seatZ
  split
  · omega
  · exact ⟨Int.emod_nonneg _ (by omega), Int.emod_lt_of_pos _ (by omega)⟩
theorem seatZ_odd {n p : Int} (h0 : 0 ≤ p) (h1 : p < n) (h : p % 2 = 1) : seatZ n p = n - (p + 1) / 2 := by
  unfold seatZ
  rw [if_neg (by omega)]
  exact modn 0 (by omega) (by omega) (by omega)
theorem placeZ_rng {n s : Int} (h0 : 0 ≤ s) (h1 : s < n) : 0 ≤ placeZ n s ∧ placeZ n s < n := by
  unfold placeZ
  split <;> omega
theorem place_seat {n p : Int} (h0 : 0 ≤ p) (h1 : p < n) : placeZ n (seatZ n p) = p := by
  by_cases h : p % 2 = 0
  · unfold seatZ placeZ
    rw [if_pos h]
    split <;> omega
  · rw [seatZ_odd h0 h1 (by omega)]
    unfold placeZ
    split <;> omega
theorem seat_place {n s : Int} (h0 : 0 ≤ s) (h1 : s < n) : seatZ n (placeZ n s) = s := by
  unfold placeZ
  split
  · unfold seatZ
    rw [if_pos (by omega)]
    omega
  · rw [seatZ_odd (by omega) (by omega) (by omega)]
    omega
theorem behZ_rng {n kind c s : Int} (hn : 0 < n) : 0 ≤ behZ n kind c s ∧ behZ n kind c s < n := by
  unfold behZ
  split <;> split <;> exact ⟨Int.emod_nonneg _ (by omega), Int.emod_lt_of_pos _ hn⟩
theorem mod_eq {n x y k : Int} (e : x = y + n * k) : x % n = y % n := by
  rw [e, Int.add_mul_emod_self_left]
theorem mod_add_l {n x y : Int} : (x % n + y) % n = (x + y) % n := by
  rw [Int.emod_add_emod]
theorem mod_sub_l {n x y : Int} : (x % n - y) % n = (x - y) % n := by
  rw [Int.sub_eq_add_neg, Int.emod_add_emod, ← Int.sub_eq_add_neg]
theorem mod_sub_r {n x y : Int} : (y - x % n) % n = (y - x) % n := by
  rw [Int.sub_emod, Int.emod_emod_of_dvd _ (Int.dvd_refl n), ← Int.sub_emod]
theorem seatZ_ev {n p : Int} (h : p % 2 = 0) : seatZ n p = p / 2 := by
  unfold seatZ
  rw [if_pos h]
theorem behZ_ev {n kind c s : Int} (h : c % 2 = 0) : behZ n kind c s = if kind = 0 then (s + c / 2) % n else (s - c / 2) % n := by
  unfold behZ
  rw [if_pos h]
theorem behZ_od {n kind c s : Int} (h : c % 2 = 1) : behZ n kind c s = if kind = 0 then (-(c + 1) / 2 - s) % n else ((c - 1) / 2 - s) % n := by
  unfold behZ
  rw [if_neg (by omega)]
theorem beh_half {n kind p : Int} (h0 : 0 ≤ p) (h1 : p < n) (hk : kind = 0 ∨ kind = 1) : behZ n kind n (seatZ n p) = seatZ n (n - 1 - p) := by
  have hnn : (1 : Int) ≠ 0 := by decide
  by_cases hp : p % 2 = 0 <;> by_cases hn : n % 2 = 0
  · rw [seatZ_odd (p := n - 1 - p) (by omega) (by omega) (by omega), seatZ_ev hp, behZ_ev hn]
    rcases hk with rfl | rfl
    · rw [if_pos rfl]
      exact modn 0 (by omega) (by omega) (by omega)
    · rw [if_neg hnn]
      exact modn (-1) (by omega) (by omega) (by omega)
  · rw [seatZ_ev (p := n - 1 - p) (by omega), seatZ_ev hp, behZ_od (by omega)]
    rcases hk with rfl | rfl
    · rw [if_pos rfl]
      exact modn (-1) (by omega) (by omega) (by omega)
    · rw [if_neg hnn]
      exact modn 0 (by omega) (by omega) (by omega)
  · rw [seatZ_odd (p := p) (by omega) (by omega) (by omega), seatZ_ev (p := n - 1 - p) (by omega), behZ_ev hn]
    rcases hk with rfl | rfl
    · rw [if_pos rfl]
      exact modn 1 (by omega) (by omega) (by omega)
    · rw [if_neg hnn]
      exact modn 0 (by omega) (by omega) (by omega)
  · rw [seatZ_odd (p := p) (by omega) (by omega) (by omega), seatZ_odd (p := n - 1 - p) (by omega) (by omega) (by omega), behZ_od (by omega)]
    rcases hk with rfl | rfl
    · rw [if_pos rfl]
      exact modn (-2) (by omega) (by omega) (by omega)
    · rw [if_neg hnn]
      exact modn (-1) (by omega) (by omega) (by omega)
theorem beh_more {n kind c s : Int} : behZ n kind (2 * n + c) s = behZ n kind c s := by
  unfold behZ
  have e : (2 * n + c) % 2 = c % 2 := by omega
  rw [e]
  split
  · split
    · exact mod_eq (k := 1) (by omega)
    · exact mod_eq (k := -1) (by omega)
  · split
    · exact mod_eq (k := -1) (by omega)
    · exact mod_eq (k := 1) (by omega)
theorem beh_none {n kind s : Int} (h0 : 0 ≤ s) (h1 : s < n) : behZ n kind 0 s = s := by
  unfold behZ
  rw [if_pos (by decide)]
  split <;> exact modn 0 h0 h1 (by omega)
theorem beh_whole {n kind s : Int} (h0 : 0 ≤ s) (h1 : s < n) : behZ n kind (2 * n) s = s := by
  have := beh_more (n := n) (kind := kind) (c := 0) (s := s)
  rw [Int.add_zero] at this
  rw [this, beh_none h0 h1]
theorem beh_join {n kind a b s : Int} (hk : kind = 0 ∨ kind = 1) : behZ n ((kind + a) % 2) b (behZ n kind a s) = behZ n kind (a + b) s := by
  by_cases ha : a % 2 = 0 <;> by_cases hb : b % 2 = 0 <;> rcases hk with rfl | rfl
  all_goals unfold behZ
  · rw [if_pos ha, if_pos hb, if_pos (show (a + b) % 2 = 0 by omega), if_pos (show (0 + a) % 2 = 0 by omega), if_pos rfl, if_pos rfl, mod_add_l]
    congr 1; omega
  · rw [if_pos ha, if_pos hb, if_pos (show (a + b) % 2 = 0 by omega), if_neg (show ¬ (1 + a) % 2 = 0 by omega), if_neg (by decide), if_neg (by decide), mod_sub_l]
    congr 1; omega
  · rw [if_pos ha, if_neg hb, if_neg (show ¬ (a + b) % 2 = 0 by omega), if_pos (show (0 + a) % 2 = 0 by omega), if_pos rfl, if_pos rfl, mod_sub_r]
    congr 1; omega
  · rw [if_pos ha, if_neg hb, if_neg (show ¬ (a + b) % 2 = 0 by omega), if_neg (show ¬ (1 + a) % 2 = 0 by omega), if_neg (by decide), if_neg (by decide), mod_sub_r]
    congr 1; omega
  · rw [if_neg ha, if_pos hb, if_neg (show ¬ (a + b) % 2 = 0 by omega), if_neg (show ¬ (0 + a) % 2 = 0 by omega), if_pos rfl, if_pos rfl, mod_sub_l]
    congr 1; omega
  · rw [if_neg ha, if_pos hb, if_neg (show ¬ (a + b) % 2 = 0 by omega), if_pos (show (1 + a) % 2 = 0 by omega), if_neg (by decide), if_neg (by decide), mod_add_l]
    congr 1; omega
  · rw [if_neg ha, if_neg hb, if_pos (show (a + b) % 2 = 0 by omega), if_neg (show ¬ (0 + a) % 2 = 0 by omega), if_pos rfl, if_pos rfl, mod_sub_r]
    congr 1; omega
  · rw [if_neg ha, if_neg hb, if_pos (show (a + b) % 2 = 0 by omega), if_pos (show (1 + a) % 2 = 0 by omega), if_neg (by decide), if_neg (by decide), mod_sub_r]
    congr 1; omega
end Gp
end
section
set_option linter.all false
set_option maxRecDepth 100000
set_option maxHeartbeats 400000
namespace Gp
def runZ (bk : Bool) (lo hi p : Int) : Int :=
  let f := if bk = true then lo + (hi - lo + 1) % 2 else lo
  let q := if (p - f) % 2 = 0 then p + 1 else p - 1
  if f ≤ q ∧ q ≤ hi then q else p
def runsL (b : Int) : List Int → Int → List (Int × Int)
  | [], n => if b < n then [(b, n - 1)] else []
  | t :: ts, n => (if b < t then [(b, t - 1)] else []) ++ runsL (t + 1) ts n
def ledL (bk : Bool) (p : Int) : List (Int × Int) → Int
  | [] => p
  | (b, l) :: r => if b ≤ p ∧ p ≤ l then runZ bk b l p else ledL bk p r
def movZ (bk : Bool) (lo hi p : Int) : Int :=
  let far := if bk = true then hi - p else p - lo
  let al : Int := if bk = true then -1 else 1
  let q := if far % 2 = 0 then p + al else p - al
  if lo ≤ q ∧ q ≤ hi then q else p
theorem run_mov {bk : Bool} {lo hi p : Int} (h0 : lo ≤ p) (h1 : p ≤ hi) : runZ bk lo hi p = movZ bk lo hi p := by
  unfold runZ movZ
  cases bk
  · simp only [Bool.false_eq_true, if_false]
  · simp only [if_true]
    by_cases h : (hi - p) % 2 = 0
    · have e : ¬ (p - (lo + (hi - lo + 1) % 2)) % 2 = 0 := by omega
      rw [if_neg e, if_pos h]
      by_cases q : lo ≤ p - 1
      · rw [if_pos (show lo + (hi - lo + 1) % 2 ≤ p - 1 ∧ p - 1 ≤ hi by omega), if_pos (show lo ≤ p + -1 ∧ p + -1 ≤ hi by omega)]
        omega
      · rw [if_neg (show ¬ (lo + (hi - lo + 1) % 2 ≤ p - 1 ∧ p - 1 ≤ hi) by omega), if_neg (show ¬ (lo ≤ p + -1 ∧ p + -1 ≤ hi) by omega)]
    · have e : (p - (lo + (hi - lo + 1) % 2)) % 2 = 0 := by omega
      rw [if_pos e, if_neg h]
      have e2 : p - -1 = p + 1 := by omega
      rw [e2]
      rw [if_pos (show lo + (hi - lo + 1) % 2 ≤ p + 1 ∧ p + 1 ≤ hi by omega), if_pos (show lo ≤ p + 1 ∧ p + 1 ≤ hi by omega)]
theorem within {lo hi p q : Int} (h0 : lo ≤ p) (h1 : p ≤ hi) : lo ≤ (if lo ≤ q ∧ q ≤ hi then q else p) ∧ (if lo ≤ q ∧ q ≤ hi then q else p) ≤ hi := by
  by_cases h : lo ≤ q ∧ q ≤ hi
  · rw [if_pos h]
    exact h
  · rw [if_neg h]
    exact ⟨h0, h1⟩
theorem movZ_rng {bk : Bool} {lo hi p : Int} (h0 : lo ≤ p) (h1 : p ≤ hi) : lo ≤ movZ bk lo hi p ∧ movZ bk lo hi p ≤ hi := within h0 h1
theorem movZ_inv {bk : Bool} {lo hi p : Int} (h0 : lo ≤ p) (h1 : p ≤ hi) : movZ bk lo hi (movZ bk lo hi p) = p := by
  unfold movZ
  cases bk
  · simp only [Bool.false_eq_true, if_false]
    by_cases h : (p - lo) % 2 = 0
    · rw [if_pos h]
      by_cases q : lo ≤ p + 1 ∧ p + 1 ≤ hi
      · rw [if_pos q, if_neg (show ¬ (p + 1 - lo) % 2 = 0 by omega), if_pos (by omega)]
        omega
      · rw [if_neg q, if_pos h, if_neg q]
    · rw [if_neg h, if_pos (show lo ≤ p - 1 ∧ p - 1 ≤ hi by omega), if_pos (show (p - 1 - lo) % 2 = 0 by omega), if_pos (by omega)]
      omega
  · simp only [if_true]
    by_cases h : (hi - p) % 2 = 0
    · rw [if_pos h]
      by_cases q : lo ≤ p + -1 ∧ p + -1 ≤ hi
      · rw [if_pos q, if_neg (show ¬ (hi - (p + -1)) % 2 = 0 by omega), if_pos (by omega)]
        omega
      · rw [if_neg q, if_pos h, if_neg q]
    · rw [if_neg h, if_pos (show lo ≤ p - -1 ∧ p - -1 ≤ hi by omega), if_pos (show (hi - (p - -1)) % 2 = 0 by omega), if_pos (by omega)]
      omega
structure Near (ts : List Int) (lo0 hi0 p lo hi : Int) : Prop where
  l0 : lo0 ≤ lo
  l1 : lo ≤ p
  l2 : lo = lo0 ∨ lo - 1 ∈ ts
  h0 : hi ≤ hi0
  h1 : p ≤ hi
  h2 : hi = hi0 ∨ hi + 1 ∈ ts
  no : ∀ t ∈ ts, t < lo ∨ hi < t
theorem Near.uniq {ts : List Int} {lo0 hi0 p a b c d : Int} (hx : Near ts lo0 hi0 p a b) (hy : Near ts lo0 hi0 p c d) : a = c ∧ b = d := by
  obtain ⟨x1, x2, x3, x4, x5, x6, x7⟩ := hx
  obtain ⟨y1, y2, y3, y4, y5, y6, y7⟩ := hy
  constructor
  · rcases x3 with x3 | x3
    · rcases y3 with y3 | y3
      · omega
      · have := x7 _ y3
        omega
    · have := y7 _ x3
      rcases y3 with y3 | y3
      · omega
      · have := x7 _ y3
        omega
  · rcases x6 with x6 | x6
    · rcases y6 with y6 | y6
      · omega
      · have := x7 _ y6
        omega
    · have := y7 _ x6
      rcases y6 with y6 | y6
      · omega
      · have := x7 _ y6
        omega
theorem led_runs {bk : Bool} {p n : Int} : ∀ {ts : List Int} {b : Int}, ts.Pairwise (· < ·) → (∀ t ∈ ts, b ≤ t ∧ t < n) → b ≤ p → p < n →
    (p ∈ ts → ledL bk p (runsL b ts n) = p) ∧ (p ∉ ts → ∃ lo hi, Near ts b (n - 1) p lo hi ∧ ledL bk p (runsL b ts n) = movZ bk lo hi p)
  | [], b, _, _, h0, h1 => by
    refine ⟨fun h => absurd h (by simp), fun _ => ⟨b, n - 1, ⟨Int.le_refl _, h0, .inl rfl, Int.le_refl _, by omega, .inl rfl, fun t h => absurd h (by simp)⟩, ?_⟩⟩
    unfold runsL
    rw [if_pos (by omega)]
    unfold ledL
    rw [if_pos ⟨h0, by omega⟩, run_mov h0 (by omega)]
  | t :: ts, b, hs, hb, h0, h1 => by
    obtain ⟨s1, s2⟩ := List.pairwise_cons.mp hs
    have ht := hb t List.mem_cons_self
    by_cases hlt : p < t
    · -- in the run ahead of t
      refine ⟨fun h => ?_, fun _ => ⟨b, t - 1, ⟨Int.le_refl _, h0, .inl rfl, by omega, by omega, .inr (by rw [show t - 1 + 1 = t by omega]; exact List.mem_cons_self), fun x hx => ?_⟩, ?_⟩⟩
      · rcases List.mem_cons.mp h with e | e
        · omega
        · have := s1 p e
          omega
      · rcases List.mem_cons.mp hx with rfl | hx
        · omega
        · have := s1 x hx
          omega
      · unfold runsL
        rw [if_pos (by omega), List.singleton_append]
        unfold ledL
        rw [if_pos ⟨h0, by omega⟩, run_mov h0 (by omega)]
    · have skip : ledL bk p (runsL b (t :: ts) n) = ledL bk p (runsL (t + 1) ts n) := by
        show ledL bk p ((if b < t then [(b, t - 1)] else []) ++ runsL (t + 1) ts n) = _
        split
        · rw [List.singleton_append]
          show (if b ≤ p ∧ p ≤ t - 1 then _ else _) = _
          rw [if_neg (by omega)]
        · rfl
      rw [skip]
      by_cases he : p = t
      · subst he
        refine ⟨fun _ => ?_, fun h => absurd List.mem_cons_self h⟩
        have low : ∀ (ts : List Int) (b : Int), p < b → (∀ t ∈ ts, b ≤ t) → ts.Pairwise (· < ·) → ledL bk p (runsL b ts n) = p := by
          intro ts
          induction ts with
          | nil =>
            intro b hb _ _
            unfold runsL
            split
            · unfold ledL
              rw [if_neg (by omega)]
              rfl
            · rfl
          | cons u us ih =>
            intro b hb hu hp
            obtain ⟨p1, p2⟩ := List.pairwise_cons.mp hp
            have hu0 := hu u List.mem_cons_self
            have e := ih (u + 1) (by omega) (fun x hx => by have := p1 x hx; omega) p2
            show ledL bk p ((if b < u then [(b, u - 1)] else []) ++ runsL (u + 1) us n) = p
            split
            · rw [List.singleton_append]
              show (if b ≤ p ∧ p ≤ u - 1 then _ else ledL bk p (runsL (u + 1) us n)) = p
              rw [if_neg (by omega), e]
            · exact e
        exact low ts (p + 1) (by omega) (fun x hx => by have := s1 x hx; omega) s2
      · obtain ⟨k1, k2⟩ := led_runs (bk := bk) (p := p) (n := n) (b := t + 1) s2 (fun x hx => ⟨by have := s1 x hx; omega, (hb x (List.mem_cons_of_mem _ hx)).2⟩) (by omega) h1
        refine ⟨fun h => ?_, fun h => ?_⟩
        · rcases List.mem_cons.mp h with e | e
          · exact absurd e he
          · exact k1 e
        · obtain ⟨lo, hi, ⟨y1, y2, y3, y4, y5, y6, y7⟩, e⟩ := k2 fun z => h (List.mem_cons_of_mem _ z)
          refine ⟨lo, hi, ⟨by omega, y2, ?_, y4, y5, ?_, fun x hx => ?_⟩, e⟩
          · rcases y3 with y3 | y3
            · exact .inr (by rw [y3, show t + 1 - 1 = t by omega]; exact List.mem_cons_self)
            · exact .inr (List.mem_cons_of_mem _ y3)
          · rcases y6 with y6 | y6
            · exact .inl y6
            · exact .inr (List.mem_cons_of_mem _ y6)
          · rcases List.mem_cons.mp hx with rfl | hx
            · omega
            · exact y7 x hx
end Gp
end
section
set_option linter.all false
set_option maxRecDepth 100000
set_option maxHeartbeats 400000
namespace Gp
def plainL (kd : Int) (bk : Bool) (n : Int) : List Int := if kd = 1 then [if bk = true then n - 1 else 0] else []
def plainZ (bk : Bool) (n kd p : Int) : Int := ledL bk p (runsL 0 (plainL kd bk n) n)
def flipZ (bk : Bool) (n kd : Int) : Int := if bk = true ∧ n % 2 = 1 then 1 - kd else kd
theorem beh1_0 {n s : Int} (h0 : 0 ≤ s) (h1 : s < n) : behZ n 0 1 s = n - 1 - s := by
  rw [behZ_od (by decide), if_pos rfl]
  exact modn (-1) (by omega) (by omega) (by omega)
theorem beh1_1 {n s : Int} (h0 : 0 ≤ s) (h1 : s < n) : behZ n 1 1 s = if s = 0 then 0 else n - s := by
  rw [behZ_od (by decide), if_neg (by decide)]
  split
  · exact modn 0 (by omega) (by omega) (by omega)
  · exact modn (-1) (by omega) (by omega) (by omega)
theorem front0 {n p : Int} (h0 : 0 ≤ p) (h1 : p < n) : placeZ n (behZ n 0 1 (seatZ n p)) = if p % 2 = 0 then (if p + 1 < n then p + 1 else p) else p - 1 := by
  have r := seatZ_rng h0 h1
  rw [beh1_0 r.1 r.2]
  unfold placeZ
  by_cases hp : p % 2 = 0
  · rw [seatZ_ev hp, if_pos hp]
    split <;> split <;> omega
  · rw [seatZ_odd h0 h1 (by omega), if_neg hp]
    split <;> omega
theorem front1 {n p : Int} (h0 : 0 ≤ p) (h1 : p < n) : placeZ n (behZ n 1 1 (seatZ n p)) = if p = 0 then 0 else if p % 2 = 0 then p - 1 else (if p + 1 < n then p + 1 else p) := by
  have r := seatZ_rng h0 h1
  rw [beh1_1 r.1 r.2]
  unfold placeZ
  by_cases hp : p % 2 = 0
  · rw [seatZ_ev hp]
    by_cases hz : p = 0
    · subst hz
      rw [if_pos (show (0 : Int) / 2 = 0 by decide), if_pos rfl, if_pos (by omega)]
      rfl
    · rw [if_neg (show ¬ p / 2 = 0 by omega), if_neg hz, if_pos hp]
      split <;> omega
  · rw [seatZ_odd h0 h1 (by omega), if_neg (show ¬ n - (p + 1) / 2 = 0 by omega), if_neg (show ¬ p = 0 by omega), if_neg hp]
    split <;> split <;> omega
theorem runs_nil {n : Int} (h : 0 < n) : runsL 0 [] n = [(0, n - 1)] := if_pos h
theorem plain_mov0 {bk : Bool} {n p : Int} (h0 : 0 ≤ p) (h1 : p < n) : plainZ bk n 0 p = movZ bk 0 (n - 1) p := by
  unfold plainZ plainL
  rw [if_neg (by decide), runs_nil (by omega)]
  unfold ledL
  rw [if_pos ⟨h0, by omega⟩, run_mov h0 (by omega)]
theorem plain_mov1f {n p : Int} (h0 : 0 ≤ p) (h1 : p < n) : plainZ false n 1 p = if p = 0 then 0 else movZ false 1 (n - 1) p := by
  have e : runsL 0 (plainL 1 false n) n = if 1 < n then [(1, n - 1)] else [] := rfl
  unfold plainZ
  rw [e]
  by_cases hn : 1 < n
  · rw [if_pos hn]
    unfold ledL
    by_cases hp : p = 0
    · rw [if_neg (by omega), if_pos hp, hp]
      rfl
    · rw [if_pos (by omega), if_neg hp, run_mov (by omega) (by omega)]
  · rw [if_neg hn, if_pos (show p = 0 by omega)]
    show p = 0
    omega
theorem plain_mov1b {n p : Int} (h0 : 0 ≤ p) (h1 : p < n) : plainZ true n 1 p = if p = n - 1 then n - 1 else movZ true 0 (n - 2) p := by
  have e : runsL 0 (plainL 1 true n) n = (if 0 < n - 1 then [(0, n - 1 - 1)] else []) ++ (if n - 1 + 1 < n then [(n - 1 + 1, n - 1)] else []) := rfl
  unfold plainZ
  rw [e, if_neg (show ¬ n - 1 + 1 < n by omega), List.append_nil]
  by_cases hn : 0 < n - 1
  · rw [if_pos hn]
    unfold ledL
    by_cases hp : p = n - 1
    · rw [if_neg (by omega), if_pos hp, hp]
      rfl
    · rw [if_pos (by omega), if_neg hp, run_mov (by omega) (by omega), show n - 1 - 1 = n - 2 by omega]
  · rw [if_neg hn, if_pos (show p = n - 1 by omega)]
    show p = n - 1
    omega
theorem plain_beh {bk : Bool} {n p kd : Int} (h0 : 0 ≤ p) (h1 : p < n) (hk : kd = 0 ∨ kd = 1) : plainZ bk n kd p = placeZ n (behZ n (flipZ bk n kd) 1 (seatZ n p)) := by
  unfold flipZ
  cases bk
  · simp only [Bool.false_eq_true, false_and, if_false]
    rcases hk with rfl | rfl
    · rw [plain_mov0 h0 h1, front0 h0 h1]
      unfold movZ
      simp only [Bool.false_eq_true, if_false, Int.sub_zero]
      split <;> split <;> first | omega | (split <;> omega)
    · rw [plain_mov1f h0 h1, front1 h0 h1]
      unfold movZ
      simp only [Bool.false_eq_true, if_false]
      by_cases hz : p = 0
      · rw [if_pos hz, if_pos hz]
      · rw [if_neg hz, if_neg hz]
        split <;> split <;> split <;> first | omega | (split <;> omega)
  · simp only [true_and]
    by_cases hn : n % 2 = 1
    · rw [if_pos hn]
      rcases hk with rfl | rfl
      · rw [plain_mov0 h0 h1, show (1 : Int) - 0 = 1 by decide, front1 h0 h1]
        unfold movZ
        simp only [if_true]
        by_cases hz : p = 0
        · rw [if_pos hz]
          split <;> split <;> omega
        · rw [if_neg hz]
          split <;> split <;> split <;> first | omega | (split <;> omega)
      · rw [plain_mov1b h0 h1, show (1 : Int) - 1 = 0 by decide, front0 h0 h1]
        unfold movZ
        simp only [if_true]
        by_cases hz : p = n - 1
        · rw [if_pos hz]
          split <;> first | omega | (split <;> omega)
        · rw [if_neg hz]
          split <;> split <;> split <;> first | omega | (split <;> omega)
    · rw [if_neg hn]
      rcases hk with rfl | rfl
      · rw [plain_mov0 h0 h1, front0 h0 h1]
        unfold movZ
        simp only [if_true]
        split <;> split <;> split <;> first | omega | (split <;> omega)
      · rw [plain_mov1b h0 h1, front1 h0 h1]
        unfold movZ
        simp only [if_true]
        by_cases hz : p = n - 1
        · rw [if_pos hz]
          split <;> first | omega | (split <;> first | omega | (split <;> omega))
        · rw [if_neg hz]
          split <;> split <;> split <;> first | omega | (split <;> first | omega | (split <;> omega))
theorem flip01 {bk : Bool} {n kd : Int} (hk : kd = 0 ∨ kd = 1) : flipZ bk n kd = 0 ∨ flipZ bk n kd = 1 := by
  unfold flipZ
  split <;> omega
theorem flip_add {bk : Bool} {n b k : Int} (hb : b = 0 ∨ b = 1) : flipZ bk n ((b + k) % 2) = (flipZ bk n b + k) % 2 := by
  unfold flipZ
  split <;> omega
theorem plainZ_rng {bk : Bool} {n p kd : Int} (h0 : 0 ≤ p) (h1 : p < n) (hk : kd = 0 ∨ kd = 1) : 0 ≤ plainZ bk n kd p ∧ plainZ bk n kd p < n := by
  rw [plain_beh h0 h1 hk]
  exact placeZ_rng (behZ_rng (by omega)).1 (behZ_rng (by omega)).2
theorem plain_fold {bk : Bool} {n b : Int} : ∀ (m j : Nat) {p : Int}, 0 ≤ p → p < n →
    (List.range' j m).foldl (fun (p : Int) (k : Nat) => plainZ bk n ((b + k) % 2) p) p = placeZ n (behZ n (flipZ bk n ((b + j) % 2)) m (seatZ n p))
  | 0, j, p, h0, h1 => by
    have r := seatZ_rng h0 h1
    rw [List.range'_zero, List.foldl_nil]
    show p = placeZ n (behZ n _ 0 _)
    rw [beh_none r.1 r.2, place_seat h0 h1]
  | m + 1, j, p, h0, h1 => by
    have hk : (b + j) % 2 = 0 ∨ (b + j) % 2 = 1 := by omega
    have r := plainZ_rng (bk := bk) h0 h1 hk
    rw [List.range'_succ, List.foldl_cons, plain_fold m (j + 1) r.1 r.2, plain_beh h0 h1 hk, seat_place (behZ_rng (by omega)).1 (behZ_rng (by omega)).2]
    have e : (b + ((j + 1 : Nat) : Int)) % 2 = ((b + j) % 2 + 1) % 2 := by omega
    rw [e, flip_add hk, beh_join (flip01 hk)]
    congr 2
    omega
theorem beh_turns {n kd t p : Int} (h0 : 0 ≤ p) (h1 : p < n) (hk : kd = 0 ∨ kd = 1) (ht : t = 1 ∨ t = 2 ∨ t = 3 ∨ t = 4) : behZ n kd (t * n) (seatZ n p) = seatZ n (if t % 2 = 0 then p else n - 1 - p) := by
  have r := seatZ_rng h0 h1
  have w := beh_whole (kind := kd) r.1 r.2
  rcases ht with rfl | rfl | rfl | rfl
  · rw [if_neg (by decide), Int.one_mul, beh_half h0 h1 hk]
  · rw [if_pos (by decide), w]
  · rw [if_neg (by decide), show 3 * n = 2 * n + n by omega, beh_more, beh_half h0 h1 hk]
  · rw [if_pos (by decide), show 4 * n = 2 * n + 2 * n by omega, beh_more, w]
end Gp
end
section
set_option linter.all false
set_option maxRecDepth 100000
set_option maxHeartbeats 400000
namespace Gp
open PySem PyProof.Rows L2 Gh
structure Sh (d : D) (n b : Nat) : Prop where
  ex : ∃ e, toPy d = some e ∧ Fn e n b
structure ShL (ds : List D) (n b : Nat) : Prop where
  ex : ∃ es, toPyL ds = some es ∧ FnAll es n b
theorem Sh.le {d : D} {n b n' b' : Nat} (h : Sh d n b) (h1 : n ≤ n') (h2 : b ≤ b') : Sh d n' b' := by
  obtain ⟨e, h3, h4⟩ := h.ex
  exact ⟨e, h3, h4.le h1 h2⟩
theorem Sh.int {i : Int} (h1 : -(10 ^ 100) < i) (h2 : i < 10 ^ 100) : Sh (.int i) 0 0 := ⟨_, rfl, .int h1 h2⟩
theorem Sh.bl (b : Bool) : Sh (.bl b) 0 0 := ⟨_, rfl, .bool b⟩
theorem Sh.non : Sh .non 0 0 := ⟨_, rfl, .none⟩
theorem Sh.str {x : Str} (h0 : (PyData.str x).canLay0 = true) (h : (x.cps.toList.all fun c => decide (c < 16 ^ 8)) = true) : Sh (.str x) 0 x.cps.size := ⟨_, rfl, .str h0 h⟩
theorem ShL.nil {n b : Nat} : ShL [] n b := ⟨_, rfl, .nil⟩
theorem ShL.cons {d : D} {ds : List D} {n b c : Nat} (h : Sh d n b) (k : ShL ds n c) : ShL (d :: ds) n (b + 1 + c) := by
  obtain ⟨e, h3, h4⟩ := h.ex
  obtain ⟨es, h5, h6⟩ := k.ex
  refine ⟨e :: es, ?_, .cons h4 h6⟩
  unfold toPyL
  rw [h3, h5]
theorem ShL.each {n b : Nat} : ∀ {ds : List D}, (∀ d ∈ ds, Sh d n b) → ShL ds n ((b + 1) * ds.length)
  | [], _ => ShL.nil
  | d :: r, h => by
    have z := ShL.cons (h d List.mem_cons_self) (ShL.each fun e he => h e (List.mem_cons_of_mem _ he))
    have e : b + 1 + (b + 1) * r.length = (b + 1) * (d :: r).length := by
      rw [List.length_cons, Nat.mul_add, Nat.mul_one, Nat.add_comm]
    rw [e] at z
    exact z
theorem ShL.ints {ns : List Int} (h : ∀ n ∈ ns, -(10 ^ 100) < n ∧ n < 10 ^ 100) : ShL (ns.map D.int) 0 (1 * ns.length) := by
  have z := ShL.each (n := 0) (b := 0) (ds := ns.map D.int) fun d hd => by
    obtain ⟨n, hn, rfl⟩ := List.mem_map.mp hd
    exact Sh.int (h n hn).1 (h n hn).2
  rwa [List.length_map] at z
theorem ShL.le {ds : List D} {n b n' b' : Nat} (h : ShL ds n b) (h1 : n ≤ n') (h2 : b ≤ b') : ShL ds n' b' := by
  obtain ⟨e, h3, h4⟩ := h.ex
  exact ⟨e, h3, h4.cl, h4.sh, h4.nd, h4.ls, Nat.le_trans h4.dp h1, Nat.le_trans h4.bk h2⟩
theorem Sh.lst {ds : List D} {n b : Nat} (h : ShL ds n b) : Sh (.lst ds) (n + 1) b := by
  obtain ⟨es, h3, h4⟩ := h.ex
  refine ⟨.list es, ?_, .list h4⟩
  unfold toPy
  rw [h3]
  rfl
theorem Sh.tup {ds : List D} {n b : Nat} (h : ShL ds n b) : Sh (.tup ds) (n + 1) b := by
  obtain ⟨es, h3, h4⟩ := h.ex
  refine ⟨.tuple es, ?_, .tuple h4⟩
  unfold toPy
  rw [h3]
  rfl
theorem fn_len {e : PyData} {n b : Nat} (f : Fn e n b) (hb : b ≤ 80000) : e.shown.length ≤ sizeLine := by
  have z := PyData.shown_le_bulk 200 (by decide) e f.ls
  have := f.bk
  rw [sizeLine_eq]
  omega
theorem Sh.repr {d : D} {n b : Nat} (h : Sh d n b) (hn : n ≤ 100) (hb : b ≤ 80000) : ∃ x, reprD d = .ok (.str x) := by
  obtain ⟨e, h1, f⟩ := h.ex
  have l := fn_len f hb
  have key : ∀ {x : Str}, shwD d = some x → x.length ≤ sizeLine → ∃ x, reprD d = .ok (.str x) := fun {x} e1 e2 => ⟨x, by
    unfold reprD
    rw [e1]
    dsimp only
    rw [if_pos e2]⟩
  have big : (∀ i, d ≠ .int i) → (∀ x, d ≠ .str x) → (∀ x, d ≠ .bl x) → d ≠ .non → ∃ x, reprD d = .ok (.str x) := fun n1 n2 n3 n4 => by
    refine key (x := e.shown) ?_ l
    have g : (if e.showable = true ∧ e.hasDict = false ∧ e.depth ≤ 100 ∧ e.shown.length ≤ sizeLine then some e.shown else none) = some e.shown := if_pos ⟨f.sh, f.nd, Nat.le_trans f.dp hn, l⟩
    cases d with
    | int i => exact absurd rfl (n1 i)
    | str x => exact absurd rfl (n2 x)
    | bl x => exact absurd rfl (n3 x)
    | non => exact absurd rfl n4
    | tup ds => unfold shwD; dsimp only; rw [h1]; exact g
    | lst ds => unfold shwD; dsimp only; rw [h1]; exact g
    | obj c fs => unfold toPy at h1; cases h1
    | err c fs => unfold toPy at h1; cases h1
    | pen => unfold toPy at h1; cases h1
    | cls c => unfold toPy at h1; cases h1
    | dct => unfold toPy at h1; cases h1
  cases d with
  | non => exact ⟨_, rfl⟩
  | bl b => cases b <;> exact ⟨_, rfl⟩
  | int i =>
    unfold toPy at h1
    cases h1
    have h2 : i.natAbs.log2 < 1920 := of_decide_eq_true f.sh
    refine key (x := Str.ofString (toString i)) ?_ l
    unfold shwD
    dsimp only
    rw [if_pos h2]
  | str x =>
    unfold toPy at h1
    cases h1
    have l2 : (reprText x).length ≤ sizeLine := l
    refine key (x := reprText x) ?_ l2
    unfold shwD
    dsimp only
    rw [if_pos l2]
  | tup ds => exact big (fun _ z => by cases z) (fun _ z => by cases z) (fun _ z => by cases z) (fun z => by cases z)
  | lst ds => exact big (fun _ z => by cases z) (fun _ z => by cases z) (fun _ z => by cases z) (fun z => by cases z)
  | obj c fs => unfold toPy at h1; cases h1
  | err c fs => unfold toPy at h1; cases h1
  | pen => unfold toPy at h1; cases h1
  | cls c => unfold toPy at h1; cases h1
  | dct => unfold toPy at h1; cases h1
theorem Sh.ascii {x : Str} (h : (x.cps.toList.all fun c => decide (c < 128)) = true) (hl : x.cps.size ≤ 1000) : Sh (.str x) 0 1000 := by
  refine (Sh.str ?_ ?_).le (Nat.le_refl _) hl
  · show PyData.strOk x = true
    unfold PyData.strOk
    rw [← Array.all_toList]
    rw [List.all_eq_true] at h ⊢
    intro c hc
    have := of_decide_eq_true (h c hc)
    exact decide_eq_true (by omega)
  · rw [List.all_eq_true] at h ⊢
    intro c hc
    have := of_decide_eq_true (h c hc)
    exact decide_eq_true (by omega)
end Gp
end
section
set_option linter.all false
set_option maxRecDepth 100000
set_option maxHeartbeats 400000
namespace Gp
open PySem
theorem bo_then {α β : Type} {P : α → Prop} {Q : β → Prop} {m : Tr α} {k : α → Tr β} {a b n : Nat} (h : Bo P m a) (hk : ∀ x, P x → Bo Q (k x) b) (l : a + b ≤ n) : Bo Q (bd m k) n := (h.bd hk).mono (fun _ z => z) l
theorem bo_forU {L : Type} {f : D → Unit → Tr (Fl Unit Unit)} {c : Nat} : ∀ {ds : List D}, (∀ d ∈ ds, Bo (fun r : Fl Unit Unit => r = .nx ()) (f d ()) c) → Bo (fun r : Fl Unit L => r = .nx ()) (forF f ds ()) (c * ds.length)
  | [], _ => bo_ok rfl
  | d :: ds, h => by
    rw [forF_cons]
    refine bo_then (b := c * ds.length) (h d List.mem_cons_self) (fun r hr => ?_) (by rw [List.length_cons, Nat.mul_succ]; omega)
    subst hr
    exact bo_forU fun x hx => h x (List.mem_cons_of_mem _ hx)
end Gp
end
section
set_option linter.all false
set_option maxRecDepth 100000
set_option maxHeartbeats 400000
namespace Gp
open PySem
def rowL (n : Nat) (a : Int → Int) : List Int := (List.range' 0 n).map fun k : Nat => a (k : Int)
def updF (a : Int → Int) (p v : Int) : Int → Int := fun q => if q = p then v else a q
theorem rowL_len (n : Nat) (a : Int → Int) : (rowL n a).length = n := by unfold rowL; rw [List.length_map, List.length_range']
theorem rowL_get {n : Nat} {a : Int → Int} {k : Nat} (h : k < n) : (rowL n a)[k]? = some (a k) := by
  unfold rowL
  rw [List.getElem?_map, List.getElem?_range' h]
  simp
theorem rowL_congr {n : Nat} {a b : Int → Int} (h : ∀ q : Int, 0 ≤ q → q < n → a q = b q) : rowL n a = rowL n b := by
  unfold rowL
  apply List.map_congr_left
  intro k hk
  have := (List.mem_range'_1.mp hk).2
  exact h k (by omega) (by omega)
theorem rowL_ext {n : Nat} {l : List Int} {a : Int → Int} (hl : l.length = n) (h : ∀ k : Nat, k < n → l[k]? = some (a k)) : l = rowL n a := by
  apply List.ext_getElem?
  intro k
  by_cases hk : k < n
  · rw [h k hk, rowL_get hk]
  · rw [List.getElem?_eq_none (by omega), List.getElem?_eq_none (by rw [rowL_len]; omega)]
theorem rowL_rev (n : Nat) (a : Int → Int) : (rowL n a).reverse = rowL n fun q => a (n - 1 - q) := by
  refine rowL_ext (by rw [List.length_reverse, rowL_len]) fun k hk => ?_
  rw [List.getElem?_reverse (by rw [rowL_len]; exact hk), rowL_len, rowL_get (by omega)]
  congr 2
  omega
theorem s_ixR {n : Nat} {a : Int → Int} {p : Int} (h0 : 0 ≤ p) (h1 : p < n) : ixD (.lst ((rowL n a).map D.int)) (.int p) = .ok (.int (a p)) := by
  obtain ⟨k, rfl⟩ := Int.eq_ofNat_of_zero_le h0
  refine s_ixL h0 ?_
  rw [List.getElem?_map]
  show (rowL n a)[k]?.map D.int = _
  rw [rowL_get (by omega)]
  rfl
theorem s_setR {n : Nat} {a : Int → Int} {p v : Int} (h0 : 0 ≤ p) (h1 : p < n) : setD ((rowL n a).map D.int) (.int p) (.int v) = .ok ((rowL n (updF a p v)).map D.int) := by
  obtain ⟨k, rfl⟩ := Int.eq_ofNat_of_zero_le h0
  have hk : k < n := by omega
  have e : L2.ixN ((rowL n a).map D.int).length (k : Int) = some k := by
    unfold L2.ixN
    rw [if_pos h0, List.length_map, rowL_len, if_pos h1]
    rfl
  show (match L2.ixN ((rowL n a).map D.int).length (k : Int) with | some j => Tr.ok (((rowL n a).map D.int).set j (.int v)) | none => .bad) = _
  rw [e]
  show Tr.ok (((rowL n a).map D.int).set k (.int v)) = _
  rw [← List.map_set]
  congr 2
  refine rowL_ext (by rw [List.length_set, rowL_len]) fun j hj => ?_
  unfold updF
  by_cases q : k = j
  · subst q
    rw [List.getElem?_set_self (by rw [rowL_len]; exact hk), if_pos rfl]
  · rw [List.getElem?_set_ne q, rowL_get hj, if_neg (by omega)]
theorem rg_row (n : Nat) : rgD 0 n = (rowL n id).map D.int := by
  rw [rgD_map, List.range_eq_range']
  rfl
theorem s_listR {n : Nat} (h : n ≤ 16777216) : (if rgOk 0 (n : Int) then Tr.ok (D.lst (rgD 0 ((n : Int) - 0).toNat)) else .bad) = .ok (.lst ((rowL n id).map D.int)) := by
  have e : rgOk 0 (n : Int) := by unfold rgOk; omega
  rw [if_pos e, show ((n : Int) - 0).toNat = n by omega, rg_row]
theorem wh_gr {L : Type} {c : List D × D → Tr Bool} {f : List D × D → Tr (Fl (List D × D) (List D × D))} {n : Nat} {G : Nat → List D} {B : Nat → Prop} (hc : ∀ k, k ≤ n → c (G k, .int k) = .ok (decide ((k : Int) < n)))
    (hb : ∀ k, k < n → B k → ∃ j, k < j ∧ j ≤ n ∧ B j ∧ f (G k, .int k) = .ok (.nx (G j, .int j))) : ∀ (fuel k : Nat), n - k < fuel → k ≤ n → B k → whF (L := L) c f fuel (G k, .int k) = .ok (.nx (G n, .int n))
  | 0, k, h, _, _ => absurd h (Nat.not_lt_zero _)
  | fuel + 1, k, h, hk, hB => by
    rw [whF_succ, hc k hk, s_bd]
    by_cases q : k < n
    · obtain ⟨j, h1, h2, h3, e⟩ := hb k q hB
      rw [if_pos (decide_eq_true (by omega)), e, s_bd]
      exact wh_gr hc hb fuel j (by omega) h2 h3
    · have : k = n := by omega
      subst this
      rw [if_neg (by simp)]
def frZ (us : List Int) (n k : Int) : Int := ledL false k (runsL 0 (setI us) n)
def Bd (us : List Int) (n : Int) (k : Int) : Prop := k = n ∨ k ∈ us ∨ ∀ lo hi, Near us 0 (n - 1) k lo hi → (k - lo) % 2 = 0
theorem near_set {us : List Int} {a b p lo hi : Int} : Near (setI us) a b p lo hi ↔ Near us a b p lo hi :=
  ⟨fun ⟨y1, y2, y3, y4, y5, y6, y7⟩ => ⟨y1, y2, y3.imp id mem_setI.mp, y4, y5, y6.imp id mem_setI.mp, fun t h => y7 t (mem_setI.mpr h)⟩, fun ⟨y1, y2, y3, y4, y5, y6, y7⟩ => ⟨y1, y2, y3.imp id mem_setI.mpr, y4, y5, y6.imp id mem_setI.mpr, fun t h => y7 t (mem_setI.mp h)⟩⟩
theorem frZ_at {us : List Int} {n k : Int} (hu : ∀ t ∈ us, 0 ≤ t ∧ t < n) (h0 : 0 ≤ k) (h1 : k < n) : (k ∈ us → frZ us n k = k) ∧ (k ∉ us → ∃ lo hi, Near us 0 (n - 1) k lo hi ∧ frZ us n k = movZ false lo hi k) := by
  obtain ⟨k1, k2⟩ := led_runs (bk := false) (p := k) (n := n) (b := 0) (ris_setI us) (fun t h => hu t (mem_setI.mp h)) h0 h1
  refine ⟨fun h => k1 (mem_setI.mpr h), fun h => ?_⟩
  obtain ⟨lo, hi, hn, e⟩ := k2 fun z => h (mem_setI.mp z)
  exact ⟨lo, hi, near_set.mp hn, e⟩
theorem movF {lo hi k : Int} : movZ false lo hi k = if lo ≤ (if (k - lo) % 2 = 0 then k + 1 else k - 1) ∧ (if (k - lo) % 2 = 0 then k + 1 else k - 1) ≤ hi then (if (k - lo) % 2 = 0 then k + 1 else k - 1) else k := by
  unfold movZ
  simp only [Bool.false_eq_true, if_false]
theorem bd_zero {us : List Int} {n : Int} : Bd us n 0 := .inr (.inr fun lo hi h => by
  have := h.l0
  have := h.l1
  have : lo = 0 := by omega
  subst this
  rfl)
theorem gr_pair {us : List Int} {n k : Int} (hu : ∀ t ∈ us, 0 ≤ t ∧ t < n) (h0 : 0 ≤ k) (h1 : k + 1 < n) (hB : Bd us n k) (a : k ∉ us) (b : k + 1 ∉ us) : frZ us n k = k + 1 ∧ frZ us n (k + 1) = k ∧ Bd us n (k + 2) := by
  obtain ⟨lo, hi, hn, e⟩ := (frZ_at hu h0 (by omega)).2 a
  have ev : (k - lo) % 2 = 0 := by
    rcases hB with z | z | z
    · omega
    · exact absurd z a
    · exact z lo hi hn
  obtain ⟨y1, y2, y3, y4, y5, y6, y7⟩ := id hn
  have hhi : k + 1 ≤ hi := by
    rcases y6 with z | z
    · omega
    · by_cases q : hi = k
      · subst q; exact absurd z b
      · omega
  have hn2 : Near us 0 (n - 1) (k + 1) lo hi := ⟨y1, by omega, y3, y4, hhi, y6, y7⟩
  obtain ⟨lo', hi', hn', e'⟩ := (frZ_at hu (show 0 ≤ k + 1 by omega) h1).2 b
  obtain ⟨u1, u2⟩ := hn'.uniq hn2
  refine ⟨?_, ?_, ?_⟩
  · rw [e, movF, if_pos ev, if_pos (by omega)]
  · rw [e', u1, u2, movF, if_neg (show ¬ (k + 1 - lo) % 2 = 0 by omega), if_pos (by omega)]
    omega
  · by_cases q : k + 2 = n
    · exact .inl q
    · by_cases q2 : k + 2 ∈ us
      · exact .inr (.inl q2)
      · refine .inr (.inr fun lo2 hi2 h2 => ?_)
        have hhi2 : k + 2 ≤ hi := by
          rcases y6 with z | z
          · omega
          · by_cases q3 : hi = k + 1
            · subst q3; exact absurd z (by rw [show k + 1 + 1 = k + 2 by omega]; exact q2)
            · omega
        obtain ⟨v1, v2⟩ := h2.uniq (⟨y1, by omega, y3, y4, hhi2, y6, y7⟩ : Near us 0 (n - 1) (k + 2) lo hi)
        subst v1
        omega
theorem gr_none {us : List Int} {n k : Int} (hu : ∀ t ∈ us, 0 ≤ t ∧ t < n) (h0 : 0 ≤ k) (h1 : k < n) (hB : Bd us n k) (a : ¬ (k ∉ us ∧ k + 1 < n ∧ k + 1 ∉ us)) : frZ us n k = k ∧ Bd us n (k + 1) := by
  by_cases q : k ∈ us
  · refine ⟨(frZ_at hu h0 h1).1 q, .inr (.inr fun lo hi h => ?_)⟩
    have := h.no k q
    have := h.l1
    have := h.h1
    have : lo = k + 1 := by omega
    subst this
    simp
  · obtain ⟨lo, hi, hn, e⟩ := (frZ_at hu h0 h1).2 q
    have ev : (k - lo) % 2 = 0 := by
      rcases hB with z | z | z
      · omega
      · exact absurd z q
      · exact z lo hi hn
    obtain ⟨y1, y2, y3, y4, y5, y6, y7⟩ := id hn
    have hb : k + 1 = n ∨ k + 1 ∈ us := by
      by_cases z1 : k + 1 = n
      · exact .inl z1
      · by_cases z2 : k + 1 ∈ us
        · exact .inr z2
        · exact absurd ⟨q, by omega, z2⟩ a
    have hhi : hi = k := by
      rcases hb with z | z
      · omega
      · have := y7 _ z
        omega
    refine ⟨?_, hb.elim .inl fun z => .inr (.inl z)⟩
    rw [e, movF, if_pos ev, if_neg (by omega)]
end Gp
end
section
set_option Elab.async false
set_option linter.all false
set_option maxRecDepth 100000
set_option maxHeartbeats 400000
namespace Gp
open PySem
@[irreducible] def Bx {α : Type} (P : α → Prop) (m : Tr α) (n : Nat) : Prop := Bo P m n
theorem Bx.bo {α : Type} {P : α → Prop} {m : Tr α} {n : Nat} (h : Bx P m n) : Bo P m n := by
  unfold Bx at h
  exact h
theorem bx_of {α : Type} {P : α → Prop} {m : Tr α} {n : Nat} (h : Bo P m n) : Bx P m n := by
  unfold Bx
  exact h
theorem bx_draw {α : Type} {P : α → Prop} {m : Int} {k : Int → Tr α} {n : Nat} (h1 : 0 < m) (h2 : m < 10 ^ 100) (h : ∀ d, 0 ≤ d → d < m → Bx P (k d) n) : Bx P (.draw m k) (n + 1) := bx_of (bo_draw h1 h2 fun d a b => (h d a b).bo)
theorem bx_then {α β : Type} {P : α → Prop} {Q : β → Prop} {m : Tr α} {k : α → Tr β} {a b n : Nat} (h : Bo P m a) (hk : ∀ x, P x → Bx Q (k x) b) (l : a + b ≤ n) : Bx Q (bd m k) n := bx_of (bo_then h (fun x z => (hk x z).bo) l)
theorem bx_ok {α : Type} {P : α → Prop} {a : α} {n : Nat} (h : P a) : Bx P (.ok a) n := bx_of (bo_ok h)
theorem bx_loopU {f : D → Unit → Tr (Fl Unit Unit)} {ds : List D} {K : Unit → Tr (Fl Unit Empty)} {Q : D → Prop} {c b n : Nat} (h : ∀ d ∈ ds, Bx (fun r : Fl Unit Unit => r = .nx ()) (f d ()) c) (hk : Bx Q (fin (K ())) b) (l : c * ds.length + b ≤ n) : Bx Q (fin (bdF (forF f ds ()) K)) n := by
  refine bx_of ?_
  unfold fin bdF
  rw [bd_bd]
  refine bo_then (b := b) (bo_forU fun d hd => (h d hd).bo) (fun r hr => ?_) l
  subst hr
  exact hk.bo
theorem bx_thenX {α β : Type} {P : α → Prop} {Q : β → Prop} {m : Tr α} {k : α → Tr β} {a b n : Nat} (h : Bx P m a) (hk : ∀ x, P x → Bx Q (k x) b) (l : a + b ≤ n) : Bx Q (bd m k) n := bx_then h.bo hk l
end Gp
end
section
set_option Elab.async false
set_option linter.all false
set_option maxRecDepth 100000
set_option maxHeartbeats 4000000
namespace Lw
open PySem Gp
abbrev N40 : Int := 10000000000000000000000000000000000000000
@[simp] theorem isi_int_int (i : Int) : isi_int (.int i) = some true := rfl
@[simp] theorem isi_bool_int (i : Int) : isi_bool (.int i) = some false := rfl
@[simp] theorem isi_bool_bl (i : Bool) : isi_bool (.bl i) = some true := rfl
@[simp] theorem isi_str_str (i : Str) : isi_str (.str i) = some true := rfl
theorem q_is_integer (i : Int) : F_is_integer (.int i) = .ok (.bl true) := by simp [F_is_integer]
theorem q_is_within (i a b : Int) : F_is_within (.int i) (.int a) (.int b) = .ok (.bl (decide (a ≤ i ∧ i ≤ b))) := by
  simp only [F_is_within, s_bd, s_ul1, q_is_integer, s_asB, if_true, s_le, s_finr]
  by_cases h : a ≤ i <;> simp [h]
theorem q_need_length {n : Int} (h : 1 ≤ n ∧ n ≤ N40) : F_need_length (.int n) = .ok .non := by
  simp [F_need_length, F_is_length, q_is_within, h]
theorem q_need_place {n p : Int} (h : 1 ≤ n ∧ n ≤ N40) (hp : 0 ≤ p ∧ p < n) : F_need_place (.int n) (.int p) = .ok .non := by
  have e : 0 ≤ p ∧ p ≤ n - 1 := by omega
  simp [F_need_place, q_need_length h, q_is_within, e]
theorem q_seat_at {n p : Int} (h : 1 ≤ n) : F_seat_at (.int n) (.int p) = .ok (.int (seatZ n p)) := by
  have e : 0 < n := by omega
  simp only [F_seat_at, s_bd, s_mod2, s_eq, s_asB, s_div2, s_add, s_sub, s_mod e]
  unfold seatZ
  by_cases hp : p % 2 = 0 <;> simp [hp]
theorem q_place_at {n s : Int} (h0 : 0 ≤ s) (h1 : s < n) : F_place_at (.int n) (.int s) = .ok (.int (placeZ n s)) := by
  simp only [F_place_at, s_bd, s_mul (i := 2) (.inl (by decide)), s_lt, s_asB, s_sub]
  unfold placeZ
  by_cases hp : 2 * s < n <;> simp [hp]
theorem q_seat_behind {n k c s : Int} (h : 1 ≤ n) : F_seat_behind (.int n) (.int k) (.int c) (.int s) = .ok (.int (behZ n k c s)) := by
  have e : 0 < n := by omega
  simp only [F_seat_behind, s_bd, s_mod2, s_eq, s_asB, s_div2, s_add, s_sub, s_mod e, s_neg]
  unfold behZ
  by_cases hc : c % 2 = 0 <;> by_cases hk : k = 0 <;> simp [hc, hk]
def spanD (h m o : Int) : D := .obj "Span" [("own_parts", .tup [.int h, .int m, .int o])]
def spOk (h m o : Int) : Prop := (0 ≤ h ∧ h ≤ 8) ∧ (-60 ≤ m ∧ m ≤ 60) ∧ (-9 ≤ o ∧ o ≤ 9)
theorem q_span {h m o : Int} (k : spOk h m o) : F_Span___init__ [] (.int h) (.int m) (.int o) = .ok [("own_parts", .tup [.int h, .int m, .int o])] := by
  obtain ⟨h1, h2, h3⟩ := k
  simp [F_Span___init__, q_is_within, h1, h2, h3, sizeLine, putD]
theorem q_halves (h m o : Int) : F_Span_halves (spanD h m o) = .ok (.int h) := by simp [F_Span_halves, spanD, fldD, ixD, L2.atI, L2.ixN]
theorem q_more (h m o : Int) : F_Span_more (spanD h m o) = .ok (.int m) := by simp [F_Span_more, spanD, fldD, ixD, L2.atI, L2.ixN]
theorem q_odd (h m o : Int) : F_Span_odd (spanD h m o) = .ok (.int o) := by simp [F_Span_odd, spanD, fldD, ixD, L2.atI, L2.ixN]
def numZ (h m o n : Int) : Int := h * (n / 2) + o * (n % 2) + m
@[simp] theorem isO_span {α : Type} (h m o : Int) (k : Fs → Tr α) : isO "Span" (spanD h m o) k = k [("own_parts", .tup [.int h, .int m, .int o])] := s_isO _ _ _
theorem q_number_at {h m o n : Int} (k : spOk h m o) : F_Span_number_at (spanD h m o) (.int n) = .ok (.int (numZ h m o n)) := by
  obtain ⟨h1, h2, h3⟩ := k
  have e1 : (-(2 ^ 64) < h ∧ h < 2 ^ 64) ∨ (-(2 ^ 64) < n / 2 ∧ n / 2 < 2 ^ 64) := .inl (by omega)
  have e2 : (-(2 ^ 64) < o ∧ o < 2 ^ 64) ∨ (-(2 ^ 64) < n % 2 ∧ n % 2 < 2 ^ 64) := .inl (by omega)
  simp [F_Span_number_at, q_halves, q_more, q_odd, s_mul e1, s_mul e2, numZ]
theorem q_span_call {h m o n : Int} (k : spOk h m o) (hn : 1 ≤ n ∧ n ≤ N40) : F_Span___call__ (spanD h m o) (.int n) = .ok (.int (numZ h m o n)) := by
  have e : ([("own_parts", .tup [.int h, .int m, .int o])] : Fs).lookup ("number_at" : Str) = none := rfl
  simp [F_Span___call__, q_need_length hn, q_number_at k, e]
@[simp] theorem isi_Span_span (h m o : Int) : isi_Span (spanD h m o) = some true := rfl
def stfs (f : Int) (sp : D) (sd : Str) (late : Bool) : Fs := [("side", .str sd), ("first", .int f), ("span", sp), ("late", .bl late)]
def strD (f : Int) (sp : D) (sd : Str) (late : Bool) : D := .obj "Stretch" (stfs f sp sd late)
theorem q_stretch {f h m o : Int} {sd : Str} {late : Bool} (hf : f = 0 ∨ f = 1) (hs : sd = "front" ∨ sd = "back") : F_Stretch___init__ [] (.int f) (spanD h m o) (.str sd) (.bl late) = .ok (stfs f (spanD h m o) sd late) := by
  have e : 0 ≤ f ∧ f ≤ 1 := by omega
  have e2 : notinD (.str sd) (.tup [.str "front", .str "back"]) = .ok (.bl false) := by
    rcases hs with rfl | rfl <;> rfl
  simp [F_Stretch___init__, q_is_within, e, e2, F_Sided___init___at_Stretch, stfs]
  rfl
@[simp] theorem isO_str {α : Type} (f : Int) (sp : D) (sd : Str) (late : Bool) (k : Fs → Tr α) : isO "Stretch" (strD f sp sd late) k = k (stfs f sp sd late) := s_isO _ _ _
def cntZ (h m o n : Int) : Int := if 0 < numZ h m o n then numZ h m o n else 0
theorem q_changes {f h m o n : Int} {sd : Str} {late : Bool} (k : spOk h m o) (hn : 1 ≤ n ∧ n ≤ N40) : F_Stretch_changes (strD f (spanD h m o) sd late) (.int n) = .ok (.int (cntZ h m o n)) := by
  have e : (stfs f (spanD h m o) sd late).lookup ("span" : Str) = some (spanD h m o) := rfl
  simp only [F_Stretch_changes, s_bd, s_ul1, s_ul2, q_need_length hn, isO_str, e, isO_span, q_span_call k hn, s_gt, s_asB]
  unfold cntZ
  by_cases hp : 0 < numZ h m o n <;> simp [hp]
def begZ (f c : Int) (late : Bool) : Int := if late = true ∧ c % 2 = 0 then 1 - f else f
theorem fld_late (f : Int) (sp : D) (sd : Str) (late : Bool) : fldD "Stretch" "late" (strD f sp sd late) = .ok (.bl late) := rfl
theorem fld_first (f : Int) (sp : D) (sd : Str) (late : Bool) : fldD "Stretch" "first" (strD f sp sd late) = .ok (.int f) := rfl
theorem fld_side (f : Int) (sp : D) (sd : Str) (late : Bool) : fldD "Stretch" "side" (strD f sp sd late) = .ok (.str sd) := rfl
theorem q_begin {f c : Int} {sp : D} {sd : Str} {late : Bool} : F_Stretch_begin (strD f sp sd late) (.int c) = .ok (.int (begZ f c late)) := by
  simp only [F_Stretch_begin, s_bd, fld_late, fld_first, s_asB, s_mod2, s_eq, s_sub]
  unfold begZ
  cases late
  · simp
  · by_cases hc : c % 2 = 0 <;> simp [hc]
def kindZ (f c n : Int) (sd : Str) (late : Bool) : Int := if sd = "back" ∧ n % 2 = 1 then 1 - begZ f c late else begZ f c late
def toZ (f h m o : Int) (sd : Str) (late : Bool) (n p : Int) : Int := placeZ n (behZ n (kindZ f (cntZ h m o n) n sd late) (cntZ h m o n) (seatZ n p))
theorem q_to {f h m o n p : Int} {sd : Str} {late : Bool} (k : spOk h m o) (hn : 1 ≤ n ∧ n ≤ N40) (hp : 0 ≤ p ∧ p < n) : F_Stretch_to (strD f (spanD h m o) sd late) (.int n) (.int p) = .ok (.int (toZ f h m o sd late n p)) := by
  have e1 : (stfs f (spanD h m o) sd late).lookup ("changes" : Str) = none := rfl
  have e2 : (stfs f (spanD h m o) sd late).lookup ("begin" : Str) = none := rfl
  have e3 : ∀ kind c s, F_place_at (.int n) (.int (behZ n kind c s)) = .ok (.int (placeZ n (behZ n kind c s))) := fun kind c s => q_place_at (behZ_rng (by omega)).1 (behZ_rng (by omega)).2
  simp only [F_Stretch_to, s_bd, s_ul1, s_ul2, s_ul3, s_ul4, q_need_place hn hp, isO_str, e1, e2, if_true, q_changes k hn, q_begin, fld_side, s_eqs, s_asB, s_mod2, s_eq, s_sub, q_seat_at hn.1]
  unfold toZ kindZ
  by_cases h1 : sd = "back" <;> by_cases h2 : n % 2 = 1 <;> simp [h1, h2, q_seat_behind hn.1, e3]
theorem toZ_rng {f h m o n p : Int} {sd : Str} {late : Bool} (hn : 1 ≤ n) : 0 ≤ toZ f h m o sd late n p ∧ toZ f h m o sd late n p < n :=
  placeZ_rng (behZ_rng (by omega)).1 (behZ_rng (by omega)).2
end Lw
end
section
set_option Elab.async false
set_option linter.all false
set_option maxRecDepth 100000
set_option maxHeartbeats 400000
namespace Gp
open PySem
def sdS (bk : Bool) : Str := if bk = true then "back" else "front"
theorem sd_front (bk : Bool) : decide (sdS bk = "front") = !bk := by cases bk <;> rfl
theorem sd_back (bk : Bool) : decide (sdS bk = "back") = bk := by cases bk <;> rfl
theorem sd_or (bk : Bool) : sdS bk = "front" ∨ sdS bk = "back" := by
  cases bk
  · exact .inl rfl
  · exact .inr rfl
theorem s_inI (p : Int) (ts : List Int) : inOD (.int p) (.lst (ts.map D.int)) = .ok (.bl (decide (p ∈ ts))) := by
  have e1 : (ts.map D.int).all flatD = true := by
    rw [List.all_map]
    exact List.all_eq_true.mpr fun _ _ => rfl
  have e2 : inD (.int p) (ts.map D.int) = decide (p ∈ ts) := by
    induction ts with
    | nil => rfl
    | cons t r ih =>
      unfold inD at ih ⊢
      rw [List.map_cons, List.any_cons, ih (by rw [List.all_map]; exact List.all_eq_true.mpr fun _ _ => rfl)]
      show ((t == p) || decide (p ∈ r)) = _
      by_cases h : t = p
      · subst h; simp
      · have : ¬ p = t := fun e => h e.symm
        simp [h, this]
  unfold inOD inB
  dsimp only
  rw [if_pos ⟨rfl, e1⟩, e2]
  rfl
def nearF (p : Int) : List Int → Int → Int → Int × Int
  | [], lo, hi => (lo, hi)
  | t :: ts, lo, hi => nearF p ts (if lo ≤ t ∧ t < p then t + 1 else lo) (if p < t ∧ t ≤ hi then t - 1 else hi)
theorem nearF_near {p : Int} : ∀ {ts : List Int} {lo hi : Int}, lo ≤ p → p ≤ hi → p ∉ ts → Near ts lo hi p (nearF p ts lo hi).1 (nearF p ts lo hi).2
  | [], lo, hi, h0, h1, _ => ⟨Int.le_refl _, h0, .inl rfl, Int.le_refl _, h1, .inl rfl, fun t h => absurd h (by simp)⟩
  | t :: ts, lo, hi, h0, h1, hp => by
    have ht : p ≠ t := fun e => hp (e ▸ List.mem_cons_self)
    have hr : p ∉ ts := fun h => hp (List.mem_cons_of_mem _ h)
    unfold nearF
    generalize e1 : (if lo ≤ t ∧ t < p then t + 1 else lo) = lo1
    generalize e2 : (if p < t ∧ t ≤ hi then t - 1 else hi) = hi1
    have a1 : lo ≤ lo1 ∧ lo1 ≤ p ∧ (lo1 = lo ∨ lo1 - 1 = t) ∧ (t < p → t < lo1) := by
      subst e1
      split <;> omega
    have a2 : hi1 ≤ hi ∧ p ≤ hi1 ∧ (hi1 = hi ∨ hi1 + 1 = t) ∧ (p < t → hi1 < t) := by
      subst e2
      split <;> omega
    obtain ⟨y1, y2, y3, y4, y5, y6, y7⟩ := nearF_near (ts := ts) a1.2.1 a2.2.1 hr
    refine ⟨by omega, y2, ?_, by omega, y5, ?_, fun x hx => ?_⟩
    · rcases y3 with y3 | y3
      · rcases a1.2.2.1 with z | z
        · exact .inl (by omega)
        · exact .inr (by rw [y3, z]; exact List.mem_cons_self)
      · exact .inr (List.mem_cons_of_mem _ y3)
    · rcases y6 with y6 | y6
      · rcases a2.2.2.1 with z | z
        · exact .inl (by omega)
        · exact .inr (by rw [y6, z]; exact List.mem_cons_self)
      · exact .inr (List.mem_cons_of_mem _ y6)
    · rcases List.mem_cons.mp hx with rfl | hx
      · have b1 := a1.2.2.2
        have b2 := a2.2.2.2
        omega
      · exact y7 x hx
theorem forF_near {p : Int} {f : D → D × D → Tr (Fl (D × D) (D × D))} (hf : ∀ t lo hi : Int, f (.int t) (.int lo, .int hi) = .ok (.nx (.int (if lo ≤ t ∧ t < p then t + 1 else lo), .int (if p < t ∧ t ≤ hi then t - 1 else hi)))) :
    ∀ (ts : List Int) (lo hi : Int), forF (L := Empty) f (ts.map D.int) (.int lo, .int hi) = .ok (.nx (.int (nearF p ts lo hi).1, .int (nearF p ts lo hi).2))
  | [], _, _ => rfl
  | t :: ts, lo, hi => by
    rw [List.map_cons, forF_cons, hf, s_bd]
    exact forF_near hf ts _ _
theorem led_near {bk : Bool} {n p : Int} {ts : List Int} (ht : ∀ t ∈ ts, 0 ≤ t ∧ t < n) (h0 : 0 ≤ p) (h1 : p < n) :
    ledL bk p (runsL 0 (setI ts) n) = if p ∈ ts then p else movZ bk (nearF p ts 0 (n - 1)).1 (nearF p ts 0 (n - 1)).2 p := by
  obtain ⟨k1, k2⟩ := led_runs (bk := bk) (p := p) (n := n) (b := 0) (ris_setI ts) (fun t h => ht t (mem_setI.mp h)) h0 h1
  by_cases hp : p ∈ ts
  · rw [if_pos hp, k1 (mem_setI.mpr hp)]
  · obtain ⟨lo, hi, hn, e⟩ := k2 fun h => hp (mem_setI.mp h)
    rw [if_neg hp, e]
    obtain ⟨y1, y2, y3, y4, y5, y6, y7⟩ := nearF_near (ts := ts) (lo := 0) (hi := n - 1) h0 (by omega) hp
    have hq : Near (setI ts) 0 (n - 1) p (nearF p ts 0 (n - 1)).1 (nearF p ts 0 (n - 1)).2 := ⟨y1, y2, y3.imp id mem_setI.mpr, y4, y5, y6.imp id mem_setI.mpr, fun t h => y7 t (mem_setI.mp h)⟩
    obtain ⟨u1, u2⟩ := hn.uniq hq
    rw [u1, u2]
end Gp
namespace Lw
open PySem Gp
theorem q_law_moved {bk : Bool} {n p : Int} {ts : List Int} (ht : ∀ t ∈ ts, 0 ≤ t ∧ t < n) (h0 : 0 ≤ p) (h1 : p < n) :
    F__law_moved (.int n) (.int p) (.lst (ts.map D.int)) (.str (sdS bk)) = .ok (.int (ledL bk p (runsL 0 (setI ts) n))) := by
  rw [led_near ht h0 h1]
  unfold F__law_moved
  simp only [s_bd, s_inI, s_asB]
  by_cases hp : p ∈ ts
  · simp [hp]
  · simp only [hp, decide_false, Bool.false_eq_true, if_false, s_bdF, s_sub]
    simp only [s_bd, s_ul2, s_itl]
    rw [forF_near (p := p) (fun t lo hi => ?_)]
    · generalize nearF p ts 0 (n - 1) = r
      obtain ⟨lo, hi⟩ := r
      simp only [s_bdF, s_bd, s_eqs, s_asB, sd_front, s_neg, s_sub, s_ul1]
      unfold movZ
      cases bk
      · simp only [Bool.not_false, if_true, s_bd, s_int, s_mod2, s_eq, s_asB, s_add, s_sub, Bool.false_eq_true, if_false]
        by_cases q : (p - lo) % 2 = 0
        · simp only [q, decide_true, if_true, s_bd, s_le, s_asB]
          by_cases q1 : lo ≤ p + 1 <;> by_cases q2 : p + 1 ≤ hi <;> simp [q1, q2]
        · simp only [q, decide_false, Bool.false_eq_true, if_false, s_bd, s_le, s_asB]
          by_cases q1 : lo ≤ p - 1 <;> by_cases q2 : p - 1 ≤ hi <;> simp [q1, q2]
      · simp only [Bool.not_true, if_true, s_bd, s_int, s_mod2, s_eq, s_asB, s_add, s_sub, Bool.false_eq_true, if_false]
        by_cases q : (hi - p) % 2 = 0
        · simp only [q, decide_true, if_true, s_bd, s_le, s_asB]
          by_cases q1 : lo ≤ p + -1 <;> by_cases q2 : p + -1 ≤ hi <;> simp [q1, q2]
        · simp only [q, decide_false, Bool.false_eq_true, if_false, s_bd, s_le, s_asB]
          by_cases q1 : lo ≤ p + 1 <;> by_cases q2 : p + 1 ≤ hi <;> simp [q1, q2]
    · simp only [s_le, s_bd, s_asB, s_lt, s_add, s_sub]
      by_cases q1 : lo ≤ t <;> by_cases q2 : t < p <;> by_cases q3 : p < t <;> by_cases q4 : t ≤ hi <;> simp [q1, q2, q3, q4]
end Lw
end
section
set_option Elab.async false
set_option linter.all false
set_option maxRecDepth 100000
set_option maxHeartbeats 400000
namespace Lw
open PySem Gp
theorem setI_id {l : List Int} (h : l.Pairwise (· < ·)) : setI l = l := ris_eq (ris_setI l) h fun x => mem_setI
end Lw
namespace Gp
open PySem
theorem s_rg1 {m : Nat} (h : m ≤ 16777216) : rg1 (.int m) = .ok ((List.range' 0 m).map fun k : Nat => D.int k) := by
  unfold rg1
  dsimp only
  rw [if_pos ⟨by omega, by omega⟩, rgD_map, List.range_eq_range', List.map_map]
  rfl
theorem forF_fold {L α : Type} {f : D → D → Tr (Fl D D)} {h : α → D} {g : α → Int → Int} {I : Int → Prop} : ∀ {xs : List α} {p : Int}, (∀ x ∈ xs, ∀ p, I p → f (h x) (.int p) = .ok (.nx (.int (g x p))) ∧ I (g x p)) → I p →
    forF (L := L) f (xs.map h) (.int p) = .ok (.nx (.int (xs.foldl (fun p x => g x p) p))) ∧ I (xs.foldl (fun p x => g x p) p)
  | [], p, _, hp => ⟨rfl, hp⟩
  | x :: xs, p, hf, hp => by
    obtain ⟨e, hi⟩ := hf x List.mem_cons_self p hp
    rw [List.map_cons, forF_cons, e, s_bd, List.foldl_cons]
    exact forF_fold (fun y hy => hf y (List.mem_cons_of_mem _ hy)) hi
theorem lcF_gen {α : Type} {f : D → Tr (Option D)} {h g : α → D} : ∀ {xs : List α}, (∀ x ∈ xs, f (h x) = .ok (some (g x))) → lcF f (xs.map h) = .ok (xs.map g)
  | [], _ => rfl
  | x :: xs, hf => by
    rw [List.map_cons, lcF_cons, hf x List.mem_cons_self, s_bd, lcF_gen fun y hy => hf y (List.mem_cons_of_mem _ hy)]
    rfl
@[simp] theorem ix_t0 (a : D) (r : List D) : ixD (.tup (a :: r)) (.int 0) = .ok a := s_ixT (by decide) rfl
@[simp] theorem ix_t1 (a b : D) (r : List D) : ixD (.tup (a :: b :: r)) (.int 1) = .ok b := s_ixT (by decide) rfl
@[simp] theorem ix_t2 (a b c : D) (r : List D) : ixD (.tup (a :: b :: c :: r)) (.int 2) = .ok c := s_ixT (by decide) rfl
@[simp] theorem ix_t3 (a b c d : D) (r : List D) : ixD (.tup (a :: b :: c :: d :: r)) (.int 3) = .ok d := s_ixT (by decide) rfl
@[simp] theorem ix_t4 (a b c d e : D) (r : List D) : ixD (.tup (a :: b :: c :: d :: e :: r)) (.int 4) = .ok e := s_ixT (by decide) rfl
end Gp
namespace Lw
open PySem Gp
theorem kind_flip {fi c n : Int} {bk late : Bool} : kindZ fi c n (sdS bk) late = flipZ bk n (begZ fi c late) := by
  unfold kindZ flipZ
  cases bk
  · have e : ¬ (sdS false : Str) = "back" := by decide
    simp [e]
  · have e : (sdS true : Str) = "back" := rfl
    simp [e]
theorem beg01 {fi c : Int} {late : Bool} (h : fi = 0 ∨ fi = 1) : begZ fi c late = 0 ∨ begZ fi c late = 1 := by
  unfold begZ
  split <;> omega
theorem plain_mem {kd n : Int} {bk : Bool} (hn : 1 ≤ n) : ∀ t ∈ plainL kd bk n, 0 ≤ t ∧ t < n := fun t h => by
  unfold plainL at h
  split at h
  · have := List.mem_singleton.mp h
    subst this
    split <;> omega
  · exact absurd h (by simp)
theorem movZ_mir {bk : Bool} {lo hi p n : Int} : movZ (!bk) (n - 1 - hi) (n - 1 - lo) (n - 1 - p) = n - 1 - movZ bk lo hi p := by
  unfold movZ
  cases bk
  · simp only [Bool.not_false, if_true, Bool.false_eq_true, if_false]
    rw [show n - 1 - lo - (n - 1 - p) = p - lo by omega]
    by_cases q : (p - lo) % 2 = 0
    · rw [if_pos q, if_pos q]
      by_cases r : lo ≤ p + 1 ∧ p + 1 ≤ hi
      · rw [if_pos r, if_pos (by omega)]; omega
      · rw [if_neg r, if_neg (by omega)]
    · rw [if_neg q, if_neg q]
      by_cases r : lo ≤ p - 1 ∧ p - 1 ≤ hi
      · rw [if_pos r, if_pos (by omega)]; omega
      · rw [if_neg r, if_neg (by omega)]
  · simp only [Bool.not_true, if_true, Bool.false_eq_true, if_false]
    rw [show n - 1 - p - (n - 1 - hi) = hi - p by omega]
    by_cases q : (hi - p) % 2 = 0
    · rw [if_pos q, if_pos q]
      by_cases r : lo ≤ p + -1 ∧ p + -1 ≤ hi
      · rw [if_pos r, if_pos (by omega)]; omega
      · rw [if_neg r, if_neg (by omega)]
    · rw [if_neg q, if_neg q]
      by_cases r : lo ≤ p - -1 ∧ p - -1 ≤ hi
      · rw [if_pos r, if_pos (by omega)]; omega
      · rw [if_neg r, if_neg (by omega)]
theorem led_mir {bk : Bool} {n p : Int} {ts us : List Int} (ht : ∀ t ∈ ts, 0 ≤ t ∧ t < n) (hu : ∀ t, t ∈ us ↔ n - 1 - t ∈ ts) (h0 : 0 ≤ p) (h1 : p < n) :
    ledL (!bk) (n - 1 - p) (runsL 0 (setI us) n) = n - 1 - ledL bk p (runsL 0 (setI ts) n) := by
  have hu' : ∀ t ∈ us, 0 ≤ t ∧ t < n := fun t h => by
    have := ht _ ((hu t).mp h)
    omega
  obtain ⟨k1, k2⟩ := led_runs (bk := bk) (p := p) (n := n) (b := 0) (ris_setI ts) (fun t h => ht t (mem_setI.mp h)) h0 h1
  obtain ⟨j1, j2⟩ := led_runs (bk := !bk) (p := n - 1 - p) (n := n) (b := 0) (ris_setI us) (fun t h => hu' t (mem_setI.mp h)) (by omega) (by omega)
  have e : n - 1 - p ∈ us ↔ p ∈ ts := by
    rw [hu, show n - 1 - (n - 1 - p) = p by omega]
  by_cases hp : p ∈ ts
  · rw [k1 (mem_setI.mpr hp), j1 (mem_setI.mpr (e.mpr hp))]
  · obtain ⟨lo, hi, hn, e1⟩ := k2 fun h => hp (mem_setI.mp h)
    obtain ⟨lo', hi', hn', e2⟩ := j2 fun h => hp (e.mp (mem_setI.mp h))
    have hm : Near (setI us) 0 (n - 1) (n - 1 - p) (n - 1 - hi) (n - 1 - lo) := by
      obtain ⟨y1, y2, y3, y4, y5, y6, y7⟩ := hn
      refine ⟨by omega, by omega, ?_, by omega, by omega, ?_, fun t h => ?_⟩
      · rcases y6 with y6 | y6
        · exact .inl (by omega)
        · refine .inr (mem_setI.mpr ((hu _).mpr ?_))
          rw [show n - 1 - (n - 1 - hi - 1) = hi + 1 by omega]
          exact mem_setI.mp y6
      · rcases y3 with y3 | y3
        · exact .inl (by omega)
        · refine .inr (mem_setI.mpr ((hu _).mpr ?_))
          rw [show n - 1 - (n - 1 - lo + 1) = lo - 1 by omega]
          exact mem_setI.mp y3
      · have := y7 _ (mem_setI.mpr ((hu t).mp (mem_setI.mp h)))
        omega
    obtain ⟨u1, u2⟩ := hn'.uniq hm
    rw [e1, e2, u1, u2, movZ_mir]
theorem setI_plain (kd : Int) (bk : Bool) (n : Int) : setI (plainL kd bk n) = plainL kd bk n := setI_id (by unfold plainL; split <;> simp)
def strP (fi h m o : Int) (bk late : Bool) : D := .tup [.str "stretch", .int fi, .tup [.int h, .int m, .int o], .str (sdS bk), .bl late]
end Lw
namespace Gp
open PySem
theorem s_notinI (p : Int) (ts : List Int) : notinD (.int p) (.lst (ts.map D.int)) = .ok (.bl (!decide (p ∈ ts))) := by
  have h := s_inI p ts
  unfold inOD at h
  unfold notinD
  cases e : inB (.int p) (.lst (ts.map D.int)) with
  | ok k =>
    rw [e] at h
    have : k = decide (p ∈ ts) := by
      have h' : Tr.ok (D.bl k) = Tr.ok (.bl (decide (p ∈ ts))) := h
      simpa using h'
    subst this
    rfl
  | ex c fs => rw [e] at h; cases h
  | bad => rw [e] at h; cases h
  | draw m f => rw [e] at h; cases h
end Gp
namespace Lw
open PySem Gp
theorem q_law_plain {kd n : Int} {bk : Bool} (hk : kd = 0 ∨ kd = 1) : F__law_plain (.int kd) (.str (sdS bk)) (.int n) = .ok (.lst ((plainL kd bk n).map D.int)) := by
  have e1 : ([.int 0] : List D).length ≤ sizeLine := by simp [sizeLine]
  have e2 : ([.int (n - 1)] : List D).length ≤ sizeLine := by simp [sizeLine]
  simp -implicitDefEqProofs only [F__law_plain, s_bd, s_eqs, s_asB, sd_front, s_sub]
  rcases hk with rfl | rfl <;> cases bk <;> simp [mulD, plainL, sizeLine]
theorem q_law_kinds {fi h m o : Int} {bk late : Bool} {c : Nat} (hc : c ≤ 16777216) : F__law_kinds (strP fi h m o bk late) (.int c) = .ok (.lst ((List.range' 0 c).map fun k : Nat => .int ((begZ fi c late + k) % 2))) := by
  have e1 : ∀ b : Int, lcF (fun d => nox (bd (addD (.int b) d) fun v21 => bd (intD v21) fun v23 => bd (modD v23 (.int 2)) fun y => .ok (some y))) ((List.range' 0 c).map fun k : Nat => D.int k) = .ok ((List.range' 0 c).map fun k : Nat => .int ((b + k) % 2)) := fun b => lcF_gen fun x _ => rfl
  simp -implicitDefEqProofs only [F__law_kinds, strP, s_bd, ix_t4, ix_t1, s_asB, s_ul1, s_int, s_mod2, s_eq, s_sub, s_rg1 hc, s_bdbd]
  unfold begZ
  cases late
  · simp -implicitDefEqProofs only [Bool.false_eq_true, if_false, s_bd, false_and]
    simp [e1]
  · simp -implicitDefEqProofs only [if_true, s_bd, true_and]
    by_cases q : (c : Int) % 2 = 0
    · simp -implicitDefEqProofs only [q, decide_true, if_true, s_bd]
      simp [e1]
    · simp -implicitDefEqProofs only [q, decide_false, Bool.false_eq_true, if_false, s_bd]
      simp [e1]
theorem q_law_count {h m o n : Int} (k : spOk h m o) : F__law_count (.tup [.int h, .int m, .int o]) (.int n) = .ok (.int (cntZ h m o n)) := by
  have e1 : (-(2 ^ 64) < h ∧ h < 2 ^ 64) ∨ (-(2 ^ 64) < n / 2 ∧ n / 2 < 2 ^ 64) := .inl (by unfold spOk at k; omega)
  have e2 : (-(2 ^ 64) < o ∧ o < 2 ^ 64) ∨ (-(2 ^ 64) < n % 2 ∧ n % 2 < 2 ^ 64) := .inl (by unfold spOk at k; omega)
  have e3 : h * (n / 2) + m + o * (n % 2) = numZ h m o n := by unfold numZ; omega
  simp -implicitDefEqProofs only [F__law_count, s_bd, ix_t0, ix_t1, ix_t2, s_div2, s_mul e1, s_add, s_ul1, s_int, s_mod2, s_mul e2, e3, s_gt, s_asB]
  unfold cntZ
  by_cases q : 0 < numZ h m o n <;> simp [q]
def tauZ (bk : Bool) (n q : Int) : Int := if bk = true then n - 1 - q else q
theorem tau_tau (bk : Bool) (n q : Int) : tauZ bk n (tauZ bk n q) = q := by unfold tauZ; split <;> omega
theorem tau_rng {bk : Bool} {n q : Int} (h0 : 0 ≤ q) (h1 : q < n) : 0 ≤ tauZ bk n q ∧ tauZ bk n q < n := by unfold tauZ; split <;> omega
def stZ (bk : Bool) (ts : List Int) (n q : Int) : Int := ledL bk q (runsL 0 (setI ts) n)
theorem tau_mem {bk : Bool} {n : Int} {ts : List Int} (k : Int) : k ∈ ts.map (tauZ bk n) ↔ tauZ bk n k ∈ ts := by
  rw [List.mem_map]
  constructor
  · rintro ⟨x, h, rfl⟩
    rw [tau_tau]; exact h
  · intro h
    exact ⟨_, h, tau_tau ..⟩
theorem st_tau {bk : Bool} {n k : Int} {ts : List Int} (ht : ∀ t ∈ ts, 0 ≤ t ∧ t < n) (h0 : 0 ≤ k) (h1 : k < n) : stZ bk ts n (tauZ bk n k) = tauZ bk n (frZ (ts.map (tauZ bk n)) n k) := by
  cases bk with
  | false =>
    have e : ts.map (tauZ false n) = ts := by
      have : (tauZ false n) = id := by funext q; rfl
      rw [this, List.map_id]
    rw [e]
    rfl
  | true =>
    have z := led_mir (bk := true) (us := ts.map (tauZ true n)) ht (fun t => tau_mem t) (p := n - 1 - k) (by omega) (by omega)
    rw [show n - 1 - (n - 1 - k) = k by omega] at z
    show ledL true (n - 1 - k) _ = n - 1 - ledL false k _
    have z' : ledL false k (runsL 0 (setI (ts.map (tauZ true n))) n) = n - 1 - ledL true (n - 1 - k) (runsL 0 (setI ts) n) := z
    rw [z']
    omega
theorem q_law_changed {n : Nat} {a : Int → Int} {ts : List Int} {bk : Bool} (hn : n < 100000) (ht : ∀ t ∈ ts, 0 ≤ t ∧ t < (n : Int)) :
    F__law_changed (.lst ((rowL n a).map D.int)) (.lst (ts.map D.int)) (.str (sdS bk)) = .ok (.lst ((rowL n fun q => a (stZ bk ts n q)).map D.int)) := by
  have hr : ∀ t ∈ ts.map (tauZ bk n), 0 ≤ t ∧ t < (n : Int) := fun t h => by
    obtain ⟨x, hx, rfl⟩ := List.mem_map.mp h
    have := ht x hx
    exact tau_rng this.1 this.2
  have hl : listL (.lst ((rowL n a).map D.int)) = .ok ((rowL n a).map D.int) := rfl
  have hlen : ((rowL n a).map D.int).length = n := by rw [List.length_map, rowL_len]
  unfold F__law_changed
  generalize hf : (100000 : Nat) = fuel
  have hfu : n < fuel := by omega
  simp -implicitDefEqProofs only [s_bd, hl, s_ul1, s_len, hlen, rgA1, s_listR (show n ≤ 16777216 by omega), s_ul3, uoD, s_bdFbd, s_bdbd]
  have hline : ∀ {W L : Type} (k : D → Tr (Fl Unit Empty)), (bd (eqD (.str (sdS bk)) (.str "back")) fun a => bd (asB a) fun b => bdF (if b = true then bd (revA (.lst ((rowL n id).map D.int))) fun x => .ok (.nx x) else .ok (.nx (.lst ((rowL n id).map D.int)))) k) = k (.lst ((rowL n (tauZ bk n)).map D.int)) := fun k => by
    simp -implicitDefEqProofs only [s_eqs, s_bd, s_asB, sd_back]
    cases bk with
    | false => rfl
    | true =>
      have e : revA (.lst ((rowL n id).map D.int)) = .ok (.lst ((rowL n (tauZ true n)).map D.int)) := by
        show Tr.ok (D.lst ((rowL n id).map D.int).reverse) = _
        rw [← List.map_reverse, rowL_rev]
        rfl
      simp -implicitDefEqProofs only [if_true, e, s_bd, s_bdF]
  rw [hline (W := Unit) (L := Unit)]
  have hlen2 : ∀ b : Int → Int, ((rowL n b).map D.int).length = n := fun b => by rw [List.length_map, rowL_len]
  have e0 : ((rowL n a).map D.int, D.int 0) = (((rowL n fun q => if tauZ bk n q < ((0 : Nat) : Int) then a (stZ bk ts n q) else a q).map D.int, D.int ((0 : Nat) : Int)) : List D × D) := by
    rw [rowL_congr (a := fun q => if tauZ bk n q < ((0 : Nat) : Int) then a (stZ bk ts n q) else a q) (b := a) fun q h0 h1 => by
      have := tau_rng (bk := bk) h0 h1
      rw [if_neg (by omega)]]
    rfl
  rw [e0, wh_gr (n := n) (B := fun k => Bd (ts.map (tauZ bk n)) n k) (G := fun k => (rowL n fun q => if tauZ bk n q < k then a (stZ bk ts n q) else a q).map D.int) (fun k hk => ?_) (fun k hk hB => ?_) fuel 0 (by omega) (Nat.zero_le _) bd_zero]
  · simp -implicitDefEqProofs only [s_bdF, s_finr]
    rw [rowL_congr (a := fun q => if tauZ bk n q < (n : Int) then a (stZ bk ts n q) else a q) (b := fun q => a (stZ bk ts n q)) fun q h0 h1 => by
      have := tau_rng (bk := bk) h0 h1
      rw [if_pos (by omega)]]
  · simp -implicitDefEqProofs only [s_len, hlen2, s_bd, s_lt, s_asB]
  · have k0 : (0 : Int) ≤ k := by omega
    have k1 : (k : Int) < n := by omega
    have r1 := tau_rng (bk := bk) k0 k1
    have e1 := s_ixR (a := tauZ bk n) k0 k1
    have m1 : tauZ bk n k ∈ ts ↔ (k : Int) ∈ ts.map (tauZ bk n) := (tau_mem _).symm
    have m2 : tauZ bk n (k + 1) ∈ ts ↔ (k : Int) + 1 ∈ ts.map (tauZ bk n) := (tau_mem _).symm
    by_cases q : (k : Int) ∉ ts.map (tauZ bk n) ∧ (k : Int) + 1 < n ∧ (k : Int) + 1 ∉ ts.map (tauZ bk n)
    · obtain ⟨q1, q2, q3⟩ := q
      have k2 : (0 : Int) ≤ (k : Int) + 1 := by omega
      have r2 := tau_rng (bk := bk) k2 q2
      have e2 := s_ixR (a := tauZ bk n) k2 q2
      have n1 : ¬ tauZ bk n k ∈ ts := fun z => q1 (m1.mp z)
      have n2 : ¬ tauZ bk n (k + 1) ∈ ts := fun z => q3 (m2.mp z)
      obtain ⟨d1, d2, hB2⟩ := gr_pair hr k0 q2 hB q1 q3
      have c1 : stZ bk ts n (tauZ bk n k) = tauZ bk n (k + 1) := by rw [st_tau ht k0 k1, d1]
      have c2 : stZ bk ts n (tauZ bk n (k + 1)) = tauZ bk n k := by rw [st_tau ht k2 q2, d2]
      refine ⟨k + 2, by omega, by omega, by rw [show ((k + 2 : Nat) : Int) = (k : Int) + 2 by omega]; exact hB2, ?_⟩
      have x1 := s_ixR (a := a) r1.1 r1.2
      have x2 := s_ixR (a := a) r2.1 r2.2
      have g1 := s_setR (a := fun q => if tauZ bk n q < (k : Int) then a (stZ bk ts n q) else a q) (v := a (tauZ bk n (k + 1))) r1.1 r1.2
      have g2 := s_setR (a := updF (fun q => if tauZ bk n q < (k : Int) then a (stZ bk ts n q) else a q) (tauZ bk n k) (a (tauZ bk n (k + 1)))) (v := a (tauZ bk n k)) r2.1 r2.2
      simp -implicitDefEqProofs only [e1, s_bd, s_notinI, n1, decide_false, Bool.not_false, s_asB, if_true, s_add, s_len, hlen2, s_lt, q2, decide_true, e2, n2, x1, x2, g1, g2, s_bdF]
      have eR : rowL n (updF (updF (fun q => if tauZ bk n q < (k : Int) then a (stZ bk ts n q) else a q) (tauZ bk n k) (a (tauZ bk n (k + 1)))) (tauZ bk n (k + 1)) (a (tauZ bk n k))) = rowL n (fun q => if tauZ bk n q < ((k + 2 : Nat) : Int) then a (stZ bk ts n q) else a q) := rowL_congr fun x h0 h1 => by
        unfold updF
        by_cases y1 : x = tauZ bk n (k + 1)
        · subst y1
          rw [if_pos rfl, tau_tau, if_pos (by omega), c2]
        · rw [if_neg y1]
          by_cases y2 : x = tauZ bk n k
          · subst y2
            rw [if_pos rfl, tau_tau, if_pos (by omega), c1]
          · rw [if_neg y2]
            dsimp only
            have z1 : tauZ bk n x ≠ k := fun z => y2 (by rw [← z, tau_tau])
            have z2 : tauZ bk n x ≠ (k : Int) + 1 := fun z => y1 (by rw [← z, tau_tau])
            by_cases z : tauZ bk n x < (k : Int)
            · rw [if_pos z, if_pos (by omega)]
            · rw [if_neg z, if_neg (by omega)]
      rw [eR]
      show Tr.ok (Fl.nx (_, D.int ((k : Int) + 1 + 1))) = _
      rw [show (k : Int) + 1 + 1 = ((k + 2 : Nat) : Int) by omega]
    · obtain ⟨d1, hB1⟩ := gr_none hr k0 k1 hB q
      have c1 : stZ bk ts n (tauZ bk n k) = tauZ bk n k := by rw [st_tau ht k0 k1, d1]
      refine ⟨k + 1, by omega, by omega, by rw [show ((k + 1 : Nat) : Int) = (k : Int) + 1 by omega]; exact hB1, ?_⟩
      have eC : (if (!decide (tauZ bk n k ∈ ts)) = true then (if decide ((k : Int) + 1 < n) = true then bd (ixD (.lst ((rowL n (tauZ bk n)).map D.int)) (.int ((k : Int) + 1))) fun v => bd (notinD v (.lst (ts.map D.int))) asB else .ok false) else Tr.ok false) = .ok false := by
        by_cases q1 : tauZ bk n k ∈ ts
        · simp [q1]
        · by_cases q2 : (k : Int) + 1 < n
          · have k2 : (0 : Int) ≤ (k : Int) + 1 := by omega
            have q3 : tauZ bk n (k + 1) ∈ ts := by
              by_cases z : tauZ bk n (k + 1) ∈ ts
              · exact z
              · exact absurd ⟨fun y => q1 (m1.mpr y), q2, fun y => z (m2.mpr y)⟩ q
            simp [q1, q2, s_ixR (a := tauZ bk n) k2 q2, s_notinI, q3]
          · simp [q1, q2]
      simp -implicitDefEqProofs only [e1, s_bd, s_notinI, s_asB, s_add, s_len, hlen2, s_lt, eC, Bool.false_eq_true, if_false, s_bdF]
      have eR : rowL n (fun q => if tauZ bk n q < (k : Int) then a (stZ bk ts n q) else a q) = rowL n (fun q => if tauZ bk n q < ((k + 1 : Nat) : Int) then a (stZ bk ts n q) else a q) := rowL_congr fun x h0 h1 => by
        by_cases y2 : x = tauZ bk n k
        · subst y2
          rw [tau_tau, if_neg (by omega), if_pos (by omega), c1]
        · have z1 : tauZ bk n x ≠ k := fun z => y2 (by rw [← z, tau_tau])
          by_cases z : tauZ bk n x < (k : Int)
          · rw [if_pos z, if_pos (by omega)]
          · rw [if_neg z, if_neg (by omega)]
      rw [eR]
      rfl
end Lw
namespace Gp
open PySem
theorem forF_row {α L : Type} {f : D → D → Tr (Fl D D)} {h : α → D} {g : α → Int → Int} {n : Nat} : ∀ {xs : List α} {a : Int → Int}, (∀ x ∈ xs, ∀ a : Int → Int, f (h x) (.lst ((rowL n a).map D.int)) = .ok (.nx (.lst ((rowL n fun q => a (g x q)).map D.int)))) →
    forF (L := L) f (xs.map h) (.lst ((rowL n a).map D.int)) = .ok (.nx (.lst ((rowL n fun q => a (xs.foldr g q)).map D.int)))
  | [], _, _ => rfl
  | x :: xs, a, hf => by
    rw [List.map_cons, forF_cons, hf x List.mem_cons_self a, s_bd]
    exact forF_row fun y hy => hf y (List.mem_cons_of_mem _ hy)
end Gp
namespace Lw
open PySem Gp
theorem stZ_rng {bk : Bool} {n q : Int} {ts : List Int} (ht : ∀ t ∈ ts, 0 ≤ t ∧ t < n) (h0 : 0 ≤ q) (h1 : q < n) : 0 ≤ stZ bk ts n q ∧ stZ bk ts n q < n := by
  obtain ⟨k1, k2⟩ := led_runs (bk := bk) (p := q) (n := n) (b := 0) (ris_setI ts) (fun t h => ht t (mem_setI.mp h)) h0 h1
  by_cases hp : q ∈ setI ts
  · have : stZ bk ts n q = q := k1 hp
    omega
  · obtain ⟨lo, hi, hn, e⟩ := k2 hp
    have e' : stZ bk ts n q = movZ bk lo hi q := e
    have := movZ_rng (bk := bk) hn.l1 hn.h1
    have := hn.l0
    have := hn.h0
    omega
theorem stZ_back {bk : Bool} {n p : Int} {ts : List Int} (hr : ∀ t ∈ ts, 0 ≤ t ∧ t < n) (h0 : 0 ≤ p) (h1 : p < n) : stZ bk ts n (stZ bk ts n p) = p := by
  have r := stZ_rng (bk := bk) hr h0 h1
  unfold stZ at r ⊢
  obtain ⟨k1, k2⟩ := led_runs (bk := bk) (p := p) (n := n) (b := 0) (ris_setI ts) (fun t h => hr t (mem_setI.mp h)) h0 h1
  by_cases hp : p ∈ setI ts
  · rw [k1 hp, k1 hp]
  · obtain ⟨lo, hi, hn, e⟩ := k2 hp
    rw [e] at r ⊢
    have hm := movZ_rng (bk := bk) hn.l1 hn.h1
    generalize eq : movZ bk lo hi p = q at r hm ⊢
    obtain ⟨j1, j2⟩ := led_runs (bk := bk) (p := q) (n := n) (b := 0) (ris_setI ts) (fun t h => hr t (mem_setI.mp h)) r.1 r.2
    have hq : q ∉ setI ts := fun h => by
      have := hn.no q h
      omega
    obtain ⟨lo', hi', hn', e'⟩ := j2 hq
    have hn2 : Near (setI ts) 0 (n - 1) q lo hi := ⟨hn.l0, hm.1, hn.l2, hn.h0, hm.2, hn.h2, hn.no⟩
    obtain ⟨u1, u2⟩ := hn'.uniq hn2
    rw [e', u1, u2, ← eq, movZ_inv hn.l1 hn.h1]
theorem plain_st (bk : Bool) (n kd q : Int) : plainZ bk n kd q = stZ bk (plainL kd bk n) n q := by
  unfold plainZ stZ
  rw [setI_plain]
theorem plain_undo {bk : Bool} {n : Int} {kd : Nat → Int} : ∀ (xs : List Nat) {p : Int}, (∀ k ∈ xs, kd k = 0 ∨ kd k = 1) → 0 ≤ p → p < n →
    xs.foldr (fun (k : Nat) (q : Int) => plainZ bk n (kd k) q) (xs.foldl (fun (q : Int) (k : Nat) => plainZ bk n (kd k) q) p) = p
  | [], _, _, _, _ => rfl
  | k :: xs, p, hk, h0, h1 => by
    have r := plainZ_rng (bk := bk) h0 h1 (hk k List.mem_cons_self)
    rw [List.foldr_cons, List.foldl_cons, plain_undo xs (fun x hx => hk x (List.mem_cons_of_mem _ hx)) r.1 r.2, plain_st, plain_st]
    exact stZ_back (plain_mem (by omega)) h0 h1
theorem to_fold {fi h m o n p : Int} {bk late : Bool} {c : Nat} (hf : fi = 0 ∨ fi = 1) (hc : cntZ h m o n = c) (h0 : 0 ≤ p) (h1 : p < n) :
    toZ fi h m o (sdS bk) late n p = (List.range' 0 c).foldl (fun (p : Int) (k : Nat) => plainZ bk n ((begZ fi c late + k) % 2) p) p := by
  have hb := beg01 (c := (c : Int)) (late := late) hf
  rw [plain_fold c 0 h0 h1]
  unfold toZ
  rw [hc, kind_flip]
  congr 3
  have : ((0 : Nat) : Int) = 0 := rfl
  omega
theorem cnt_nat (h m o n : Int) : ∃ c : Nat, cntZ h m o n = c := by
  refine ⟨(cntZ h m o n).toNat, ?_⟩
  have : 0 ≤ cntZ h m o n := by unfold cntZ; split <;> omega
  omega
end Lw
end
section
set_option Elab.async false
set_option linter.all false
set_option maxRecDepth 100000
set_option maxHeartbeats 400000
namespace Lw
open PySem Gp
@[simp] theorem s_draw (m : Int) : F_draw .pen (.int m) = .draw m fun d => .ok (.int d) := rfl
theorem q_pick (ds : List D) : F__law_pick .pen (.lst ds) = .draw ds.length fun i => ixD (.lst ds) (.int i) := by
  simp [F__law_pick]
theorem b_pick {P : D → Prop} {ds : List D} (h0 : 0 < ds.length) (h1 : ds.length ≤ 100000) (h : ∀ d ∈ ds, P d) : Bo P (F__law_pick .pen (.lst ds)) 1 := by
  rw [q_pick]
  exact bo_pick h0 h1 h
theorem s_lst (ds : List D) (h : ds.length ≤ sizeLine) : (if ds.length ≤ sizeLine then Tr.ok (D.lst ds) else .bad) = .ok (.lst ds) := if_pos h
theorem s_tup (ds : List D) (h : ds.length ≤ sizeLine) : (if ds.length ≤ sizeLine then Tr.ok (D.tup ds) else .bad) = .ok (.tup ds) := if_pos h
theorem b_side : Bo (fun d => ∃ bk : Bool, d = .str (sdS bk)) (F__law_pick .pen (.lst [.str "front", .str "back"])) 1 :=
  b_pick (by simp) (by simp) fun d hd => by
    simp only [List.mem_cons, List.mem_nil_iff, or_false] at hd
    rcases hd with rfl | rfl
    · exact ⟨false, rfl⟩
    · exact ⟨true, rfl⟩
theorem b_part (h m o : Int) : Bo (fun d => ∃ fi bk late, d = strP fi h m o bk late ∧ (fi = 0 ∨ fi = 1)) (F__law_part .pen (.tup [.int h, .int m, .int o])) 3 := by
  unfold F__law_part
  simp -implicitDefEqProofs only [s_bd, s_ul2, s_draw, s_bdd, s_find, s_finbd, s_bdbd, s_eq, s_lst _ (show ([.str "front", .str "back"] : List D).length ≤ sizeLine by simp [sizeLine])]
  refine bo_draw (by decide) (by decide) fun f f0 f1 => ?_
  refine bo_then (a := 1) (b := 1) b_side (fun x hx => ?_) (by decide)
  obtain ⟨bk, rfl⟩ := hx

  refine bo_draw (by decide) (by decide) fun l l0 l1 => ?_
  simp -implicitDefEqProofs only [s_bd, s_finr, s_tup _ (show ([.str "stretch", .int f, .tup [.int h, .int m, .int o], .str (sdS bk), .bl (decide (l = 0))] : List D).length ≤ sizeLine by simp [sizeLine])]
  exact bo_ok ⟨f, bk, decide (l = 0), rfl, by omega⟩
theorem fold_span (h m o : Int) : D.obj "Span" [("own_parts", .tup [.int h, .int m, .int o])] = spanD h m o := rfl
theorem fold_str (f : Int) (sp : D) (sd : Str) (late : Bool) : D.obj "Stretch" (stfs f sp sd late) = strD f sp sd late := rfl
theorem q_lstr {fi h m o : Int} {bk late : Bool} (hf : fi = 0 ∨ fi = 1) (k : spOk h m o) : F__law_stretch (strP fi h m o bk late) = .ok (strD fi (spanD h m o) (sdS bk) late) := by
  have hs := sd_or bk
  have hs' : sdS bk = "front" ∨ sdS bk = "back" := hs
  have e1 : ixD (strP fi h m o bk late) (.int 1) = .ok (.int fi) := rfl
  have e2 : ixD (strP fi h m o bk late) (.int 2) = .ok (.tup [.int h, .int m, .int o]) := rfl
  have e3 : ixD (strP fi h m o bk late) (.int 3) = .ok (.str (sdS bk)) := rfl
  have e4 : ixD (strP fi h m o bk late) (.int 4) = .ok (.bl late) := rfl
  unfold F__law_stretch
  simp -implicitDefEqProofs only [s_bd, e1, e2, e3, e4, ix_t0, ix_t1, ix_t2, s_ul2, s_ul3, s_ul4, q_span k, fold_span, q_stretch hf hs', fold_str, s_finr]
end Lw
end
section
set_option Elab.async false
set_option linter.all false
set_option maxRecDepth 100000
set_option maxHeartbeats 400000
namespace Gp
open PySem
theorem ixFind_at : ∀ {l : List Int} {j : Nat} {p : Int}, l[j]? = some p → (∀ m : Nat, m < j → l[m]? ≠ some p) → ixFind (l.map D.int) p = some j
  | [], j, p, h, _ => by simp at h
  | x :: l, 0, p, h, _ => by
    have : x = p := by simpa using h
    subst this
    simp [ixFind]
  | x :: l, j + 1, p, h, h2 => by
    have hx : ¬ x = p := fun e => h2 0 (Nat.succ_pos j) (by rw [e]; rfl)
    have z := ixFind_at (l := l) (j := j) (p := p) (by simpa using h) (fun m hm e => h2 (m + 1) (by omega) (by simpa using e))
    simp [ixFind, hx, z]
theorem ints_all (l : List Int) : (l.map D.int).all isIntD = true := by
  rw [List.all_map]
  exact List.all_eq_true.mpr fun _ _ => rfl
theorem q_index {n : Nat} {a : Int → Int} {p q : Int} (h0 : 0 ≤ q) (h1 : q < n) (e : a q = p) (u : ∀ x : Int, 0 ≤ x → x < n → a x = p → x = q) : indexD (.lst ((rowL n a).map D.int)) (.int p) = .ok (.int q) := by
  obtain ⟨j, rfl⟩ := Int.eq_ofNat_of_zero_le h0
  have hj : j < n := by omega
  have z := ixFind_at (l := rowL n a) (j := j) (p := p) (by rw [rowL_get hj, e]) (fun m hm e2 => by
    rw [rowL_get (by omega)] at e2
    have := u m (by omega) (by omega) (Option.some.inj e2)
    omega)
  unfold indexD
  dsimp only
  rw [if_pos (ints_all _), z]
end Gp
namespace Lw
open PySem Gp
theorem plain_undo2 {bk : Bool} {n : Int} {kd : Nat → Int} : ∀ (xs : List Nat) {q : Int}, (∀ k ∈ xs, kd k = 0 ∨ kd k = 1) → 0 ≤ q → q < n →
    (0 ≤ xs.foldr (fun (k : Nat) (q : Int) => plainZ bk n (kd k) q) q ∧ xs.foldr (fun (k : Nat) (q : Int) => plainZ bk n (kd k) q) q < n) ∧ xs.foldl (fun (q : Int) (k : Nat) => plainZ bk n (kd k) q) (xs.foldr (fun (k : Nat) (q : Int) => plainZ bk n (kd k) q) q) = q
  | [], _, _, h0, h1 => ⟨⟨h0, h1⟩, rfl⟩
  | k :: xs, q, hk, h0, h1 => by
    obtain ⟨r, e⟩ := plain_undo2 (bk := bk) (n := n) (kd := kd) xs (fun x hx => hk x (List.mem_cons_of_mem _ hx)) h0 h1
    have kk := hk k List.mem_cons_self
    rw [List.foldr_cons, List.foldl_cons]
    generalize ez : xs.foldr (fun (k : Nat) (q : Int) => plainZ bk n (kd k) q) q = z at r e ⊢
    have e2 : plainZ bk n (kd k) (plainZ bk n (kd k) z) = z := by
      rw [plain_st, plain_st]
      exact stZ_back (plain_mem (by omega)) r.1 r.2
    exact ⟨plainZ_rng r.1 r.2 kk, by rw [e2, e]⟩
def bakZ (fi : Int) (bk late : Bool) (c : Nat) (n q : Int) : Int := (List.range' 0 c).foldr (fun (k : Nat) (q : Int) => plainZ bk n ((begZ fi c late + k) % 2) q) q
theorem q_played {n : Nat} (hn : 1 ≤ n ∧ n ≤ 2000) {r c : Nat} {a : Int → Int} {fi h m o : Int} {bk late : Bool} (hf : fi = 0 ∨ fi = 1) (k : spOk h m o) (hc : cntZ h m o n = c) :
    F__law_played (r + 1) (.lst ((rowL n a).map D.int)) (strP fi h m o bk late) = .ok (.lst ((rowL n fun q => a (bakZ fi bk late c n q)).map D.int)) := by
  have hlen : ((rowL n a).map D.int).length = n := by rw [List.length_map, rowL_len]
  have hl : listD (.lst ((rowL n a).map D.int)) = .ok (.lst ((rowL n a).map D.int)) := rfl
  have e0 : ixD (strP fi h m o bk late) (.int 0) = .ok (.str "stretch") := rfl
  have e2 : ixD (strP fi h m o bk late) (.int 2) = .ok (.tup [.int h, .int m, .int o]) := rfl
  have e3 : ixD (strP fi h m o bk late) (.int 3) = .ok (.str (sdS bk)) := rfl
  have n_sc : ¬ ("stretch" : Str) = "change" := by decide
  have hcb : c ≤ 16777216 := by
    have k' := k
    unfold spOk at k'
    have h3 : h * ((n : Int) / 2) ≤ 8 * ((n : Int) / 2) := Int.mul_le_mul_of_nonneg_right (by omega) (by omega)
    have h4 : o * ((n : Int) % 2) = 0 ∨ o * ((n : Int) % 2) = o := by
      rcases (show (n : Int) % 2 = 0 ∨ (n : Int) % 2 = 1 by omega) with e | e <;> rw [e] <;> omega
    unfold cntZ numZ at hc
    split at hc <;> omega
  have ek := q_law_kinds (fi := fi) (h := h) (m := m) (o := o) (bk := bk) (late := late) hcb
  have en := q_law_count (n := n) k
  have loop := forF_row (L := Empty) (f := fun d w => bd (F__law_plain d (.str (sdS bk)) (.int (n : Int))) fun v => bd (F__law_changed w v (.str (sdS bk))) fun l => .ok (.nx l)) (h := fun k : Nat => D.int ((begZ fi c late + k) % 2)) (g := fun (k : Nat) q => plainZ bk n ((begZ fi c late + k) % 2) q) (n := n) (xs := List.range' 0 c) (a := a) fun k _ a => by
    have hk : (begZ fi c late + (k : Int)) % 2 = 0 ∨ (begZ fi c late + (k : Int)) % 2 = 1 := by omega
    have ec := q_law_changed (a := a) (bk := bk) (show n < 100000 by omega) (plain_mem (kd := (begZ fi c late + (k : Int)) % 2) (bk := bk) (show (1 : Int) ≤ n by omega))
    have ep : (rowL n fun q => a (stZ bk (plainL ((begZ fi c late + (k : Int)) % 2) bk n) n q)) = rowL n fun q => a (plainZ bk n ((begZ fi c late + (k : Int)) % 2) q) := rowL_congr fun q _ _ => by rw [plain_st]
    rw [q_law_plain hk, s_bd, ec, s_bd, ep]
  unfold F__law_played
  simp -implicitDefEqProofs only [s_bd, s_ul1, s_ul2, s_len, hlen, hl, e0, e2, s_eqs, n_sc, decide_false, decide_true, s_asB, Bool.false_eq_true, if_true, if_false, s_bdF, en, hc, ek, s_itl, e3, s_ul3, s_bdbd]
  rw [loop]
  rfl
theorem bak_to {n p : Int} {c : Nat} {fi h m o : Int} {bk late : Bool} (hf : fi = 0 ∨ fi = 1) (hc : cntZ h m o n = c) (h0 : 0 ≤ p) (h1 : p < n) :
    bakZ fi bk late c n (toZ fi h m o (sdS bk) late n p) = p ∧ ∀ x : Int, 0 ≤ x → x < n → bakZ fi bk late c n x = p → x = toZ fi h m o (sdS bk) late n p := by
  have e := to_fold (bk := bk) (late := late) hf hc h0 h1
  have hk : ∀ k ∈ List.range' 0 c, (begZ fi c late + (k : Int)) % 2 = 0 ∨ (begZ fi c late + (k : Int)) % 2 = 1 := fun k _ => by omega
  constructor
  · rw [e]
    exact plain_undo (bk := bk) (kd := fun k => (begZ fi c late + (k : Int)) % 2) (List.range' 0 c) hk h0 h1
  · intro x x0 x1 ex
    have := (plain_undo2 (bk := bk) (kd := fun k => (begZ fi c late + (k : Int)) % 2) (List.range' 0 c) hk x0 x1).2
    rw [e, ← ex]
    exact this.symm
theorem b_short {n : Nat} (hn : 1 ≤ n ∧ n ≤ 2000) : Bx (fun d => d = .bl true) (F__law_short_right .pen (.int n)) 6 := by
  unfold F__law_short_right
  simp -implicitDefEqProofs only [s_bd, s_ul1, s_ul2, s_ul3, s_neg, s_lst _ (show ([.int 0, .int 1, .int 2, .int 8] : List D).length ≤ sizeLine by simp [sizeLine]), s_lst _ (show ([.int 0, .int 1, .int (-1), .int (-4), .int 7, .int 12, .int 31] : List D).length ≤ sizeLine by simp [sizeLine]), s_lst _ (show ([.int 0, .int 1, .int (-1), .int 3] : List D).length ≤ sizeLine by simp [sizeLine]), s_finbd, s_bdbd]
  refine bx_then (a := 1) (b := 5) (P := fun d => ∃ h : Int, d = .int h ∧ 0 ≤ h ∧ h ≤ 8) (b_pick (by simp) (by simp) fun d hd => ?_) (fun x hx => ?_) (by decide)
  · simp only [List.mem_cons, List.mem_nil_iff, or_false] at hd
    rcases hd with rfl | rfl | rfl | rfl <;> exact ⟨_, rfl, by decide, by decide⟩
  obtain ⟨h, rfl, h0, h1⟩ := hx
  refine bx_then (a := 1) (b := 4) (P := fun d => ∃ h : Int, d = .int h ∧ -60 ≤ h ∧ h ≤ 60) (b_pick (by simp) (by simp) fun d hd => ?_) (fun x hx => ?_) (by decide)
  · simp only [List.mem_cons, List.mem_nil_iff, or_false] at hd
    rcases hd with rfl | rfl | rfl | rfl | rfl | rfl | rfl <;> exact ⟨_, rfl, by decide, by decide⟩
  obtain ⟨m, rfl, m0, m1⟩ := hx
  refine bx_then (a := 1) (b := 3) (P := fun d => ∃ h : Int, d = .int h ∧ -9 ≤ h ∧ h ≤ 9) (b_pick (by simp) (by simp) fun d hd => ?_) (fun x hx => ?_) (by decide)
  · simp only [List.mem_cons, List.mem_nil_iff, or_false] at hd
    rcases hd with rfl | rfl | rfl | rfl <;> exact ⟨_, rfl, by decide, by decide⟩
  obtain ⟨o, rfl, o0, o1⟩ := hx
  have k : spOk h m o := ⟨⟨h0, h1⟩, ⟨m0, m1⟩, o0, o1⟩
  simp -implicitDefEqProofs only [s_bd, s_ul2, s_tup _ (show ([.int h, .int m, .int o] : List D).length ≤ sizeLine by simp [sizeLine])]
  refine bx_then (a := 3) (b := 0) (b_part h m o) (fun x hx => ?_) (by decide)
  obtain ⟨fi, bk, late, rfl, hf⟩ := hx
  obtain ⟨c, hc⟩ := cnt_nat h m o n
  have e1 : rgOk 0 (n : Int) := by unfold rgOk; omega
  have hrow : rgD 0 ((n : Int) - 0).toNat = (rowL n id).map D.int := by rw [show ((n : Int) - 0).toNat = n by omega]; exact rg_row n
  have hcell : (rowL n id) = (List.range' 0 n).map fun k : Nat => (k : Int) := rfl
  have ert : rg1 (.int (n : Int)) = .ok ((List.range' 0 n).map fun k : Nat => D.int k) := s_rg1 (by omega)
  have en : (1 : Int) ≤ n ∧ (n : Int) ≤ N40 := ⟨by omega, Int.le_trans (show (n : Int) ≤ 2000 by omega) (by decide)⟩
  have et : (stfs fi (spanD h m o) (sdS bk) late).lookup ("to" : Str) = none := rfl
  have c1 : lcF (fun l_place68 => nox (bd (nox (F_Stretch_to (strD fi (spanD h m o) (sdS bk) late) (.int (n : Int)) l_place68)) fun y => Tr.ok (some y))) ((List.range' 0 n).map fun k : Nat => D.int k) = .ok ((List.range' 0 n).map fun k : Nat => D.int (toZ fi h m o (sdS bk) late n k)) := lcF_gen fun x hx => by
    have := List.mem_range'_1.mp hx
    rw [q_to k en ⟨by omega, by omega⟩]
    rfl
  have c2 : lcF (fun l_place76 => nox (bd (indexD (.lst ((rowL n fun q => bakZ fi bk late c n q).map D.int)) l_place76) fun y => Tr.ok (some y))) ((List.range' 0 n).map fun k : Nat => D.int k) = .ok ((List.range' 0 n).map fun k : Nat => D.int (toZ fi h m o (sdS bk) late n k)) := lcF_gen fun x hx => by
    have := List.mem_range'_1.mp hx
    have b := bak_to (bk := bk) (late := late) (n := n) (p := (x : Int)) hf hc (by omega) (by omega)
    have r := toZ_rng (f := fi) (h := h) (m := m) (o := o) (sd := sdS bk) (late := late) (n := n) (p := (x : Int)) (by omega)
    rw [q_index r.1 r.2 b.1 b.2]
    rfl
  have eqd : eqD (.lst ((List.range' 0 n).map fun k : Nat => D.int (toZ fi h m o (sdS bk) late n k))) (.lst ((List.range' 0 n).map fun k : Nat => D.int (toZ fi h m o (sdS bk) late n k))) = .ok (.bl true) := by
    have z := s_eq_ints ((List.range' 0 n).map fun k : Nat => toZ fi h m o (sdS bk) late n k) ((List.range' 0 n).map fun k : Nat => toZ fi h m o (sdS bk) late n k)
    rw [List.map_map] at z
    rw [decide_eq_true rfl] at z
    exact z
  have h2 : ∀ x y : D, (if ([x, y] : List D).length ≤ sizeLine then Tr.ok (D.tup [x, y]) else .bad) = .ok (.tup [x, y]) := fun _ _ => if_pos (by simp [sizeLine])
  simp -implicitDefEqProofs only [q_lstr hf k, s_bd, rgA1, e1, if_true, hrow, q_played (a := id) hn hf k hc, id_eq, h2, un2, isO_str, et, ert, c1, c2, eqd]
  trace_state
  exact bx_ok rfl
end Lw
end
section
set_option Elab.async false
set_option linter.all false
set_option maxRecDepth 100000
set_option maxHeartbeats 400000
namespace Lw
open PySem Gp
theorem q_plain_moved {kd n p : Int} {bk : Bool} (hk : kd = 0 ∨ kd = 1) (h0 : 0 ≤ p) (h1 : p < n) : F__law_moved (.int n) (.int p) (.lst ((plainL kd bk n).map D.int)) (.str (sdS bk)) = .ok (.int (plainZ bk n kd p)) := by
  rw [q_law_moved (bk := bk) (ts := plainL kd bk n) (plain_mem (by omega)) h0 h1, setI_plain]
  rfl
theorem q_went {fi m o n p : Int} {bk late : Bool} {r : Nat} (hf : fi = 0 ∨ fi = 1) (k : spOk 0 m o) (hn : 1 ≤ n) (h0 : 0 ≤ p) (h1 : p < n) : F__law_went (r + 1) (.int n) (.int p) (strP fi 0 m o bk late) = .ok (.int (toZ fi 0 m o (sdS bk) late n p)) := by
  have e0 : ixD (strP fi 0 m o bk late) (.int 0) = .ok (.str "stretch") := rfl
  have e2 : ixD (strP fi 0 m o bk late) (.int 2) = .ok (.tup [.int 0, .int m, .int o]) := rfl
  have e3 : ixD (strP fi 0 m o bk late) (.int 3) = .ok (.str (sdS bk)) := rfl
  have n1 : ¬ ("stretch" : Str) = "change" := by decide
  have hc : ∃ c : Nat, cntZ 0 m o n = c ∧ c ≤ 100 := by
    have k' := k
    unfold spOk at k'
    refine ⟨(cntZ 0 m o n).toNat, ?_, ?_⟩ <;> unfold cntZ numZ <;> have : n % 2 = 0 ∨ n % 2 = 1 := by omega
    all_goals rcases this with q | q <;> rw [q] <;> split <;> omega
  obtain ⟨c, ec, hc⟩ := hc
  have ek := q_law_kinds (fi := fi) (h := 0) (m := m) (o := o) (bk := bk) (late := late) (c := c) (by omega)
  have en := q_law_count (n := n) k
  have hk : ∀ x : Nat, (begZ fi c late + (x : Int)) % 2 = 0 ∨ (begZ fi c late + (x : Int)) % 2 = 1 := fun x => by omega
  obtain ⟨z1, z2⟩ := forF_fold (L := Empty) (f := fun (d36 : D) (w35 : D) => bd (F__law_plain d36 (.str (sdS bk)) (.int n)) fun v => bd (F__law_moved (.int n) w35 v (.str (sdS bk))) fun l => .ok (.nx l)) (h := fun k : Nat => .int ((begZ fi c late + k) % 2)) (g := fun (k : Nat) p => plainZ bk n ((begZ fi c late + k) % 2) p) (I := fun p => 0 ≤ p ∧ p < n) (xs := List.range' 0 c) (p := p) (fun x _ q hq => by
    rw [q_law_plain (hk x), s_bd, q_plain_moved (hk x) hq.1 hq.2, s_bd]
    exact ⟨rfl, plainZ_rng hq.1 hq.2 (hk x)⟩) ⟨h0, h1⟩
  have et := to_fold (bk := bk) (late := late) hf ec h0 h1
  unfold F__law_went
  simp -implicitDefEqProofs only [s_bd, e0, e2, e3, s_eqs, n1, decide_false, decide_true, Bool.false_eq_true, s_asB, if_true, if_false, s_bdF, s_ul2, en, ec, ek, s_itl, s_ul3, s_ul4, s_bdbd]
  rw [z1, et]
  rfl
theorem cnt_turns {m o n : Int} (hn : 1 ≤ n) (ho : 1 ≤ o) (hm : 0 ≤ m) : cntZ (2 * o) m o n = o * n + m := by
  have e : o * n = o * (2 * (n / 2) + n % 2) := by rw [show 2 * (n / 2) + n % 2 = n by omega]
  have h1 : 2 * o * (n / 2) + o * (n % 2) = o * n := by
    rw [e, Int.mul_add, ← Int.mul_assoc, Int.mul_comm o 2]
  have h2 : 0 < o * n := Int.mul_pos (by omega) (by omega)
  unfold cntZ numZ
  rw [h1, if_pos (by omega)]
theorem b_great : Bo (fun d => ∃ n p : Int, d = .tup [.int n, .int p] ∧ (1 ≤ n ∧ n ≤ N40) ∧ 0 ≤ p ∧ p < n) (F__law_great .pen) 7 := by
  apply Bx.bo
  unfold F__law_great
  have l3 : ∀ a b c : D, (if ([a, b, c] : List D).length ≤ sizeLine then Tr.ok (D.lst [a, b, c]) else .bad) = .ok (.lst [a, b, c]) := fun _ _ _ => if_pos (by simp [sizeLine])
  have l4 : ∀ a b c d : D, (if ([a, b, c, d] : List D).length ≤ sizeLine then Tr.ok (D.lst [a, b, c, d]) else .bad) = .ok (.lst [a, b, c, d]) := fun _ _ _ _ => if_pos (by simp [sizeLine])
  have t2 : ∀ x y : D, (if ([x, y] : List D).length ≤ sizeLine then Tr.ok (D.tup [x, y]) else .bad) = .ok (.tup [x, y]) := fun _ _ => if_pos (by simp [sizeLine])
  simp -implicitDefEqProofs only [s_bd, s_ul2, s_draw, s_bdd, s_find, s_finbd, s_bdbd, s_sub, l3]
  refine bx_draw (by decide) (by decide) fun d1 a1 b1 => bx_draw (by decide) (by decide) fun d2 a2 b2 => bx_draw (by decide) (by decide) fun d3 a3 b3 => ?_
  refine bx_then (a := 1) (b := 3) (P := fun d => ∃ x : Int, d = .int x ∧ 0 ≤ x ∧ x < 10000000000000000000000000000000000000000 - 1000) (b_pick (by simp) (by simp) fun d hd => ?_) (fun x hx => ?_) (by decide)
  · simp only [List.mem_cons, List.mem_nil_iff, or_false] at hd
    rcases hd with rfl | rfl | rfl <;> exact ⟨_, rfl, by omega, by omega⟩
  obtain ⟨x, rfl, x0, x1⟩ := hx
  simp -implicitDefEqProofs only [s_bd, s_add, s_find]
  generalize en : 1000 + x = n
  have n0 : 1000 ≤ n := by omega
  have n1 : n ≤ 10000000000000000000000000000000000000000 := by omega
  refine bx_draw (by decide) (by decide) fun d4 a4 b4 => ?_
  simp -implicitDefEqProofs only [s_bd, s_add, s_sub, s_div2, s_find, s_draw, s_ul2, s_bdd]
  refine bx_draw (by omega) (by omega) fun d5 a5 b5 => ?_
  simp -implicitDefEqProofs only [s_bd, l4, s_ul2]
  refine bx_then (a := 1) (b := 0) (P := fun d => ∃ x : Int, d = .int x ∧ 0 ≤ x ∧ x < n) (b_pick (by simp) (by simp) fun d hd => ?_) (fun x hx => ?_) (by decide)
  · simp only [List.mem_cons, List.mem_nil_iff, or_false] at hd
    rcases hd with rfl | rfl | rfl | rfl <;> exact ⟨_, rfl, by omega, by omega⟩
  obtain ⟨p, rfl, p0, p1⟩ := hx
  simp -implicitDefEqProofs only [s_bd, t2, s_finr]
  exact bx_ok ⟨n, p, rfl, ⟨by omega, n1⟩, p0, p1⟩
end Lw
end
section
set_option Elab.async false
set_option linter.all false
set_option maxRecDepth 100000
set_option maxHeartbeats 400000
namespace Lw
open PySem Gp
theorem b_greatR : Bx (fun d => d = .bl true) (F__law_great_right .pen) 20 := by
  unfold F__law_great_right
  have l6 : ∀ a b c d e f : D, (if ([a, b, c, d, e, f] : List D).length ≤ sizeLine then Tr.ok (D.lst [a, b, c, d, e, f]) else .bad) = .ok (.lst [a, b, c, d, e, f]) := fun _ _ _ _ _ _ => if_pos (by simp [sizeLine])
  have l4 : ∀ a b c d : D, (if ([a, b, c, d] : List D).length ≤ sizeLine then Tr.ok (D.lst [a, b, c, d]) else .bad) = .ok (.lst [a, b, c, d]) := fun _ _ _ _ => if_pos (by simp [sizeLine])
  have t3 : ∀ x y z : D, (if ([x, y, z] : List D).length ≤ sizeLine then Tr.ok (D.tup [x, y, z]) else .bad) = .ok (.tup [x, y, z]) := fun _ _ _ => if_pos (by simp [sizeLine])
  simp -implicitDefEqProofs only [s_bd, s_ul1, s_ul2, s_finbd, s_bdbd]
  refine bx_then (a := 7) (b := 13) b_great (fun x hx => ?_) (by decide)
  obtain ⟨n, p, rfl, hn, h0, h1⟩ := hx
  simp -implicitDefEqProofs only [un2, s_bd, s_neg, l6, l4, s_ul2, s_finbd, s_bdbd]
  refine bx_then (a := 1) (b := 12) (P := fun d => ∃ h : Int, d = .int h ∧ -60 ≤ h ∧ h ≤ 60) (b_pick (by simp) (by simp) fun d hd => ?_) (fun x hx => ?_) (by decide)
  · simp only [List.mem_cons, List.mem_nil_iff, or_false] at hd
    rcases hd with rfl | rfl | rfl | rfl | rfl | rfl <;> exact ⟨_, rfl, by decide, by decide⟩
  obtain ⟨m, rfl, m0, m1⟩ := hx
  refine bx_then (a := 1) (b := 11) (P := fun d => ∃ h : Int, d = .int h ∧ -9 ≤ h ∧ h ≤ 9) (b_pick (by simp) (by simp) fun d hd => ?_) (fun x hx => ?_) (by decide)
  · simp only [List.mem_cons, List.mem_nil_iff, or_false] at hd
    rcases hd with rfl | rfl | rfl | rfl <;> exact ⟨_, rfl, by decide, by decide⟩
  obtain ⟨o, rfl, o0, o1⟩ := hx
  have k : spOk 0 m o := ⟨⟨by decide, by decide⟩, ⟨m0, m1⟩, o0, o1⟩
  simp -implicitDefEqProofs only [s_bd, t3, s_ul2]
  refine bx_then (a := 3) (b := 8) (b_part 0 m o) (fun x hx => ?_) (by decide)
  obtain ⟨fi, bk, late, rfl, hf⟩ := hx
  have et : ∀ f sp sd l, (stfs f sp sd l).lookup ("to" : Str) = none := fun _ _ _ _ => rfl
  simp -implicitDefEqProofs only [s_bd, s_ul1, s_ul2, s_ul3, q_lstr hf k, isO_str, et, if_true, q_to k hn ⟨h0, h1⟩, q_went hf k hn.1 h0 h1, s_nox]
  have ene : ∀ x : Int, neD (.int x) (.int x) = .ok (.bl false) := fun x => by rw [s_ne, decide_eq_true rfl] <;> rfl
  simp -implicitDefEqProofs only [ene, s_bd, s_asB, Bool.false_eq_true, if_false, s_bdF, s_draw, s_bdd, s_find, s_finbd, s_bdbd]
  refine bx_draw (by decide) (by decide) fun t t0 t1 => ?_
  simp -implicitDefEqProofs only [s_bd, s_add, s_bdd, s_find]
  refine bx_draw (by decide) (by decide) fun c c0 c1 => ?_
  obtain ⟨c, rfl⟩ := Int.eq_ofNat_of_zero_le c0
  generalize eo : 1 + t = o'
  have ko : o' = 1 ∨ o' = 2 ∨ o' = 3 ∨ o' = 4 := by omega
  have k2 : spOk (2 * o') c o' := by unfold spOk; omega
  simp -implicitDefEqProofs only [s_bd, s_mul (i := 2) (.inl (by decide)), s_finbd]
  refine bx_then (a := 3) (b := 3) (b_part (2 * o') c o') (fun x hx => ?_) (by decide)
  obtain ⟨fi, bk, late, rfl, hf⟩ := hx
  have e1 : ixD (strP fi (2 * o') c o' bk late) (.int 1) = .ok (.int fi) := rfl
  have e3 : ixD (strP fi (2 * o') c o' bk late) (.int 3) = .ok (.str (sdS bk)) := rfl
  have e4 : ixD (strP fi (2 * o') c o' bk late) (.int 4) = .ok (.bl late) := rfl
  have ec : cntZ (2 * o') c o' n = o' * n + c := cnt_turns hn.1 (by omega) (by omega)
  generalize ep : (if o' % 2 = 0 then p else n - 1 - p) = p'
  have h0' : 0 ≤ p' := by subst ep; split <;> omega
  have h1' : p' < n := by subst ep; split <;> omega
  have eon : (-(2 ^ 64) < o' ∧ o' < 2 ^ 64) ∨ (-(2 ^ 64) < n ∧ n < 2 ^ 64) := .inl (by omega)
  have ebeg : ∀ {α : Type} {F : D → Tr α}, (bd (if late = true then .ok (decide ((o' * n + (c : Int)) % 2 = 0)) else .ok false) fun k => bd (if k = true then .ok (.int (1 - fi)) else .ok (.int fi)) F) = F (.int (begZ fi (o' * n + c) late)) := fun {α F} => by
    unfold begZ
    cases late
    · simp
    · by_cases q : (o' * n + (c : Int)) % 2 = 0 <;> simp [q]
  have hb := beg01 (c := o' * n + c) (late := late) hf
  generalize eg : begZ fi (o' * n + c) late = b at hb ebeg
  obtain ⟨z1, z2⟩ := forF_fold (L := Empty) (f := fun (d : D) (w : D) => bd (addD (.int (b + o' * n)) d) fun a => bd (intD a) fun a => bd (modD a (.int 2)) fun kd => bd (F__law_plain kd (.str (sdS bk)) (.int n)) fun v => bd (F__law_moved (.int n) w v (.str (sdS bk))) fun l => .ok (.nx l)) (h := fun k : Nat => .int k) (g := fun (k : Nat) p => plainZ bk n ((b + o' * n + k) % 2) p) (I := fun p => 0 ≤ p ∧ p < n) (xs := List.range' 0 c) (p := p') (fun x _ q hq => by
    have hk : (b + o' * n + x) % 2 = 0 ∨ (b + o' * n + x) % 2 = 1 := by omega
    simp only [s_add, s_bd, s_int, s_mod2]
    rw [q_law_plain hk, s_bd, q_plain_moved hk hq.1 hq.2, s_bd]
    exact ⟨rfl, plainZ_rng hq.1 hq.2 hk⟩) ⟨h0', h1'⟩
  have eh : (if o' % 2 = 0 then Tr.ok (D.int p) else Tr.ok (.int (n - 1 - p))) = .ok (.int p') := by
    subst ep
    split <;> rfl
  have hz : (b + o' * n + ((0 : Nat) : Int)) % 2 = (b + o' * n) % 2 := by rw [show ((0 : Nat) : Int) = 0 from rfl, Int.add_zero]
  have ht := beh_turns (kd := flipZ bk n b) h0 h1 (flip01 hb) ko
  have eto : toZ fi (2 * o') c o' (sdS bk) late n p = (List.range' 0 c).foldl (fun (p : Int) (k : Nat) => plainZ bk n ((b + o' * n + k) % 2) p) p' := by
    rw [plain_fold c 0 h0' h1']
    unfold toZ
    rw [ec, kind_flip, eg, hz, flip_add hb, ← beh_join (flip01 hb), ht, ep]
  have eqd : ∀ x : Int, eqD (.int x) (.int x) = .ok (.bl true) := fun x => by simp
  simp -implicitDefEqProofs only [s_bd, e1, e3, e4, s_ul1, s_ul2, s_ul3, s_ul4, s_mul eon, s_add, s_int, s_mod2, s_eq, s_sub, s_asB, ebeg, decide_eq_true_eq, eh, s_rg1 (show c ≤ 16777216 by omega), s_bdF, s_bdbd, q_lstr hf k2, isO_str, et, if_true, q_to k2 hn ⟨h0, h1⟩, s_nox, eto]
  rw [z1]
  simp -implicitDefEqProofs only [s_bd, s_bdF, eqd, s_finr]
  exact bx_ok rfl
end Lw
end
section
set_option Elab.async false
set_option linter.all false
set_option maxRecDepth 100000
set_option maxHeartbeats 400000
namespace Gp
open PySem
theorem tryT_draw {α β : Type} (m : Int) (f : Int → Tr α) (k : α → Tr β) (x : Str → Fs → Tr β) : tryT (.draw m f) k x = .draw m fun d => tryT (f d) k x := rfl
theorem ix_mem {ds : List D} {i : Int} (h0 : 0 ≤ i) (h1 : i < ds.length) : ∃ x ∈ ds, ixD (.lst ds) (.int i) = .ok x := by
  obtain ⟨k, rfl⟩ := Int.eq_ofNat_of_zero_le h0
  have hk : k < ds.length := by omega
  refine ⟨ds[k], List.getElem_mem hk, ?_⟩
  simp [ixD, L2.atI, L2.ixN, hk]
end Gp
namespace Lw
open PySem Gp
theorem heard_len (d : D) : F__law_heard (.ex "BadLength" [("value", d)]) = .ok (.lst [.str "length", d]) := rfl
theorem heard_place (d : D) : F__law_heard (.ex "BadPlace" [("value", d)]) = .ok (.lst [.str "place", d]) := rfl
theorem fin_ex' {c : Str} {fs : Fs} : fin (.ex c fs) = .ex c fs := rfl
theorem bdF_ex' {W W' L : Type} {c : Str} {fs : Fs} {k : W' → Tr (Fl W L)} : bdF (.ex c fs) k = .ex c fs := rfl
theorem q_len_bad {d : D} (h : F_is_within d (.int 1) (.int N40) = .ok (.bl false)) : F_need_length d = .ex "BadLength" [("value", d)] := by
  have h' : F_is_within d (.int 1) (.int 10000000000000000000000000000000000000000) = .ok (.bl false) := h
  unfold F_need_length F_is_length
  simp -implicitDefEqProofs only [s_bd, s_ul1, s_ul3, h', s_finbd, s_bdbd, s_asB, Bool.not_false, if_true, bd_ex, bdF_ex', fin_ex', s_finr]
theorem q_to_len {d x : D} {s : D} (h : F_is_within d (.int 1) (.int N40) = .ok (.bl false)) : F_Stretch_to s d x = .ex "BadLength" [("value", d)] := by
  unfold F_Stretch_to F_need_place
  simp -implicitDefEqProofs only [s_bd, s_ul1, s_ul2, q_len_bad h, bd_ex, fin_ex']
theorem q_to_place {n : Int} {d : D} {s : D} (hn : 1 ≤ n ∧ n ≤ N40) (h : F_is_within d (.int 0) (.int (n - 1)) = .ok (.bl false)) : F_Stretch_to s (.int n) d = .ex "BadPlace" [("value", d)] := by
  unfold F_Stretch_to F_need_place
  simp -implicitDefEqProofs only [s_bd, s_ul1, s_ul2, s_ul3, q_need_length hn, s_sub, h, s_asB, Bool.not_false, if_true, bd_ex, bdF_ex', fin_ex']
def Odd (d : D) : Prop := ∃ n b, n ≤ 50 ∧ b ≤ 10000 ∧ Sh d n b
theorem odd_int {i : Int} (h1 : -(10 ^ 100) < i) (h2 : i < 10 ^ 100) : Odd (.int i) := ⟨_, _, by decide, by decide, Sh.int h1 h2⟩
theorem odd_repr {w : Str} (hw : Sh (.str w) 0 1000) {d : D} (h : Odd d) : ∃ x, reprD (.lst [.str w, d]) = .ok (.str x) := by
  obtain ⟨n, b, h1, h2, s⟩ := h
  exact (Sh.lst (ShL.cons (hw.le (Nat.zero_le n) (Nat.le_refl _)) (ShL.cons s (ShL.nil (b := 0))))).repr (by omega) (by omega)
theorem b_oddL : Bo (fun d => Odd d ∧ F_is_within d (.int 1) (.int N40) = .ok (.bl false)) (F__law_pick .pen (.lst [.int 0, .int (-3), .non, .bl true, .str "5", .lst [.int 5], .int (10000000000000000000000000000000000000000 + 1)])) 1 :=
  b_pick (by simp) (by simp) fun d hd => by
    simp only [List.mem_cons, List.mem_nil_iff, or_false] at hd
    rcases hd with rfl | rfl | rfl | rfl | rfl | rfl | rfl
    · exact ⟨odd_int (by decide) (by decide), by rw [q_is_within]; rfl⟩
    · exact ⟨odd_int (by decide) (by decide), by rw [q_is_within]; rfl⟩
    · exact ⟨⟨0, 0, by decide, by decide, Sh.non⟩, rfl⟩
    · exact ⟨⟨0, 0, by decide, by decide, Sh.bl _⟩, rfl⟩
    · exact ⟨⟨0, 1000, by decide, by decide, Sh.ascii (by decide) (by decide)⟩, rfl⟩
    · exact ⟨⟨1, 10, by decide, by decide, (Sh.lst (ShL.ints (ns := [5]) (by decide))).le (by decide) (by decide)⟩, rfl⟩
    · exact ⟨odd_int (by decide) (by decide), by rw [q_is_within, decide_eq_false (by simp only [N40]; omega)]⟩
theorem b_oddP {n : Int} (hn : 1 ≤ n ∧ n ≤ 100) : Bo (fun d => Odd d ∧ F_is_within d (.int 0) (.int (n - 1)) = .ok (.bl false)) (F__law_pick .pen (.lst [.int n, .int (-1), .non, .bl false, .str "0", .lst [.int 0], .tup [.int 0], .int (n + 100000000000000000000)])) 1 :=
  b_pick (by simp) (by simp) fun d hd => by
    simp only [List.mem_cons, List.mem_nil_iff, or_false] at hd
    rcases hd with rfl | rfl | rfl | rfl | rfl | rfl | rfl | rfl
    · exact ⟨odd_int (by omega) (by omega), by rw [q_is_within, decide_eq_false (by omega)]⟩
    · exact ⟨odd_int (by decide) (by decide), by rw [q_is_within, decide_eq_false (by omega)]⟩
    · exact ⟨⟨0, 0, by decide, by decide, Sh.non⟩, rfl⟩
    · exact ⟨⟨0, 0, by decide, by decide, Sh.bl _⟩, rfl⟩
    · exact ⟨⟨0, 1000, by decide, by decide, Sh.ascii (by decide) (by decide)⟩, rfl⟩
    · exact ⟨⟨1, 10, by decide, by decide, (Sh.lst (ShL.ints (ns := [0]) (by decide))).le (by decide) (by decide)⟩, rfl⟩
    · exact ⟨⟨1, 10, by decide, by decide, (Sh.tup (ShL.ints (ns := [0]) (by decide))).le (by decide) (by decide)⟩, rfl⟩
    · exact ⟨odd_int (by omega) (by omega), by rw [q_is_within, decide_eq_false (by omega)]⟩
end Lw
end
section
set_option Elab.async false
set_option linter.all false
set_option maxRecDepth 100000
set_option maxHeartbeats 400000
namespace Lw
open PySem Gp
theorem heard_draw {m : Int} {f : Int → Tr D} : F__law_heard (.draw m f) = .draw m fun d => F__law_heard (f d) := rfl
theorem nox_draw' {α : Type} {m : Int} {f : Int → Tr α} : nox (.draw m f) = .draw m fun d => nox (f d) := rfl
theorem bdF_draw' {W W' L : Type} {m : Int} {f : Int → Tr (Fl W' L)} {k : W' → Tr (Fl W L)} : bdF (.draw m f) k = .draw m fun d => bdF (f d) k := rfl
theorem s_nes (a b : Str) : neD (.str a) (.str b) = .ok (.bl (!decide (a = b))) := by
  have h : eqD (.str a) (.str b) = .ok (.bl (decide (a = b))) := by simp
  have z : bd (eqB (.str a) (.str b)) (fun k => Tr.ok (D.bl k)) = .ok (.bl (decide (a = b))) := h
  show bd (eqB (.str a) (.str b)) (fun k => Tr.ok (D.bl !k)) = _
  cases e : eqB (.str a) (.str b) with
  | ok k =>
    rw [e] at z
    cases z
    rfl
  | ex c fs => rw [e] at z; cases z
  | bad => rw [e] at z; cases z
  | draw m f => rw [e] at z; cases z
theorem b_refused : Bx (fun d => d = .bl true) (F__law_refused_right .pen) 10 := by
  unfold F__law_refused_right
  have l3 : ∀ a b c : D, (if ([a, b, c] : List D).length ≤ sizeLine then Tr.ok (D.lst [a, b, c]) else .bad) = .ok (.lst [a, b, c]) := fun _ _ _ => if_pos (by simp [sizeLine])
  have l2 : ∀ a b : D, (if ([a, b] : List D).length ≤ sizeLine then Tr.ok (D.lst [a, b]) else .bad) = .ok (.lst [a, b]) := fun _ _ => if_pos (by simp [sizeLine])
  have l1 : ∀ a : D, (if ([a] : List D).length ≤ sizeLine then Tr.ok (D.lst [a]) else .bad) = .ok (.lst [a]) := fun _ => if_pos (by simp [sizeLine])
  have l7 : ∀ a b c d e f g : D, (if ([a, b, c, d, e, f, g] : List D).length ≤ sizeLine then Tr.ok (D.lst [a, b, c, d, e, f, g]) else .bad) = .ok (.lst [a, b, c, d, e, f, g]) := fun _ _ _ _ _ _ _ => if_pos (by simp [sizeLine])
  have l8 : ∀ a b c d e f g h : D, (if ([a, b, c, d, e, f, g, h] : List D).length ≤ sizeLine then Tr.ok (D.lst [a, b, c, d, e, f, g, h]) else .bad) = .ok (.lst [a, b, c, d, e, f, g, h]) := fun _ _ _ _ _ _ _ _ => if_pos (by simp [sizeLine])
  have t3 : ∀ x y z : D, (if ([x, y, z] : List D).length ≤ sizeLine then Tr.ok (D.tup [x, y, z]) else .bad) = .ok (.tup [x, y, z]) := fun _ _ _ => if_pos (by simp [sizeLine])
  have t1 : ∀ x : D, (if ([x] : List D).length ≤ sizeLine then Tr.ok (D.tup [x]) else .bad) = .ok (.tup [x]) := fun _ => if_pos (by simp [sizeLine])
  have et : ∀ f sp sd l, (stfs f sp sd l).lookup ("to" : Str) = none := fun _ _ _ _ => rfl
  have wl : Sh (.str "length") 0 1000 := Sh.ascii (by decide) (by decide)
  have wp : Sh (.str "place") 0 1000 := Sh.ascii (by decide) (by decide)
  simp -implicitDefEqProofs only [s_bd, s_ul1, s_ul2, s_draw, s_bdd, s_find]
  refine bx_draw (by decide) (by decide) fun t t0 t1' => ?_
  simp -implicitDefEqProofs only [s_bd, s_add, t3, s_ul2, s_finbd, s_bdbd]
  generalize en : 1 + t = n
  have hn : 1 ≤ n ∧ n ≤ 100 := by omega
  have hn2 : 1 ≤ n ∧ n ≤ N40 := ⟨hn.1, Int.le_trans hn.2 (by decide)⟩
  refine bx_then (a := 3) (b := 6) (b_part 1 1 0) (fun x hx => ?_) (by decide)
  obtain ⟨fi, bk, late, rfl, hf⟩ := hx
  have k : spOk 1 1 0 := by unfold spOk; omega
  simp -implicitDefEqProofs only [s_bd, s_ul1, q_lstr hf k, s_neg, s_add, l1, l7, s_ul2]
  refine bx_then (a := 1) (b := 5) b_oddL (fun x hx => ?_) (by decide)
  obtain ⟨ho, hw⟩ := hx
  obtain ⟨sx, er⟩ := odd_repr wl ho
  simp -implicitDefEqProofs only [s_bd, isO_str, et, if_true, s_bdbd, l3, s_ul2, q_pick, s_bdd, tryT_draw]
  simp -implicitDefEqProofs only [heard_draw, nox_draw', s_bdd, bdF_draw', s_find]
  refine bx_draw (by decide) (by decide) fun i i0 i1 => ?_
  obtain ⟨v, hv, ev⟩ := ix_mem (ds := [.int 0, .int (-1), .non]) i0 i1
  have ene : ∀ x : Str, neD (.str x) (.str x) = .ok (.bl false) := fun x => by rw [s_nes, decide_eq_true rfl] <;> rfl
  have eeq : ∀ x : Str, eqD (.str x) (.str x) = .ok (.bl true) := fun x => by simp
  simp -implicitDefEqProofs only [ev, s_bd, s_ul3, q_to_len hw, heard_len, s_nox, er, l2, ene, s_asB, Bool.false_eq_true, if_false, s_bdF, t1, l8, s_finbd, s_bdbd]
  refine bx_then (a := 1) (b := 0) (b_oddP hn) (fun x hx => ?_) (by decide)
  obtain ⟨ho, hw⟩ := hx
  obtain ⟨sx, er⟩ := odd_repr wp ho
  simp -implicitDefEqProofs only [s_bd, s_ul3, q_to_place hn2 hw, heard_place, s_nox, er, l2, eeq, s_finr]
  exact bx_ok rfl
theorem bx_bdFU {W L : Type} {Q : Fl W L → Prop} {m : Tr (Fl Unit L)} {k : Unit → Tr (Fl W L)} {a b n : Nat} (h : Bo (fun r => r = .nx ()) m a) (hk : Bx Q (k ()) b) (l : a + b ≤ n) : Bx Q (bdF m k) n := by
  unfold bdF
  refine bx_then h (fun r hr => ?_) l
  subst hr
  exact hk
theorem law_yes : Yes F_law := by
  refine Bo.yes (n := 200 * 6 + 1) (by decide) ?_
  apply Bx.bo
  unfold F_law
  have e6 : rg1 (.int 6) = .ok ((List.range' 0 6).map fun k : Nat => D.int k) := s_rg1 (m := 6) (by decide)
  have e3 : rg1 (.int 3) = .ok ((List.range' 0 3).map fun k : Nat => D.int k) := s_rg1 (m := 3) (by decide)
  simp -implicitDefEqProofs only [s_bd, s_ul1, e6, e3]
  refine bx_loopU (c := 200) (b := 1) (fun d hd => ?_) (bx_ok rfl) (Nat.le_refl _)
  refine bx_bdFU (a := 40 * 3) (b := 80) (bo_forU fun d hd => Bx.bo ?_) ?_ (by decide)
  · simp -implicitDefEqProofs only [s_bd, s_ul1, s_ul2, s_draw, s_bdd, bdF_draw', s_bdFbd, s_bdbd]
    refine bx_draw (n := 39) (by decide) (by decide) fun t t0 t1 => ?_
    obtain ⟨t, rfl⟩ := Int.eq_ofNat_of_zero_le t0
    simp -implicitDefEqProofs only [s_bd, s_add, show (1 : Int) + (t : Nat) = ((1 + t : Nat) : Int) by omega, s_ul2, s_bdFbd, s_bdbd]
    refine bx_thenX (a := 6) (b := 33) (b_short (n := 1 + t) (by omega)) (fun d hd => ?_) (by decide)
    subst hd
    simp -implicitDefEqProofs only [s_bd, s_asB, Bool.not_true, Bool.false_eq_true, if_false, s_bdFbd, s_bdbd]
    refine bx_thenX (a := 20) (b := 13) b_greatR (fun d hd => ?_) (by decide)
    subst hd
    simp -implicitDefEqProofs only [s_bd, s_asB, Bool.not_true, Bool.false_eq_true, if_false, s_bdF]
    exact bx_ok rfl
  · simp -implicitDefEqProofs only [s_bd, s_ul1, s_bdFbd, s_bdbd]
    refine bx_thenX (a := 10) (b := 70) b_refused (fun d hd => ?_) (by decide)
    subst hd
    simp -implicitDefEqProofs only [s_bd, s_asB, Bool.not_true, Bool.false_eq_true, if_false, s_bdF]
    exact bx_ok rfl
end Lw
end
section
set_option Elab.async false
set_option linter.all false
set_option maxRecDepth 100000
set_option maxHeartbeats 4000000
set_option pp.maxSteps 600
namespace Lw
open PySem PySem.Spec PyProof.Rows L2 Gh Gp
theorem pm_PromO {P : Program} {w : World} {K : PySem.W.Frag} {mg : Str → Option Value} {base : Heap} {CX : CXT} {k : Nat} {f : Addr} {fd : FuncData} {ps : List Str} {sp : Sp} (G : FnOk P w K mg base CX k f fd ps sp) (b : Binds K fd ps []) : PromO P w K mg base CX k f [] sp := ⟨fd, ps, [], G, b, .nil⟩
theorem pm_Prom {P : Program} {w : World} {K : PySem.W.Frag} {mg : Str → Option Value} {base : Heap} {CX : CXT} {k : Nat} {f : Addr} {fd : FuncData} {ps : List Str} {sp : Sp} (G : FnG P w K mg base CX k f fd ps sp) (b : Binds K fd ps []) : Prom P w K mg base CX k f [] sp := ⟨fd, ps, [], G, b, .nil⟩
def TTl (K : PySem.W.Frag) : List (Addr × Str) := [((He.cT K ("_law_refused_right", none)).2, Gp.qlOf d__law_refused_right K)]
theorem facts {P : Program} {w : World} {K : PySem.W.Frag} {h : Heap} {mg : Str → Option Value} {f : Addr} (X : K.In h) (G : h.Ns mainGlobals mg) (hfa : mg ("law" : Str) = some (.ref f)) (c2 : Gp.SaysS exs fns tfs sds pfile h K) (gl : (He.Fa.glo "law").ok K = true) (hP : ((P.main.file : Str) == pfile) = true ∧ (P.main.scope.names.lookup ("super" : Str)).isSome = false) :
    ∃ fd : FuncData, (∀ (s : Shared) (v : Value), BindsTo s fd ⟨[v], []⟩ [("_law_script", v)]) ∧ ∀ base : Heap, K.In base → base.Ns mainGlobals mg → (∀ p ∈ tfs.map (He.cT K), LamX.TabB base mg p.1 p.2) → FnG P w K mg base CX0 11 f fd ["_law_script"] (spLaw K (TTl K)) := by
  have c := c2.s.t
  have T : Tx K mg := tx_of X G c
  have e := hfa.symm.trans (He.glo_ok X G gl)
  cases e
  obtain ⟨f0, F0⟩ := c.def_ 0 (d := d_BadLength___init__) rfl
  obtain ⟨f1, F1⟩ := c.def_ 1 (d := d_BadPlace___init__) rfl
  obtain ⟨f2, F2⟩ := c.def_ 2 (d := d__law_pen) rfl
  obtain ⟨f3, F3⟩ := c.def_ 3 (d := d__law_draw) rfl
  obtain ⟨f4, F4⟩ := c.def_ 4 (d := d_is_integer) rfl
  obtain ⟨f5, F5⟩ := c.def_ 5 (d := d_is_within) rfl
  obtain ⟨f6, F6⟩ := c.def_ 6 (d := d_is_length) rfl
  obtain ⟨f7, F7⟩ := c.def_ 7 (d := d_need_length) rfl
  obtain ⟨f8, F8⟩ := c.def_ 8 (d := d_need_place) rfl
  obtain ⟨f9, F9⟩ := c.def_ 9 (d := d_seat_at) rfl
  obtain ⟨f10, F10⟩ := c.def_ 10 (d := d_place_at) rfl
  obtain ⟨f11, F11⟩ := c.def_ 11 (d := d_seat_behind) rfl
  obtain ⟨f12, F12⟩ := c.def_ 12 (d := d_Span___init__) rfl
  obtain ⟨f13, F13⟩ := c.def_ 13 (d := d_Span_halves) rfl
  obtain ⟨f14, F14⟩ := c.def_ 14 (d := d_Span_more) rfl
  obtain ⟨f15, F15⟩ := c.def_ 15 (d := d_Span_odd) rfl
  obtain ⟨f16, F16⟩ := c.def_ 16 (d := d_Span_number_at) rfl
  obtain ⟨f17, F17⟩ := c.def_ 17 (d := d_Span___call__) rfl
  obtain ⟨f18, F18⟩ := c.def_ 18 (d := d_Sided___init___at_Stretch) rfl
  obtain ⟨f19, F19⟩ := c2.sup_ 0 (d := ds_Stretch___init__) rfl
  obtain ⟨f20, F20⟩ := c.def_ 19 (d := d_Stretch_changes) rfl
  obtain ⟨f21, F21⟩ := c.def_ 20 (d := d_Stretch_begin) rfl
  obtain ⟨f22, F22⟩ := c.def_ 21 (d := d_Stretch_to) rfl
  obtain ⟨f23, F23⟩ := c.def_ 22 (d := d__law_pick) rfl
  obtain ⟨f24, F24⟩ := c.def_ 23 (d := d__law_changed) rfl
  obtain ⟨f25, F25⟩ := c.def_ 24 (d := d__law_kinds) rfl
  obtain ⟨f26, F26⟩ := c.def_ 25 (d := d__law_count) rfl
  obtain ⟨f27, F27⟩ := c.def_ 26 (d := d__law_told) rfl
  obtain ⟨f28, F28⟩ := c.def_ 27 (d := d__law_plain) rfl
  obtain ⟨f29, F29⟩ := c.def_ 28 (d := d__law_played) rfl
  obtain ⟨f30, F30⟩ := c.def_ 29 (d := d__law_moved) rfl
  obtain ⟨f31, F31⟩ := c.def_ 30 (d := d__law_went) rfl
  obtain ⟨f32, F32⟩ := c.def_ 31 (d := d__law_stretch) rfl
  obtain ⟨f33, F33⟩ := c.def_ 32 (d := d__law_part) rfl
  obtain ⟨f34, F34⟩ := c.def_ 33 (d := d__law_short_right) rfl
  obtain ⟨f35, F35⟩ := c.def_ 34 (d := d__law_great) rfl
  obtain ⟨f36, F36⟩ := c.def_ 35 (d := d__law_great_right) rfl
  obtain ⟨f37, F37⟩ := c.def_ 36 (d := d__law_heard) rfl
  obtain ⟨f38, F38⟩ := c.def_ 37 (d := d__law_refused_right) rfl
  obtain ⟨f39, F39⟩ := c.def_ 38 (d := d_law) rfl
  have b39 := FunD.bindsA (ps := ["_law_script"]) F39 fun _ _ _ _ _ _ us hl => match us, hl with | [_], _ => rfl
  refine ⟨f39, fun s v => b39 s [v] rfl, fun base _ _ TB => ?_⟩
  have lm__law_refused_right : LamD base mg K (TTl K) d__law_refused_right ("_law_refused_right", none) := ⟨TB _ (List.mem_map.mpr ⟨_, by decide, rfl⟩), by simp only [TTl, List.mem_cons, true_or, or_true], fun p hp e => by
      simp only [TTl, List.mem_cons, List.mem_nil_iff, or_false] at hp
      rcases hp with rfl
      · rfl⟩
  have p0 : PromO P w K mg base CX0 1 (md "BadLength" "__init__" K) [] (spErr1 (gd "BadLength" K) "value") := pm_PromO (ok_BadLength___init__ F0 T ) (F0.bindsN fun _ _ _ _ _ _ us hl => match us, hl with | [_, _], _ => rfl)
  have p1 : PromO P w K mg base CX0 1 (md "BadPlace" "__init__" K) [] (spErr1 (gd "BadPlace" K) "value") := pm_PromO (ok_BadPlace___init__ F1 T ) (F1.bindsN fun _ _ _ _ _ _ us hl => match us, hl with | [_, _], _ => rfl)
  have p2 : PromO P w K mg base CX0 1 (gd "_law_pen" K) [] (spPn K) := pm_PromO (ok__law_pen F2 T ) (F2.bindsN fun _ _ _ _ _ _ us hl => match us, hl with | [_], _ => rfl)
  have p3 : PromO P w K mg base CX0 1 (gd "_law_draw" K) [] (spF K (TTl K) (ul2 F_draw)) := pm_PromO (ok__law_draw (Tb := TTl K) F3 T ) (F3.bindsN fun _ _ _ _ _ _ us hl => match us, hl with | [_, _], _ => rfl)
  have p4 : PromO P w K mg base CX0 1 (gd "is_integer" K) [] (spF K (TTl K) (ul1 F_is_integer)) := pm_PromO (ok_is_integer (Tb := TTl K) F4 T ) (F4.bindsN fun _ _ _ _ _ _ us hl => match us, hl with | [_], _ => rfl)
  have p5 : PromO P w K mg base CX0 2 (gd "is_within" K) [] (spF K (TTl K) (ul3 F_is_within)) := pm_PromO (ok_is_within (Tb := TTl K) F5 T p4) (F5.bindsN fun _ _ _ _ _ _ us hl => match us, hl with | [_, _, _], _ => rfl)
  have p6 : PromO P w K mg base CX0 3 (gd "is_length" K) [] (spF K (TTl K) (ul1 F_is_length)) := pm_PromO (ok_is_length (Tb := TTl K) F6 T p5) (F6.bindsN fun _ _ _ _ _ _ us hl => match us, hl with | [_], _ => rfl)
  have p7 : PromO P w K mg base (L2.CX P w) 4 (gd "need_length" K) [] (spF K (TTl K) (ul1 F_need_length)) := pm_PromO (ok_need_length (Tb := TTl K) F7 T p6 p0) (F7.bindsN fun _ _ _ _ _ _ us hl => match us, hl with | [_], _ => rfl)
  have p8 : PromO P w K mg base (L2.CX P w) 5 (gd "need_place" K) [] (spF K (TTl K) (ul2 F_need_place)) := pm_PromO (ok_need_place (Tb := TTl K) F8 T p7 p5 p1) (F8.bindsN fun _ _ _ _ _ _ us hl => match us, hl with | [_, _], _ => rfl)
  have p9 : PromO P w K mg base CX0 1 (gd "seat_at" K) [] (spF K (TTl K) (ul2 F_seat_at)) := pm_PromO (ok_seat_at (Tb := TTl K) F9 T ) (F9.bindsN fun _ _ _ _ _ _ us hl => match us, hl with | [_, _], _ => rfl)
  have p10 : PromO P w K mg base CX0 1 (gd "place_at" K) [] (spF K (TTl K) (ul2 F_place_at)) := pm_PromO (ok_place_at (Tb := TTl K) F10 T ) (F10.bindsN fun _ _ _ _ _ _ us hl => match us, hl with | [_, _], _ => rfl)
  have p11 : PromO P w K mg base CX0 1 (gd "seat_behind" K) [] (spF K (TTl K) (ul4 F_seat_behind)) := pm_PromO (ok_seat_behind (Tb := TTl K) F11 T ) (F11.bindsN fun _ _ _ _ _ _ us hl => match us, hl with | [_, _, _, _], _ => rfl)
  have p12 : PromO P w K mg base CX0 3 (md "Span" "__init__" K) [] (spI K (TTl K) "Span" (fun fs => ul3 (F_Span___init__ fs))) := by
    obtain ⟨ds, hv, hb⟩ := FunD.binds1 (ps := ["self", "halves", "more", "odd"]) F12 4 2 (by intro z; cases z) rfl fun _ _ _ _ _ _ _ us its hu hi => match us, hu, its, hi with | [_, _, _, _], _, [_, _], _ => ⟨_, rfl, rfl⟩
    cases hv
    exact pm_PromO (ok_Span___init__ (Tb := TTl K) F12 T p5) hb
  have p13 : PromO P w K mg base CX0 1 (propG "Span" "halves" K) [] (spF K (TTl K) (ul1 F_Span_halves)) := pm_PromO (ok_Span_halves (Tb := TTl K) F13 T ) (F13.bindsN fun _ _ _ _ _ _ us hl => match us, hl with | [_], _ => rfl)
  have p14 : PromO P w K mg base CX0 1 (propG "Span" "more" K) [] (spF K (TTl K) (ul1 F_Span_more)) := pm_PromO (ok_Span_more (Tb := TTl K) F14 T ) (F14.bindsN fun _ _ _ _ _ _ us hl => match us, hl with | [_], _ => rfl)
  have p15 : PromO P w K mg base CX0 1 (propG "Span" "odd" K) [] (spF K (TTl K) (ul1 F_Span_odd)) := pm_PromO (ok_Span_odd (Tb := TTl K) F15 T ) (F15.bindsN fun _ _ _ _ _ _ us hl => match us, hl with | [_], _ => rfl)
  have p16 : PromO P w K mg base CX0 3 (md "Span" "number_at" K) [] (spF K (TTl K) (ul2 F_Span_number_at)) := pm_PromO (ok_Span_number_at (Tb := TTl K) F16 T p13 p15 p14) (F16.bindsN fun _ _ _ _ _ _ us hl => match us, hl with | [_, _], _ => rfl)
  have p17 : PromO P w K mg base (L2.CX P w) 5 (md "Span" "__call__" K) [] (spF K (TTl K) (ul2 F_Span___call__)) := pm_PromO (ok_Span___call__ (Tb := TTl K) F17 T p7 p16) (F17.bindsN fun _ _ _ _ _ _ us hl => match us, hl with | [_, _], _ => rfl)
  have p18 : PromO P w K mg base CX0 1 (md "Sided" "__init__" K) [] (spI K (TTl K) "Stretch" (fun fs => ul1 (F_Sided___init___at_Stretch fs))) := pm_PromO (ok_Sided___init___at_Stretch (Tb := TTl K) F18 T ) (F18.bindsN fun _ _ _ _ _ _ us hl => match us, hl with | [_, _], _ => rfl)
  have p19 : PromO P w K mg base CX0 3 (md "Stretch" "__init__" K) [] (spI K (TTl K) "Stretch" (fun fs => ul4 (F_Stretch___init__ fs))) := by
    obtain ⟨ds, hv, hb⟩ := SupF.binds1 (ps := ["self", "first", "span", "side", "late"]) F19 5 2 (by intro z; cases z) rfl fun _ _ _ _ _ _ _ _ us its hu hi => match us, hu, its, hi with | [_, _, _, _, _], _, [_, _], _ => ⟨_, rfl, rfl⟩
    cases hv
    exact pm_PromO (ok_Stretch___init__ (Tb := TTl K) F19 T hP p5 p18) hb
  have p20 : PromO P w K mg base (L2.CX P w) 6 (md "Stretch" "changes" K) [] (spF K (TTl K) (ul2 F_Stretch_changes)) := pm_PromO (ok_Stretch_changes (Tb := TTl K) F20 T p7 p17) (F20.bindsN fun _ _ _ _ _ _ us hl => match us, hl with | [_, _], _ => rfl)
  have p21 : PromO P w K mg base CX0 1 (md "Stretch" "begin" K) [] (spF K (TTl K) (ul2 F_Stretch_begin)) := pm_PromO (ok_Stretch_begin (Tb := TTl K) F21 T ) (F21.bindsN fun _ _ _ _ _ _ us hl => match us, hl with | [_, _], _ => rfl)
  have p22 : PromO P w K mg base (L2.CX P w) 7 (md "Stretch" "to" K) [] (spF K (TTl K) (ul3 F_Stretch_to)) := pm_PromO (ok_Stretch_to (Tb := TTl K) F22 T p8 p20 p21 p10 p11 p9) (F22.bindsN fun _ _ _ _ _ _ us hl => match us, hl with | [_, _, _], _ => rfl)
  have p23 : PromO P w K mg base CX0 2 (gd "_law_pick" K) [] (spF K (TTl K) (ul2 F__law_pick)) := pm_PromO (ok__law_pick (Tb := TTl K) F23 T p3) (F23.bindsN fun _ _ _ _ _ _ us hl => match us, hl with | [_, _], _ => rfl)
  have p24 : PromO P w K mg base CX0 1 (gd "_law_changed" K) [] (spF K (TTl K) (ul3 F__law_changed)) := pm_PromO (ok__law_changed (Tb := TTl K) F24 T ) (F24.bindsN fun _ _ _ _ _ _ us hl => match us, hl with | [_, _, _], _ => rfl)
  have p25 : PromO P w K mg base CX0 1 (gd "_law_kinds" K) [] (spF K (TTl K) (ul2 F__law_kinds)) := pm_PromO (ok__law_kinds (Tb := TTl K) F25 T ) (F25.bindsN fun _ _ _ _ _ _ us hl => match us, hl with | [_, _], _ => rfl)
  have p26 : PromO P w K mg base CX0 1 (gd "_law_count" K) [] (spF K (TTl K) (ul2 F__law_count)) := pm_PromO (ok__law_count (Tb := TTl K) F26 T ) (F26.bindsN fun _ _ _ _ _ _ us hl => match us, hl with | [_, _], _ => rfl)
  have p27 : PromO P w K mg base CX0 1 (gd "_law_told" K) [] (spF K (TTl K) (ul2 F__law_told)) := pm_PromO (ok__law_told (Tb := TTl K) F27 T ) (F27.bindsN fun _ _ _ _ _ _ us hl => match us, hl with | [_, _], _ => rfl)
  have p28 : PromO P w K mg base CX0 1 (gd "_law_plain" K) [] (spF K (TTl K) (ul3 F__law_plain)) := pm_PromO (ok__law_plain (Tb := TTl K) F28 T ) (F28.bindsN fun _ _ _ _ _ _ us hl => match us, hl with | [_, _, _], _ => rfl)
  have bn29 : Binds K f29 ["_law_items", "_law_part_here"] [] := F29.bindsN fun _ _ _ _ _ _ us hl => match us, hl with | [_, _], _ => rfl
  have p29 : PromO P w K mg base CX0 4 (gd "_law_played" K) [] (spF K (TTl K) (ul2 (F__law_played 2))) := pm_PromO (ok__law_played (Tb := TTl K) F29 T bn29 p24 p27 p25 p26 p28 2) bn29
  have p30 : PromO P w K mg base CX0 1 (gd "_law_moved" K) [] (spF K (TTl K) (ul4 F__law_moved)) := pm_PromO (ok__law_moved (Tb := TTl K) F30 T ) (F30.bindsN fun _ _ _ _ _ _ us hl => match us, hl with | [_, _, _, _], _ => rfl)
  have bn31 : Binds K f31 ["_law_size", "_law_place", "_law_part_here"] [] := F31.bindsN fun _ _ _ _ _ _ us hl => match us, hl with | [_, _, _], _ => rfl
  have p31 : PromO P w K mg base CX0 4 (gd "_law_went" K) [] (spF K (TTl K) (ul3 (F__law_went 2))) := pm_PromO (ok__law_went (Tb := TTl K) F31 T bn31 p30 p27 p25 p26 p28 2) bn31
  have p32 : PromO P w K mg base CX0 5 (gd "_law_stretch" K) [] (spF K (TTl K) (ul1 F__law_stretch)) := pm_PromO (ok__law_stretch (Tb := TTl K) F32 T p19 p12) (F32.bindsN fun _ _ _ _ _ _ us hl => match us, hl with | [_], _ => rfl)
  have p33 : PromO P w K mg base CX0 3 (gd "_law_part" K) [] (spF K (TTl K) (ul2 F__law_part)) := pm_PromO (ok__law_part (Tb := TTl K) F33 T p3 p23) (F33.bindsN fun _ _ _ _ _ _ us hl => match us, hl with | [_, _], _ => rfl)
  have p34 : PromO P w K mg base CX0 8 (gd "_law_short_right" K) [] (spF K (TTl K) (ul2 F__law_short_right)) := pm_PromO (ok__law_short_right (Tb := TTl K) F34 T p23 p33 p32 p29 p22) (F34.bindsN fun _ _ _ _ _ _ us hl => match us, hl with | [_, _], _ => rfl)
  have p35 : PromO P w K mg base CX0 3 (gd "_law_great" K) [] (spF K (TTl K) (ul1 F__law_great)) := pm_PromO (ok__law_great (Tb := TTl K) F35 T p23 p3) (F35.bindsN fun _ _ _ _ _ _ us hl => match us, hl with | [_], _ => rfl)
  have p36 : PromO P w K mg base CX0 8 (gd "_law_great_right" K) [] (spF K (TTl K) (ul1 F__law_great_right)) := pm_PromO (ok__law_great_right (Tb := TTl K) F36 T p35 p33 p23 p22 p32 p31 p3 p30 p28) (F36.bindsN fun _ _ _ _ _ _ us hl => match us, hl with | [_], _ => rfl)
  have p37 : HrdP K d__law_heard ["_law_ask"] := ⟨f37, F37, F37.bindsN fun _ _ _ _ _ _ us hl => match us, hl with | [_], _ => rfl⟩
  have p38 : Prom P w K mg base CX0 10 (gd "_law_refused_right" K) [] (spF K (TTl K) (ul1 F__law_refused_right)) := pm_Prom (ok__law_refused_right (Tb := TTl K) F38 T p3 p32 p33 p23 p37 lm__law_refused_right p22) (F38.bindsN fun _ _ _ _ _ _ us hl => match us, hl with | [_], _ => rfl)
  exact ok_law (Tb := TTl K) F39 T law_yes p2 p34 p3 p36 p38
end Lw
open PySem PySem.W PySem.Calls PyProof.Rows
set_option maxRecDepth 100000 in
set_option maxHeartbeats 0 in
theorem PySem.Challenge.cw_everyhunt_k25_whole_stretches_bring_item_holds : PySem.Challenge.rw_everyhunt_k25_whole_stretches_bring_item.Holds := by
  w_on; o_law
  refine HandSHeadRun.head_any (r := OpenLaw.row PySem.Challenge.rw_everyhunt_k25_whole_stretches_bring_item) (q := view (OpenLaw.row PySem.Challenge.rw_everyhunt_k25_whole_stretches_bring_item).prog [52]) (H := Lw.hk) (ob := Lw.ob) (M := 20000) (loose := Lw.loose) (d := HandSHeadRun.topDef (OpenLaw.row PySem.Challenge.rw_everyhunt_k25_whole_stretches_bring_item).prog 52) (kwd := []) Lw.ob_eq
    (by kernel_rfl) (fun s => by kernel_rfl) Lw.run (by kernel_rfl) (by kernel_rfl) (by kernel_rfl) (by rfl) (by first | assumption | decide +kernel) (by decide +kernel) ⟨rfl, rfl, rfl, rfl, rfl, by decide +kernel⟩ ?hw ?hc
  case hw => w_witness2
  case hc =>
    refine Gh.walk_ofTsG (l := PySem.Challenge.rw_everyhunt_k25_whole_stretches_bring_item) (n := 63) (k := 11) (x := "_law_script") (CX := fun _ => L2.CX0) rfl (by decide) (by kernel_rfl) ⟨rfl, by decide, by decide⟩ ?F (fun _ _ _ _ _ z => z)
    intro w mg fa h Y G hmg0
    obtain ⟨K, KX, c⟩ := Y
    have hmg : mg ("law" : PySem.Str) = some (.ref fa) := by
      have e : (HandSHeadRun.topDef (OpenLaw.row PySem.Challenge.rw_everyhunt_k25_whole_stretches_bring_item).prog 52).name = ("law" : PySem.Str) := by kernel_rfl
      rw [← e]
      exact hmg0
    obtain ⟨fd, hb, hF⟩ := Lw.facts (P := (PySem.Challenge.rw_everyhunt_k25_whole_stretches_bring_item).prog) (w := w) KX G hmg c (c.s.t.fact 121 rfl) ⟨by kernel_rfl, by kernel_rfl⟩
    refine ⟨K, fd, Lw.tfs.map (He.cT K), Gp.spLaw K (Lw.TTl K), KX, fun p hp => ?_, fun p hp => ?_, fun p hp => ?_, hb, fun H a ns hl hT hS => ⟨a, ns, rfl, hS, hl, fun p hp => ?_, fun _ => rfl⟩, fun base h1 h2 h3 => hF base h1 h2 h3⟩
    · obtain ⟨d, hd, rfl⟩ := List.mem_map.mp hp
      exact c.s.empty d hd
    · obtain ⟨d, hd, rfl⟩ := List.mem_map.mp hp
      exact c.s.out d hd
    · obtain ⟨d, hd, rfl⟩ := List.mem_map.mp hp
      exact PySem.W.codeHd_of_K KX (c.s.hd d hd)
    · have e : ∀ p ∈ Lw.TTl K, ∃ d ∈ Lw.tfs.map (He.cT K), p.1 = d.2 := fun p hp => by
        have z : (Lw.TTl K).map (·.1) = (Lw.tfs.map (He.cT K)).map (·.2) := rfl
        have m : p.1 ∈ (Lw.tfs.map (He.cT K)).map (·.2) := by rw [← z]; exact List.mem_map.mpr ⟨p, hp, rfl⟩
        obtain ⟨d, hd, e⟩ := List.mem_map.mp m
        exact ⟨d, hd, e.symm⟩
      obtain ⟨d, hd, ed⟩ := e p hp
      exact LamX.TabS.nil (by rw [ed]; exact hT d hd)
#print axioms PySem.Challenge.cw_everyhunt_k25_whole_stretches_bring_item_holds
end
