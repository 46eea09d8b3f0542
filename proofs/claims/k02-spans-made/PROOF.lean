import PyProof.Rows.All
import Wide.All
import OpenK.AllK
import Wide.FinOn
import KE.KStateDown
import KE.KOpsOwn
import HandS.ForMost
import HandS.More
import HandS.Exc
import HandS.WordsExc
import HandS.Defaults
import HandS.Property
import HandS.IsInst
import HandS.Wide
import HandS.Head0
import HandS.Head1
import HandS.Head2
import HandS.HeadEnd
import HandS.HeadHook1
import HandS.HeadHook2
import PyProof.ReprRoads
import HandS.ExcInit
import HandS.ExcField
import HandS.ExcIs
import KE.KExcIs
import HandS.EndTab
import HandS.HeadHook4
import HandS.Star
import HandS.ClsMeth
import HandS.Lambda
import HandS.RaiseMore
import HandS.Iter
import KE.GoesMore
import PyProof.EnumMake
import HandS.MakeKw
import KE.KCallOwn
import PyProof.InstNe
import HandS.GenList
import PyProof.GenComp
import HandS.TupAny
import HandS.SortInts
import HandS.OwnEq
import HandS.Style
import HandS.Conv
import KE.KSuper
import HandS.NestedK
import HandS.SetFor
import HandS.Strs
import HandS.Zip
import HandS.TryMany
import HandS.FStr
import HandS.TupLe
import HandS.NoneIn
import HandS.Text
import PyProof.EnumFor
import PyProof.Conv_bool
import PyProof.EqKinds
import PyProof.FactsAll.dict_1
import KE.LtData
import PyProof.Claim2Refuses
import HandS.ReplaceLit
import PySem.Challenge.RW_everyhunt_k02_spans_made
import KE.IntTextLaws
set_option Elab.async false
section
set_option Elab.async false
set_option linter.all false
set_option maxRecDepth 100000
namespace Gh
open PySem PySem.Spec PyProof.Rows L2
structure Df where
  adr : PySem.W.Frag → Addr
  name : Str
  qual : Str
  st : Stmt
  dfl : List He.Dv := []
def Df.val (d : Df) : He.FnW := some (d.name, d.qual, defArgs d.st, .stmts (defBody d.st), defScope d.st, mainGlobals, [], builtinsNs)
def Df.dvs (K : PySem.W.Frag) (d : Df) : List V := d.dfl.map (He.Dv.v K)
def fnAt (K : PySem.W.Frag) (a : Addr) : He.FnW := match K.lookup a with
  | some ⟨_, _, .func fd, _⟩ => some (fd.name, fd.qualname, fd.params, fd.body, fd.scope, fd.globals, fd.closure, fd.builtins)
  | _ => none
def Df.ok (K : PySem.W.Frag) (d : Df) : Bool := PySem.W.keepIn K (.ref (d.adr K)) && (match K.lookup (d.adr K) with
  | some ⟨_, _, .func fd, _⟩ => PySem.W.codeIn K fd.code d.qual && (He.dflB K fd.defaults (d.dvs K) && He.kwdB K fd.kwdefaults [])
  | _ => false)
abbrev Al : Type := Bool × List He.FnW
def obs (ex : List (PySem.W.Frag → Bool)) (fn : List Df) (K : PySem.W.Frag) : Al := ((ex.all fun f => f K) && fn.all fun d => d.ok K, fn.map fun d => fnAt K (d.adr K))
def val (fn : List Df) : Al := (true, fn.map Df.val)
def Says (ex : List (PySem.W.Frag → Bool)) (fn : List Df) (K : PySem.W.Frag) : Prop := obs ex fn K = val fn
def propG (x m : Str) (K : PySem.W.Frag) : Addr := match PySem.W.recIn K (He.ma K (He.ga K x) m) "property" with
  | some (.ref g :: _) => g
  | _ => 0
def propB (x m : Str) (K : PySem.W.Frag) : Bool := He.eqO (PySem.W.findIn K (.ref (He.ga K x)) m) (some (some (.ref (He.ma K (He.ga K x) m)))) &&
  (He.eqO (PySem.W.specialIn K (.ref (He.ma K (He.ga K x) m)) "__get__") (some (some (.builtin "property.__get__"))) &&
  (decide (PySem.W.takesIn K (.ref (He.ma K (He.ga K x) m)) = some true) && (match PySem.W.recIn K (He.ma K (He.ga K x) m) "property" with
    | some (.ref _ :: _) => true
    | _ => false)))
def gd (x : Str) : PySem.W.Frag → Addr := fun K => He.ga K x
def md (x m : Str) : PySem.W.Frag → Addr := fun K => He.ma K (He.ga K x) m
def fa (f : He.Fa) : PySem.W.Frag → Bool := fun K => f.ok K
structure InsT (K : PySem.W.Frag) (C : Addr) : Prop where
  ha : PySem.W.findIn K (.ref C) "__class__" = some (some (.builtin "object.__class__"))
  hn : PySem.W.specialIn K (.builtin "object.__class__") "__get__" = some (some (.builtin "getset_descriptor.__get__"))
  htk : PySem.W.takesIn K (.builtin "object.__class__") = some true
  hm : PySem.W.mroIn K C (.type "object") = some true
  yes : PySem.W.kitOne K (.ref C) (.ref C) = some true
  no : ∀ n ∈ (["NoneType", "bool", "int", "str", "list", "tuple", "dict"] : List String), PySem.W.kitOne K (.type n) (.ref C) = some false
  out : ∀ n ∈ (["NoneType", "bool", "int", "str", "list", "tuple", "dict"] : List String), PySem.W.kitOne K (.ref C) (.type n) = some false
def insB (x : Str) (K : PySem.W.Frag) : Bool := He.eqO (PySem.W.findIn K (.ref (gd x K)) "__class__") (some (some (.builtin "object.__class__"))) &&
  (He.eqO (PySem.W.specialIn K (.builtin "object.__class__") "__get__") (some (some (.builtin "getset_descriptor.__get__"))) &&
  (decide (PySem.W.takesIn K (.builtin "object.__class__") = some true) && (decide (PySem.W.mroIn K (gd x K) (.type "object") = some true) &&
  (decide (PySem.W.kitOne K (.ref (gd x K)) (.ref (gd x K)) = some true) && (((["NoneType", "bool", "int", "str", "list", "tuple", "dict"] : List String).all fun n => decide (PySem.W.kitOne K (.type n) (.ref (gd x K)) = some false)) &&
  ((["NoneType", "bool", "int", "str", "list", "tuple", "dict"] : List String).all fun n => decide (PySem.W.kitOne K (.ref (gd x K)) (.type n) = some false)))))))
def ownB (x : Str) (K : PySem.W.Frag) : Bool := PySem.W.selfFirst K (gd x K) && (PySem.W.notFirst K (gd x K) (.ref (gd x K)) && decide (PySem.W.subIn K (.type "int") (.ref (gd x K)) = some false))
def opB (x : Str) (op : Operator) (K : PySem.W.Frag) : Bool := (match PySem.W.findIn K (.ref (gd x K)) (dunderR op.info.2) with
    | some none => true
    | some (some (.ref _)) => true
    | _ => false) && ((PySem.W.findIn K (.type "int") (PySem.dunder op.info.2)).isSome && (PySem.W.findIn K (.type "int") (dunderR op.info.2)).isSome)
end Gh
end
section
set_option Elab.async false
set_option linter.all false
set_option maxRecDepth 100000
set_option maxHeartbeats 4000000
namespace Gh
open PySem PySem.Spec PyProof.Rows L2
structure FnG (P : Program) (w : World) (K : PySem.W.Frag) (mg : Str → Option Value) (base : Heap) (CX : CXT) (k : Nat) (f : Addr) (fd : FuncData) (ps : List Str) (sp : Sp) : Prop where
  len : ∀ vs H Q E, sp vs H Q E → vs.length = ps.length
  run : ∀ (A : Around) (outer : List Env) (s : Shared) (H : Hp) (args : Args) (us : List Value) (vs : List V) (Q : VK) (E : XK), Room k A → A.guards = some [] → Env0 P w K mg base A outer s H → BindsTo s fd args (ps.zip us) → Vals vs us → sp vs H Q E →
    codeAny (model P w) A (.call (.ref f) args) (CR CX outer P w H s Q E) s
def Prom (P : Program) (w : World) (K : PySem.W.Frag) (mg : Str → Option Value) (base : Heap) (CX : CXT) (k : Nat) (f : Addr) (dvs : List V) (sp : Sp) : Prop :=
  ∃ (fd : FuncData) (ps : List Str) (ds : List Value), FnG P w K mg base CX k f fd ps sp ∧ Binds K fd ps ds ∧ Vals dvs ds
section
variable {P : Program} {w : World} {K : PySem.W.Frag} {mg : Str → Option Value} {base : Heap} {CX : CXT} {j k : Nat} {f : Addr} {fd : FuncData} {ps : List Str} {sp : Sp} {dvs : List V}
theorem FnG.mono (F : FnG P w K mg base CX j f fd ps sp) (h : j ≤ k) : FnG P w K mg base CX k f fd ps sp := ⟨F.len, fun A o s H a us vs Q E hr => F.run A o s H a us vs Q E (hr.mono h)⟩
theorem Prom.mono (F : Prom P w K mg base CX j f dvs sp) (h : j ≤ k) : Prom P w K mg base CX k f dvs sp := by
  obtain ⟨fd, ps, ds, G, b, v⟩ := F
  exact ⟨fd, ps, ds, G.mono h, b, v⟩
end
section
variable {X : Cx} {CX : CXT} {k : Nat} {f g C : Addr} {sp : Sp} {dvs : List V} {E : XK} {x m : Str} {p pos apos : Pos} {e o : Expr} {es : List Expr} {ta tb : TE} {t : TA} {r : List V → Hp → VK → Prop}
abbrev PromX (X : Cx) (CX : CXT) (k : Nat) (f : Addr) (dvs : List V) (sp : Sp) : Prop := Prom X.prog X.w X.K X.mg X.base CX k f dvs sp
def rSp (sp : Sp) (dvs : List V) (E : XK) : List V → Hp → VK → Prop := fun xs H Q => sp (xs ++ dvs) H Q E
theorem Prom.call (F : PromX X CX k f dvs sp) (hr : Room k X.A) (hg : X.A.guards = some []) (hx : Passes CX X E) : CallR X (.ref f) (rSp sp dvs E) := by
  intro pins s σ H xs us Q I r h
  obtain ⟨fd, ps, ds, G, b, hd⟩ := F
  have r2 : Vals (xs ++ dvs) (us ++ ds) := r.append hd
  have hl : (us ++ ds).length = ps.length := by rw [← r2.length]; exact G.len _ _ _ _ h
  refine wpAny_call (codeAny_mono (G.run X.A X.stack s H ⟨us, []⟩ (us ++ ds) (xs ++ dvs) Q E hr hg I.env0 (b s us I.kIn hl) r2 h) fun r s' hq => ?_)
  cases r with
  | error e => exact hx pins σ H s e s' I hq
  | ok fl =>
    cases fl with
    | ret u => exact I.after hq
    | next => exact False.elim hq
    | brk => exact False.elim hq
    | cont => exact False.elim hq
theorem ins_look {pins : List (Addr × Obj)} {σ : L2.St} {H : Hp} {s : Shared} {a dx : Addr} {fs : List (Str × V)} (I : Inv X pins σ H s) (h : H a = some (.ins C dx fs)) : ∃ ox od, PySem.W.InstAt s.heap a ox C od := by
  obtain ⟨mA, O, _, _, _, _⟩ := ins_get I.hok h
  obtain ⟨od, J, _⟩ := O.look
  exact ⟨_, _, J⟩
end
end Gh
end
section
set_option Elab.async false
set_option linter.all false
set_option maxRecDepth 100000
set_option maxHeartbeats 4000000
namespace Gh
open PySem PySem.Spec PyProof.Rows L2
def Keep (H H' : Hp) (p : Addr) : Prop := ∀ a o, H a = some o → a ≠ p → H' a = some o
theorem Keep.refl {H : Hp} {p : Addr} : Keep H H p := fun _ _ h _ => h
theorem Keep.trans {H H' H'' : Hp} {p : Addr} (h : Keep H H' p) (k : Keep H' H'' p) : Keep H H'' p := fun a o e n => k a o (h a o e n) n
def PenAt (H : Hp) (p : Addr) (b : Nat) : Prop := ∃ (c : Addr) (ns : List Int) (i z : Int), H p = some (.lst [.ref c, .int i, .int z]) ∧ H c = some (.lst (ns.map V.int)) ∧ ns.length ≤ 63 ∧ 0 ≤ i ∧ i + b ≤ 1000000 ∧ 0 ≤ z
theorem pen_ne {H : Hp} {p c : Addr} {ns : List Int} {i z : Int} (h : H p = some (.lst [.ref c, .int i, .int z])) (k : H c = some (.lst (ns.map V.int))) : c ≠ p := by
  refine ne_of k h fun e => ?_
  have e2 : ns.map V.int = [.ref c, .int i, .int z] := HO.lst.inj e
  cases ns with
  | nil => cases e2
  | cons n r => cases (List.cons.inj e2).1
theorem PenAt.same {H H' : Hp} {p : Addr} {b : Nat} (h : PenAt H p b) (n : L2.Same H H') : PenAt H' p b := by
  obtain ⟨c, ns, i, z, h1, h2, h3⟩ := h
  exact ⟨c, ns, i, z, n _ _ h1, n _ _ h2, h3⟩
end Gh
end
section
set_option Elab.async false
set_option linter.all false
set_option maxRecDepth 100000
set_option maxHeartbeats 4000000
namespace Gh
open PySem PySem.Spec PyProof.Rows L2
def exk (a C d : Addr) : HO := .ext fun h => ∃ (o : Obj) (vs : Array Value), h.get? a = some o ∧ o.cls = .ref C ∧ o.dict = some d ∧ o.data = .fields vs
def errB (x : Str) (K : PySem.W.Frag) : Bool := He.eqO (PySem.W.findIn K (.ref (gd x K)) "__getattribute__") (some (some (.builtin "BaseException.__getattribute__"))) &&
  (He.eqO (PySem.W.findIn K (.ref (gd x K)) "__getattr__") (some none) && (decide (PySem.W.subIn K (.ref (gd x K)) (.type "BaseException") = some true) && (PySem.W.hasDictIn K (gd x K) &&
  (He.eqO (PySem.W.findIn K (.ref (gd x K)) "__class__") (some (some (.builtin "object.__class__"))) && (He.eqO (PySem.W.specialIn K (.builtin "object.__class__") "__get__") (some (some (.builtin "getset_descriptor.__get__"))) &&
  (decide (PySem.W.takesIn K (.builtin "object.__class__") = some true) && decide (PySem.W.mroIn K (gd x K) (.type "object") = some true)))))))
section
variable {X : Cx} {e : Expr} {te : TE} {pos : Pos} {n : Str}
end
section
variable {X : Cx} {x n : Str} {c : Value} {i : Nat} {body suite : List Stmt} {b₀ : Stmt} {np pos pos' : Pos} {tb : WX → TS} {ts : Addr → Value → Option Addr → TS} {Wout : WX}
end
end Gh
end
section
set_option Elab.async false
set_option linter.all false
set_option maxRecDepth 100000
set_option maxHeartbeats 4000000
namespace Gh
open PySem PySem.Spec PyProof.Rows L2
structure SaysT (ex : List (PySem.W.Frag → Bool)) (fn : List Df) (tf : List He.Defn) (h : Heap) (K : PySem.W.Frag) : Prop where
  t : Says ex fn K
  hd : ∀ p ∈ tf, PySem.W.codeHdIn K (He.cT K p).1 (He.cT K p).2 = true
  out : ∀ p ∈ tf, K.lookup (He.cT K p).2 = none
  empty : ∀ p ∈ tf, h.get? (He.cT K p).2 = some { cls := .none, data := .fields #[] }
abbrev AlT : Type := Al × Bool
end Gh
end
section
set_option Elab.async false
set_option linter.all false
set_option maxRecDepth 100000
set_option maxHeartbeats 4000000
namespace Gh
open PySem PySem.Spec PyProof.Rows L2
def PromO (P : Program) (w : World) (K : PySem.W.Frag) (mg : Str → Option Value) (base : Heap) (CX : CXT) (k : Nat) (f : Addr) (dvs : List V) (sp : Sp) : Prop :=
  ∃ (fd : FuncData) (ps : List Str) (ds : List Value), FnOk P w K mg base CX k f fd ps sp ∧ Binds K fd ps ds ∧ Vals dvs ds
section
variable {X : Cx} {CX : CXT} {k : Nat} {f g C : Addr} {sp : Sp} {dvs : List V} {E : XK} {m : Str} {pos : Pos} {o : Expr} {ta : TE}
abbrev PromOX (X : Cx) (CX : CXT) (k : Nat) (f : Addr) (dvs : List V) (sp : Sp) : Prop := PromO X.prog X.w X.K X.mg X.base CX k f dvs sp
theorem PromO.call (F : PromOX X CX k f dvs sp) (hr : Room k X.A) (hx : Passes CX X E) : CallR X (.ref f) (rSp sp dvs E) := by
  intro pins s σ H xs us Q I r h
  obtain ⟨fd, ps, ds, G, b, hd⟩ := F
  exact run_fn G hr b hd hx I r h
end
def oexB (x : Str) (K : PySem.W.Frag) : Bool := (match K.lookup (gd x K) with
  | some ⟨.type c, _, .cls ⟨_, _, .ref m :: bm, _, _, hd, _, _, _, _, dl⟩, ⟨[_, _, _, _, some (.builtin n), _]⟩⟩ => decide (c = "type") && (decide (m = gd x K) && (PySem.HandSPX.refsVE bm && (hd && (!dl && decide (n = "ValueError.__new__")))))
  | _ => false) && (He.eqO (PySem.W.findIn K (.ref (gd x K)) "__setattr__") (some (some (.builtin "object.__setattr__"))) && (decide (PySem.W.subIn K (.ref (gd x K)) (.type "BaseException") = some true) &&
  (decide (PySem.W.typeIn K (.ref (gd x K)) = some (.type "type")) && PySem.W.keepIn K (.ref (gd x K)))))
inductive Kd (H : Hp) : V → Prop
  | non : Kd H .non
  | bl (b : Bool) : Kd H (.bl b)
  | int (i : Int) : Kd H (.int i)
  | str (x : Str) : Kd H (.str x)
  | lst {a : Addr} {xs : List V} (h : H a = some (.lst xs)) : Kd H (.ref a)
  | tup {a : Addr} {xs : List V} (h : H a = some (.tup xs)) : Kd H (.ref a)
  | dK {a : Addr} {kvs : List (Key × V)} (h : H a = some (.dK kvs)) : Kd H (.ref a)
theorem Kd.ty {K : PySem.W.Frag} {H : Hp} {v : V} (k : Kd H v) : ∃ n : String, TyX K H v (.type n) ∧ ((∃ i, v = .int i) ∧ n = "int" ∨ (∃ b, v = .bl b) ∧ n = "bool" ∨ (∀ i, v ≠ .int i) ∧ (∀ b, v ≠ .bl b) ∧ n ∈ (["NoneType", "str", "list", "tuple", "dict"] : List String)) := by
  cases k with
  | non => exact ⟨_, .base .non, .inr (.inr ⟨fun _ => nofun, fun _ => nofun, by decide⟩)⟩
  | bl b => exact ⟨_, .base (.bl b), .inr (.inl ⟨⟨b, rfl⟩, rfl⟩)⟩
  | int i => exact ⟨_, .base (.int i), .inl ⟨⟨i, rfl⟩, rfl⟩⟩
  | str x => exact ⟨_, .base (.str x), .inr (.inr ⟨fun _ => nofun, fun _ => nofun, by decide⟩)⟩
  | lst h => exact ⟨_, .base (.lst h), .inr (.inr ⟨fun _ => nofun, fun _ => nofun, by decide⟩)⟩
  | tup h => exact ⟨_, .base (.tup h), .inr (.inr ⟨fun _ => nofun, fun _ => nofun, by decide⟩)⟩
  | dK h => exact ⟨_, .base (.dK h), .inr (.inr ⟨fun _ => nofun, fun _ => nofun, by decide⟩)⟩
theorem Kd.same {H H' : Hp} {v : V} (k : Kd H v) (s : L2.Same H H') : Kd H' v := by
  cases k with
  | non => exact .non
  | bl b => exact .bl b
  | int i => exact .int i
  | str x => exact .str x
  | lst h => exact .lst (s _ _ h)
  | tup h => exact .tup (s _ _ h)
  | dK h => exact .dK (s _ _ h)
end Gh
end
section
set_option Elab.async false
set_option linter.all false
set_option maxRecDepth 100000
set_option maxHeartbeats 4000000
namespace Gh
open PySem PySem.Spec PyProof.Rows L2
def staG (x m : Str) (K : PySem.W.Frag) : Addr := match PySem.W.recIn K (He.ma K (He.ga K x) m) "staticmethod" with
  | some (.ref g :: _) => g
  | _ => 0
def staB (x m : Str) (K : PySem.W.Frag) : Bool := PySem.W.readsIn K (gd x K) (.type "type") && (He.eqO (PySem.W.specialIn K (.ref (gd x K)) "__getattribute__") (some (some (.builtin "type.__getattribute__"))) &&
  (decide (PySem.W.typeIn K (.ref (gd x K)) = some (.type "type")) && ((match PySem.W.findCls K (.ref (gd x K)) (.type "type") m with
    | some (.get (.builtin b) (.ref p) .none (.ref C)) => decide (b = "staticmethod.__get__") && (decide (p = He.ma K (He.ga K x) m) && decide (C = gd x K))
    | _ => false) && ((match PySem.W.recIn K (He.ma K (He.ga K x) m) "staticmethod" with
    | some (.ref _ :: _) => true
    | _ => false) && PySem.W.keepIn K (.ref (staG x m K))))))
section
variable {X : Cx} {CX : CXT} {k : Nat} {f g C : Addr} {sp : Sp} {dvs : List V} {E : XK} {m : Str} {apos pos : Pos} {o e : Expr} {es : List Expr} {ta : TE} {t : TA} {r : List V → Hp → VK → Prop}
end
end Gh
end
section
set_option Elab.async false
set_option linter.all false
set_option maxRecDepth 100000
set_option maxHeartbeats 4000000
namespace Gh
open PySem PySem.Spec PyProof.Rows L2
inductive Shw (K : PySem.W.Frag) (H : Hp) : V → Str → Prop
  | non : Shw K H .non "None"
  | bl (b : Bool) : Shw K H (.bl b) (if b then "True" else "False")
  | int (i : Int) : i.natAbs.log2 < 1920 → Shw K H (.int i) (toString i)
  | str (x : Str) : (reprText x).length ≤ sizeLine → Shw K H (.str x) (reprText x)
  | dp {a : Addr} {d : PyData} : Dp K H (.ref a) d → d.showable = true → d.hasDict = false → d.depth ≤ 100 → d.shown.length ≤ sizeLine → Shw K H (.ref a) d.shown
theorem sqL_same {K : PySem.W.Frag} {H H' : Hp} {a : Addr} {xs : List V} (h : SqL K H a xs) (s : L2.Same H H') : SqL K H' a xs := by
  rcases h with (h | ⟨o, h⟩) | h
  · exact .inl (.inl (s _ _ h))
  · exact .inl (.inr ⟨o, s _ _ h⟩)
  · exact .inr h
theorem sqT_same {K : PySem.W.Frag} {H H' : Hp} {a : Addr} {xs : List V} (h : SqT K H a xs) (s : L2.Same H H') : SqT K H' a xs := by
  rcases h with (h | ⟨o, h⟩) | h
  · exact .inl (.inl (s _ _ h))
  · exact .inl (.inr ⟨o, s _ _ h⟩)
  · exact .inr h
mutual
theorem dp_same {K : PySem.W.Frag} {H H' : Hp} (s : L2.Same H H') : ∀ {v : V} {d : PyData}, Dp K H v d → Dp K H' v d
  | _, _, .non => .non
  | _, _, .bl b => .bl b
  | _, _, .int i => .int i
  | _, _, .str x => .str x
  | _, _, .lst h a => .lst (sqL_same h s) (dpAll_same s a)
  | _, _, .tup h a => .tup (sqT_same h s) (dpAll_same s a)
theorem dpAll_same {K : PySem.W.Frag} {H H' : Hp} (s : L2.Same H H') : ∀ {vs : List V} {ds : List PyData}, DpAll K H vs ds → DpAll K H' vs ds
  | _, _, .nil => .nil
  | _, _, .cons a r => .cons (dp_same s a) (dpAll_same s r)
end
theorem Shw.same {K : PySem.W.Frag} {H H' : Hp} {v : V} {t : Str} (h : Shw K H v t) (s : L2.Same H H') : Shw K H' v t := by
  cases h with
  | non => exact .non
  | bl b => exact .bl b
  | int i h => exact .int i h
  | str x h => exact .str x h
  | dp a b c d e => exact .dp (dp_same s a) b c d e
section
variable {X : Cx} {K : PySem.W.Frag}
variable {CX : CXT} {x : Str} {C fI : Addr} {k : Nat} {sp : Sp} {dvs : List V} {e : Expr} {es : List Expr} {ta : TA} {p pos : Pos}
end
def iniB (x : Str) (K : PySem.W.Frag) : Bool := He.eqO (PySem.W.findIn K (.ref (gd x K)) "__init__") (some (some (.ref (md x "__init__" K)))) && decide (PySem.W.typeIn K (.ref (md x "__init__" K)) = some (.type "function"))
end Gh
end
section
set_option Elab.async false
set_option linter.all false
set_option maxRecDepth 100000
set_option maxHeartbeats 4000000
namespace Gh
open PySem PySem.Spec PyProof.Rows L2
structure Nw (H H' : Hp) (p : Addr) (o : HO) : Prop where
  no : H p = none
  same : L2.Same H H'
  at_ : H' p = some o
structure Mu (H H' : Hp) (p : Addr) (o : HO) : Prop where
  keep : Keep H H' p
  at_ : H' p = some o
section
variable {H H' : Hp} {p a l : Addr} {o u : HO}
theorem Nw.up (n : Nw H H' p o) (h : H a = some u) : H' a = some u := n.same _ _ h
theorem Mu.up (n : Mu H H' p o) (e : a ≠ p) (h : H a = some u) : H' a = some u := n.keep _ _ h e
theorem Mu.free (n : Mu H H' p o) (h : H' a = none) : H a = none := by
  cases e : H a with
  | none => rfl
  | some u =>
    by_cases q : a = p
    · subst q
      rw [n.at_] at h
      cases h
    · rw [n.up q e] at h
      cases h
end
def Pen (H : Hp) (p c : Addr) (b : Nat) : Prop := ∃ (ns : List Int) (i z : Int), H p = some (.lst [.ref c, .int i, .int z]) ∧ H c = some (.lst (ns.map V.int)) ∧ ns.length ≤ 63 ∧ 0 ≤ i ∧ i + b ≤ 1000000 ∧ 0 ≤ z
section
variable {H H' : Hp} {p c a l : Addr} {o u : HO} {b k : Nat} {xs : List V} {C dx : Addr} {fs : List (Str × V)}
theorem Pen.same (n : L2.Same H H') (h : Pen H p c b) : Pen H' p c b := by
  obtain ⟨ns, i, z, h1, h2, h3⟩ := h
  exact ⟨ns, i, z, n _ _ h1, n _ _ h2, h3⟩
theorem Pen.keep (n : Keep H H' l) (e1 : l ≠ p) (e2 : l ≠ c) (h : Pen H p c b) : Pen H' p c b := by
  obtain ⟨ns, i, z, h1, h2, h3⟩ := h
  exact ⟨ns, i, z, n _ _ h1 e1.symm, n _ _ h2 e2.symm, h3⟩
theorem Pen.cells (h : Pen H p c b) : c ≠ p := by
  obtain ⟨ns, i, z, h1, h2, h3⟩ := h
  exact pen_ne h1 h2
end
section
variable {H H' : Hp} {a t l : Addr} {o u : HO} {xs ys : List V} {C dx : Addr} {fs : List (Str × V)}
end
section
variable {H : Hp} {E : XK} {Q : VK} {p c l : Addr} {b : Nat} {m : Int} {xs : List V}
end
section
variable {X : Cx} {K : PySem.W.Frag}
end
section
variable {K : PySem.W.Frag} {H : Hp} {σ : L2.St} {Q : VK} {D : Ends} {i j n : Int} {x y v : V} {ta tb tc te tf : TE} {t u : TS} {c d : TT} {k : Bool} {a l p C dx : Addr} {xs ys : List V} {A B : Prop}
end
end Gh
end
section
set_option Elab.async false
set_option linter.all false
set_option maxRecDepth 100000
set_option maxHeartbeats 4000000
namespace Gh
open PySem PySem.Spec PyProof.Rows L2
section
variable {X : Cx} {a b c d : Expr} {ta tb tc td : TE} {pos : Pos}
end
def CallK (X : Cx) (u : Value) (ks : List Str) (r : List V → List V → Hp → VK → Prop) : Prop := ∀ (pins : List (Addr × Obj)) (s : Shared) (σ : L2.St) (H : Hp) (vs zs : List V) (us ws : List Value) (Q : VK), Inv X pins σ H s → Vals vs us → Vals zs ws → r vs zs H Q → wpAny (model X.prog X.w) X.A (call u us (ks.zip ws)) (EP X pins σ Q) X.xe s
def PromK (P : Program) (w : World) (K : PySem.W.Frag) (mg : Str → Option Value) (base : Heap) (CX : CXT) (k : Nat) (f : Addr) (n : Nat) (ks : List Str) (gV : List V → List V → List V) (sp : Sp) : Prop :=
  ∃ (fd : FuncData) (ps : List Str) (g : List Value → List Value → List Value), FnOk P w K mg base CX k f fd ps sp ∧ KBn K fd ps n ks g gV
section
variable {K : PySem.W.Frag} {x qual : Str} {params : Arguments} {body : List Stmt} {scope : Scope} {dvs : List V} {kws : List (Str × V)} {f : Addr} {fd : FuncData} {ps : List Str}
end
section
variable {X : Cx} {CX : CXT} {k n : Nat} {f C : Addr} {ks : List Str} {sp : Sp} {E : XK} {x m : Str} {p pos apos : Pos} {e o : Expr} {es : List Expr} {kws : List Keyword} {t tk : TA} {ta : TE} {gV : List V → List V → List V} {r : List V → List V → Hp → VK → Prop}
def rSpK (n m : Nat) (gV : List V → List V → List V) (sp : Sp) (E : XK) : List V → List V → Hp → VK → Prop := fun vs zs H Q => vs.length = n ∧ zs.length = m ∧ sp (gV vs zs) H Q E
theorem PromK.call (F : PromK X.prog X.w X.K X.mg X.base CX k f n ks gV sp) (hr : Room k X.A) (hx : Passes CX X E) : CallK X (.ref f) ks (rSpK n ks.length gV sp E) := by
  intro pins s σ H vs zs us ws Q I rv rz ⟨l1, l2, h⟩
  obtain ⟨fd, ps, g, G, b⟩ := F
  exact run_fnN G hr b hx I rv rz l1 l2 h
end
section
variable {H : Hp} {σ : L2.St} {Q : VK} {ta : TE} {t tk : TA} {r : List V → List V → Hp → VK → Prop} {C : Addr} {m : Str} {n k : Nat} {gV : List V → List V → List V} {sp : Sp} {E : XK} {vs zs : List V}
end
end Gh
end
section
set_option Elab.async false
set_option linter.all false
set_option maxRecDepth 100000
set_option maxHeartbeats 4000000
namespace Gh
open PySem PySem.Spec PyProof.Rows L2
structure Fn (d : PyData) (n b : Nat) : Prop where
  cl : d.canLay0 = true
  sh : d.showable = true
  nd : d.hasDict = false
  ls : d.leavesShort 200 = true
  dp : d.depth ≤ n
  bk : d.bulk ≤ b
structure FnAll (ds : List PyData) (n b : Nat) : Prop where
  cl : PyData.canLayAll0 ds = true
  sh : PyData.showableAll ds = true
  nd : PyData.hasDictAll ds = false
  ls : PyData.leavesShortAll 200 ds = true
  dp : PyData.depthAll ds ≤ n
  bk : PyData.bulkAll ds ≤ b
theorem log_lt100 {i : Int} (h1 : -(10 ^ 100) < i) (h2 : i < 10 ^ 100) : i.natAbs.log2 < 1920 := by
  have h : i.natAbs < 2 ^ 1920 := Nat.lt_of_lt_of_le (show i.natAbs < 10 ^ 100 by omega) (by decide)
  by_cases h0 : i.natAbs = 0
  · rw [h0]
    decide
  · exact (Nat.log2_lt h0).mpr h
theorem Fn.int {i : Int} (h1 : -(10 ^ 100) < i) (h2 : i < 10 ^ 100) : Fn (.int i) 0 0 := by
  refine ⟨rfl, decide_eq_true (log_lt100 h1 h2), rfl, ?_, Nat.le_refl _, Nat.le_refl _⟩
  have e := int_text_length_le10 (a := i) (k := 100) (by decide) (by omega)
  refine decide_eq_true ?_
  show (Str.ofString (toString i)).length ≤ 200
  rw [PySem.ofString_length]
  omega
theorem Fn.bool (b : Bool) : Fn (.bool b) 0 0 := ⟨rfl, rfl, rfl, rfl, Nat.le_refl _, Nat.le_refl _⟩
theorem Fn.none : Fn .none 0 0 := ⟨rfl, rfl, rfl, rfl, Nat.le_refl _, Nat.le_refl _⟩
theorem Fn.str {x : Str} (h0 : (PyData.str x).canLay0 = true) (h : (x.cps.toList.all fun c => decide (c < 16 ^ 8)) = true) : Fn (.str x) 0 x.cps.size := ⟨h0, rfl, rfl, h, Nat.le_refl _, Nat.le_refl _⟩
theorem FnAll.nil {n b : Nat} : FnAll [] n b := ⟨rfl, rfl, rfl, rfl, Nat.zero_le _, Nat.zero_le _⟩
theorem FnAll.cons {d : PyData} {ds : List PyData} {n b c : Nat} (h : Fn d n b) (k : FnAll ds n c) : FnAll (d :: ds) n (b + 1 + c) := by
  refine ⟨?_, ?_, ?_, ?_, ?_, ?_⟩
  · show (d.canLay0 && _) = true
    rw [h.cl, k.cl] <;> rfl
  · show (d.showable && _) = true
    rw [h.sh, k.sh] <;> rfl
  · show (d.hasDict || _) = false
    rw [h.nd, k.nd] <;> rfl
  · show (d.leavesShort 200 && _) = true
    rw [h.ls, k.ls] <;> rfl
  · show max _ _ ≤ n
    exact Nat.max_le.mpr ⟨h.dp, k.dp⟩
  · show d.bulk + 1 + _ ≤ _
    have := h.bk
    have := k.bk
    omega
theorem Fn.list {ds : List PyData} {n b : Nat} (h : FnAll ds n b) : Fn (.list ds) (n + 1) b := ⟨h.cl, h.sh, h.nd, h.ls, Nat.succ_le_succ h.dp, h.bk⟩
theorem Fn.tuple {ds : List PyData} {n b : Nat} (h : FnAll ds n b) : Fn (.tuple ds) (n + 1) b := ⟨h.cl, h.sh, h.nd, h.ls, Nat.succ_le_succ h.dp, h.bk⟩
section
variable {K : PySem.W.Frag} {H : Hp} {a : Addr} {ns : List Int}
end
section
variable {H H' : Hp} {a l p c : Addr} {u : HO} {b : Nat}
end
section
variable {K : PySem.W.Frag} {H : Hp} {σ : L2.St} {Q : VK} {m : Nat} {tt : TT} {te tl : TE} {vs : List Nat} {t : TA} {a : Addr} {xs : List V}
end
section
variable {H H' : Hp} {a l p c : Addr} {u : HO} {b : Nat}
end
section
variable {K : PySem.W.Frag} {H : Hp} {σ : L2.St} {D : Ends} {m : Nat} {g : TG} {tb : TS} {tl : TE} {t : TA} {a : Addr} {xs : List V}
end
section
end
end Gh
end
section
set_option Elab.async false
set_option linter.all false
set_option maxRecDepth 100000
set_option maxHeartbeats 4000000
namespace Gh
open PySem PySem.Spec PyProof.Rows L2
section
variable {H H' : Hp} {a l p c t : Addr} {o u : HO} {b : Nat} {xs : List V} {T : List (Addr × Str)} {C dx : Addr} {fs : List (Str × V)}
def Fr (H H' : Hp) (p : Addr) : Prop := ∀ a o, H a = some o → a ≠ p → (∀ ps, o ≠ .tbl ps) → H' a = some o
theorem Fr.refl : Fr H H p := fun _ _ h _ _ => h
theorem Fr.trans {H1 : Hp} (n : Fr H H1 p) (k : Fr H1 H' p) : Fr H H' p := fun a o h e z => k a o (n a o h e z) e z
end
section
variable {X : Cx} {H : Hp} {σ : L2.St} {Q : VK} {T : List (Addr × Str)} {TT : (XK → Hp → VK → Prop) → Hp → VK → Prop} {t : XK → TE}
end
end Gh
end
section
set_option Elab.async false
set_option linter.all false
set_option maxRecDepth 100000
set_option maxHeartbeats 4000000
namespace Gh
open PySem PySem.Spec PyProof.Rows L2
section
variable {X : Cx} {CX : CXT} {k : Nat} {C f : Addr} {sp : Sp} {E : XK} {r : List V → Hp → VK → Prop}
def nfB (x : Str) (K : PySem.W.Frag) : Bool := (["NoneType", "bool", "int", "str", "list", "tuple", "dict"] : List String).all fun n => PySem.W.notFirst K (gd x K) (.type n)
theorem InsT.ty {K : PySem.W.Frag} {H : Hp} {a C dx : Addr} {fs : List (Str × V)} (t : InsT K C) (c : Cls K C) (h : H a = some (.ins C dx fs)) : TyX K H (.ref a) (.ref C) := .base (.ins h c t.ha t.hn t.htk t.hm)
end
end Gh
end
section
set_option Elab.async false
set_option linter.all false
set_option maxRecDepth 100000
set_option maxHeartbeats 4000000
namespace Gh
open PySem PySem.Spec PyProof.Rows L2
section
variable {prog : Program} {w : World} {A : Around} {E : Value → Shared → Prop} {s : Shared} {K : PySem.W.Frag} {x C f L : Addr} {h₀ : Heap} {m : Str → Option Value} {ox : Obj} {od : Option Obj} {b tb : Value}
end
section
variable {X : Cx} {CX : CXT} {k : Nat} {C f : Addr} {sp : Sp} {E : XK}
def neB (x : Str) (K : PySem.W.Frag) : Bool := He.eqO (PySem.W.findIn K (.ref (gd x K)) "__ne__") (some (some (.builtin "object.__ne__"))) && decide (PySem.W.subIn K (.ref (gd x K)) (.type "object") = some true)
end
end Gh
end
section
set_option Elab.async false
set_option linter.all false
set_option maxRecDepth 100000
set_option maxHeartbeats 4000000
namespace Gp
open PySem PySem.Spec PyProof.Rows L2 Gh
inductive D where
  | non | bl (b : Bool) | int (i : Int) | str (x : Str) | tup (ds : List D) | lst (ds : List D)
  | obj (c : Str) (fs : List (Str × D)) | err (c : Str) (fs : List (Str × D)) | pen
  | cls (c : Str) | dct | dic (ps : List (Key × D)) | dit (ps : List (List Key × D)) | dik (ps : List (Key × D))
abbrev Fs := List (Str × D)
inductive Tr (α : Type) where
  | ok (a : α) | ex (c : Str) (fs : Fs) | bad | draw (m : Int) (k : Int → Tr α)
section
variable {α β γ : Type}
def bd : Tr α → (α → Tr β) → Tr β
  | .ok a, k => k a
  | .ex c fs, _ => .ex c fs
  | .bad, _ => .bad
  | .draw m f, k => .draw m fun d => bd (f d) k
def Al (P : α → Nat → Prop) (E : Str → Fs → Nat → Prop) : Tr α → Nat → Prop
  | .ok a, b => P a b
  | .ex c fs, b => E c fs b
  | .bad, _ => False
  | .draw m k, b => ∃ b', b = b' + 1 ∧ 0 < m ∧ m < 10 ^ 100 ∧ ∀ d, 0 ≤ d → d < m → Al P E (k d) b'
theorem Al.mono {P P' : α → Nat → Prop} {E E' : Str → Fs → Nat → Prop} (hP : ∀ a b, P a b → P' a b) (hE : ∀ c fs b, E c fs b → E' c fs b) {m : Tr α} {b : Nat} (h : Al P E m b) : Al P' E' m b := by
  induction m generalizing b with
  | ok a => exact hP _ _ h
  | ex c fs => exact hE _ _ _ h
  | bad => exact h
  | draw m f ih =>
    obtain ⟨b', e, h1, h2, h3⟩ := h
    exact ⟨b', e, h1, h2, fun d d0 d1 => ih d (h3 d d0 d1)⟩
end
def pr2 : List D → Bool
  | [.int _, .int _] => true
  | _ => false
structure Gw where
  K : PySem.W.Frag
  T : List (Addr × Str)
  p : Addr
  c : Addr
mutual
inductive Den (g : Gw) (U : Addr → Prop) (H : Hp) : V → D → Prop
  | non : Den g U H .non .non
  | bl (b : Bool) : Den g U H (.bl b) (.bl b)
  | int (i : Int) : Den g U H (.int i) (.int i)
  | str (x : Str) : x.length ≤ sizeLine → Den g U H (.str x) (.str x)
  | tup {a : Addr} {vs : List V} {ds : List D} : H a = some (.tup vs) → ¬ U a → vs.length ≤ sizeLine → DenL g U H vs ds → Den g U H (.ref a) (.tup ds)
  | tupW {a : Addr} {vs : List V} {ds : List D} : (∀ H', SqT g.K H' a vs) → vs.length ≤ sizeLine → DenL g U H vs ds → pr2 ds = false → Den g U H (.ref a) (.tup ds)
  | lst {a : Addr} {vs : List V} {ds : List D} : H a = some (.lst vs) → ¬ U a → vs.length ≤ sizeLine → DenL g U H vs ds → Den g U H (.ref a) (.lst ds)
  | obj {a dx : Addr} {c : Str} {fvs : List (Str × V)} {fs : List (Str × D)} : H a = some (.ins (gd c g.K) dx fvs) → ¬ U a → DenF g U H fvs fs → Den g U H (.ref a) (.obj c fs)
  | err {a d : Addr} {c : Str} {fvs : List (Str × V)} {fs : List (Str × D)} : H a = some (exk a (gd c g.K) d) → ¬ U a → H d = some (.xd fvs) → ¬ U d → DenF g U H fvs fs → Den g U H (.ref a) (.err c fs)
  | pen : Den g U H (.ref g.p) .pen
  | cls (c : Str) : Den g U H (.ref (gd c g.K)) (.cls c)
  | dct {a : Addr} : H a = some (.dK []) → ¬ U a → Den g U H (.ref a) .dct
  | dic {a : Addr} {kvs : List (Key × V)} {ps : List (Key × D)} : H a = some (.dK kvs) → ¬ U a → kvs.map (·.1) = ps.map (·.1) → DenL g U H (kvs.map (·.2)) (ps.map (·.2)) → Den g U H (.ref a) (.dic ps)
  | dit {a : Addr} {ob : Obj} {kvs : List (List Key × V)} {ps : List (List Key × D)} : H a = some (.frz ob (.dT kvs)) → ¬ U a → kvs.map (·.1) = ps.map (·.1) → DenL g U H (kvs.map (·.2)) (ps.map (·.2)) → Den g U H (.ref a) (.dit ps)
  | dik {a : Addr} {ob : Obj} {kvs : List (Key × V)} {ps : List (Key × D)} : H a = some (.frz ob (.dK kvs)) → ¬ U a → kvs.map (·.1) = ps.map (·.1) → DenL g U H (kvs.map (·.2)) (ps.map (·.2)) → Den g U H (.ref a) (.dik ps)
inductive DenL (g : Gw) (U : Addr → Prop) (H : Hp) : List V → List D → Prop
  | nil : DenL g U H [] []
  | cons {v : V} {vs : List V} {d : D} {ds : List D} : Den g U H v d → DenL g U H vs ds → DenL g U H (v :: vs) (d :: ds)
inductive DenF (g : Gw) (U : Addr → Prop) (H : Hp) : List (Str × V) → List (Str × D) → Prop
  | nil : DenF g U H [] []
  | cons {n : Str} {v : V} {vs : List (Str × V)} {d : D} {ds : List (Str × D)} : Den g U H v d → DenF g U H vs ds → DenF g U H ((n, v) :: vs) ((n, d) :: ds)
end
section
variable {g : Gw} {U U' : Addr → Prop} {H H' : Hp}
def ExtU (U : Addr → Prop) (H H' : Hp) : Prop := ∀ a o, H a = some o → ¬ U a → (∀ ps, o ≠ .tbl ps) → H' a = some o
mutual
theorem Den.ext (e : ExtU U H H') : ∀ {v : V} {d : D}, Den g U H v d → Den g U H' v d
  | _, _, .non => .non
  | _, _, .bl b => .bl b
  | _, _, .int i => .int i
  | _, _, .str x h => .str x h
  | _, _, .tup h n l k => .tup (e _ _ h n (fun _ z => by cases z)) n l (DenL.ext e k)
  | _, _, .tupW h l k nk => .tupW h l (DenL.ext e k) nk
  | _, _, .lst h n l k => .lst (e _ _ h n (fun _ z => by cases z)) n l (DenL.ext e k)
  | _, _, .obj h n k => .obj (e _ _ h n (fun _ z => by cases z)) n (DenF.ext e k)
  | _, _, .err h n h2 n2 k => .err (e _ _ h n (fun _ z => by unfold exk at z; cases z)) n (e _ _ h2 n2 (fun _ z => by cases z)) n2 (DenF.ext e k)
  | _, _, .pen => .pen
  | _, _, .cls c => .cls c
  | _, _, .dct h n => .dct (e _ _ h n (fun _ z => by cases z)) n
  | _, _, .dic h n l k => .dic (e _ _ h n (fun _ z => by cases z)) n l (DenL.ext e k)
  | _, _, .dit h n l k => .dit (e _ _ h n (fun _ z => by cases z)) n l (DenL.ext e k)
  | _, _, .dik h n l k => .dik (e _ _ h n (fun _ z => by cases z)) n l (DenL.ext e k)
theorem DenL.ext (e : ExtU U H H') : ∀ {vs : List V} {ds : List D}, DenL g U H vs ds → DenL g U H' vs ds
  | _, _, .nil => .nil
  | _, _, .cons a r => .cons (Den.ext e a) (DenL.ext e r)
theorem DenF.ext (e : ExtU U H H') : ∀ {vs : List (Str × V)} {ds : List (Str × D)}, DenF g U H vs ds → DenF g U H' vs ds
  | _, _, .nil => .nil
  | _, _, .cons a r => .cons (Den.ext e a) (DenF.ext e r)
end
mutual
theorem Den.sub (e : ∀ a, (∃ o, H a = some o) → U' a → U a) : ∀ {v : V} {d : D}, Den g U H v d → Den g U' H v d
  | _, _, .non => .non
  | _, _, .bl b => .bl b
  | _, _, .int i => .int i
  | _, _, .str x h => .str x h
  | _, _, .tup h n l k => .tup h (fun z => n (e _ ⟨_, h⟩ z)) l (DenL.sub e k)
  | _, _, .tupW h l k nk => .tupW h l (DenL.sub e k) nk
  | _, _, .lst h n l k => .lst h (fun z => n (e _ ⟨_, h⟩ z)) l (DenL.sub e k)
  | _, _, .obj h n k => .obj h (fun z => n (e _ ⟨_, h⟩ z)) (DenF.sub e k)
  | _, _, .err h n h2 n2 k => .err h (fun z => n (e _ ⟨_, h⟩ z)) h2 (fun z => n2 (e _ ⟨_, h2⟩ z)) (DenF.sub e k)
  | _, _, .pen => .pen
  | _, _, .cls c => .cls c
  | _, _, .dct h n => .dct h (fun z => n (e _ ⟨_, h⟩ z))
  | _, _, .dic h n l k => .dic h (fun z => n (e _ ⟨_, h⟩ z)) l (DenL.sub e k)
  | _, _, .dit h n l k => .dit h (fun z => n (e _ ⟨_, h⟩ z)) l (DenL.sub e k)
  | _, _, .dik h n l k => .dik h (fun z => n (e _ ⟨_, h⟩ z)) l (DenL.sub e k)
theorem DenL.sub (e : ∀ a, (∃ o, H a = some o) → U' a → U a) : ∀ {vs : List V} {ds : List D}, DenL g U H vs ds → DenL g U' H vs ds
  | _, _, .nil => .nil
  | _, _, .cons a r => .cons (Den.sub e a) (DenL.sub e r)
theorem DenF.sub (e : ∀ a, (∃ o, H a = some o) → U' a → U a) : ∀ {vs : List (Str × V)} {ds : List (Str × D)}, DenF g U H vs ds → DenF g U' H vs ds
  | _, _, .nil => .nil
  | _, _, .cons a r => .cons (Den.sub e a) (DenF.sub e r)
end
theorem DenL.length : ∀ {vs : List V} {ds : List D}, DenL g U H vs ds → vs.length = ds.length
  | _, _, .nil => rfl
  | _, _, .cons _ r => congrArg (· + 1) (DenL.length r)
theorem DenL.append : ∀ {vs ws : List V} {ds es : List D}, DenL g U H vs ds → DenL g U H ws es → DenL g U H (vs ++ ws) (ds ++ es)
  | _, _, _, _, .nil, k => k
  | _, _, _, _, .cons a r, k => .cons a (DenL.append r k)
theorem DenL.get : ∀ {vs : List V} {ds : List D} {i : Nat} {v : V}, DenL g U H vs ds → vs[i]? = some v → ∃ d, ds[i]? = some d ∧ Den g U H v d
  | _, _, i, v, .nil, e => by simp at e
  | _, _, 0, v, .cons a r, e => by simp at e; subst e; exact ⟨_, rfl, a⟩
  | _, _, i + 1, v, .cons a r, e => by
    obtain ⟨d, h1, h2⟩ := DenL.get (i := i) (v := v) r (by simpa using e)
    exact ⟨d, by simpa using h1, h2⟩
theorem DenL.getD : ∀ {vs : List V} {ds : List D} {i : Nat} {d : D}, DenL g U H vs ds → ds[i]? = some d → ∃ v, vs[i]? = some v ∧ Den g U H v d
  | _, _, i, v, .nil, e => by simp at e
  | _, _, 0, v, .cons a r, e => by simp at e; subst e; exact ⟨_, rfl, a⟩
  | _, _, i + 1, v, .cons a r, e => by
    obtain ⟨d, h1, h2⟩ := DenL.getD (i := i) (d := v) r (by simpa using e)
    exact ⟨d, by simpa using h1, h2⟩
theorem DenL.set : ∀ {vs : List V} {ds : List D} (n : Nat) {v : V} {d : D}, Den g U H v d → DenL g U H vs ds → DenL g U H (vs.set n v) (ds.set n d)
  | _, _, _, _, _, _, .nil => .nil
  | _, _, 0, _, _, h, .cons _ r => .cons h r
  | _, _, n + 1, _, _, h, .cons a r => .cons a (DenL.set n h r)
theorem DenF.look : ∀ {vs : List (Str × V)} {ds : List (Str × D)} {n : Str} {d : D}, DenF g U H vs ds → ds.lookup n = some d → ∃ v, vs.lookup n = some v ∧ Den g U H v d
  | _, _, _, _, .nil, e => by cases e
  | _, _, n, d, .cons (n := m) a r, e => by
    simp only [List.lookup] at e ⊢
    cases q : (n == m) with
    | true => rw [q] at e; cases e; exact ⟨_, rfl, a⟩
    | false => rw [q] at e; exact DenF.look r e
theorem DenF.length : ∀ {vs : List (Str × V)} {ds : List (Str × D)}, DenF g U H vs ds → vs.length = ds.length
  | _, _, .nil => rfl
  | _, _, .cons _ r => congrArg (· + 1) (DenF.length r)
end
structure Wd (g : Gw) (H : Hp) (b : Nat) : Prop where
  pen : Pen H g.p g.c b
  tabs : LamX.Tabs g.T H
structure Nt (o : HO) : Prop where
  tbl : ∀ ps, o ≠ .tbl ps
  tup : ∀ xs, o ≠ .tup xs
structure UOk (g : Gw) (U : Addr → Prop) (H : Hp) : Prop where
  p : U g.p
  c : U g.c
  al : ∀ a, U a → ∃ o, H a = some o ∧ Nt o
section
variable {g : Gw} {U U' : Addr → Prop} {H H' H1 H2 : Hp} {b : Nat}
theorem UOk.extU (u : UOk g U H) (f : Fr H H' g.p) : ExtU U H H' := fun a o h n z => f a o h (fun e => n (e ▸ u.p)) z
theorem UOk.fr (u : UOk g U H) (f : Fr H H' g.p) (w : Wd g H' b) : UOk g U H' := ⟨u.p, u.c, fun a ha => by
  by_cases e : a = g.p
  · subst e
    obtain ⟨ns, i, z, h, _⟩ := w.pen
    exact ⟨_, h, (fun _ z => by cases z), (fun _ z => by cases z)⟩
  · obtain ⟨o, h, n⟩ := u.al a ha
    exact ⟨o, f a o h e n.tbl, n⟩⟩
theorem Den.fr (u : UOk g U H) (f : Fr H H' g.p) {v : V} {d : D} (h : Den g U H v d) : Den g U H' v d := h.ext (u.extU f)
theorem DenL.fr (u : UOk g U H) (f : Fr H H' g.p) {v : List V} {d : List D} (h : DenL g U H v d) : DenL g U H' v d := h.ext (u.extU f)
theorem Wd.same (w : Wd g H b) (s : L2.Same H H') : Wd g H' b := ⟨w.pen.same s, w.tabs.ext s⟩
end
inductive Ow where
  | l (ds : List D) | d (x : D)
inductive DcR (g : Gw) (U : Addr → Prop) (H : Hp) : HO → D → Prop
  | k {kvs : List (Key × V)} {ps : List (Key × D)} : kvs.map (·.1) = ps.map (·.1) → DenL g U H (kvs.map (·.2)) (ps.map (·.2)) → DcR g U H (.dK kvs) (.dik ps)
  | t {kvs : List (List Key × V)} {ps : List (List Key × D)} : kvs.map (·.1) = ps.map (·.1) → DenL g U H (kvs.map (·.2)) (ps.map (·.2)) → DcR g U H (.dT kvs) (.dit ps)
def OwR (g : Gw) (U : Addr → Prop) (H : Hp) (o : HO) : Ow → Prop
  | .l ds => ∃ vs, o = .lst vs ∧ vs.length ≤ sizeLine ∧ DenL g U H vs ds
  | .d x => DcR g U H o x
theorem OwR.map {g : Gw} {U U' : Addr → Prop} {H H' : Hp} {o : HO} (f : ∀ {vs : List V} {ds : List D}, DenL g U H vs ds → DenL g U' H' vs ds) : ∀ {x : Ow}, OwR g U H o x → OwR g U' H' o x
  | .l ds, ⟨vs, e, l, k⟩ => ⟨vs, e, l, f k⟩
  | .d x, h => by
    cases h with
    | k a b => exact .k a (f b)
    | t a b => exact .t a (f b)
theorem OwR.no {g : Gw} {U : Addr → Prop} {H : Hp} {o : HO} : ∀ {x : Ow}, OwR g U H o x → (∃ vs, o = .lst vs) ∨ (∃ ks, o = .dK ks) ∨ ∃ ks, o = .dT ks
  | .l ds, ⟨vs, e, l, k⟩ => .inl ⟨vs, e⟩
  | .d x, h => by
    cases h with
    | k a b => exact .inr (.inl ⟨_, rfl⟩)
    | t a b => exact .inr (.inr ⟨_, rfl⟩)
theorem OwR.tbl {g : Gw} {U : Addr → Prop} {H : Hp} {o : HO} {x : Ow} (h : OwR g U H o x) : ∀ ps, o ≠ .tbl ps := fun ps e => by
  rcases h.no with ⟨vs, z⟩ | ⟨vs, z⟩ | ⟨vs, z⟩ <;> (rw [e] at z; cases z)
inductive Sl where
  | no | fz (d : D) | ow (ds : Ow) | oi (c : Str) (fs : Fs)
abbrev Env := List Sl
def SlR (g : Gw) (U : Addr → Prop) (H : Hp) (o : Option V) : Sl → Prop
  | .no => True
  | .fz d => ∃ v, o = some v ∧ Den g U H v d
  | .ow ds => ∃ a u, o = some (.ref a) ∧ H a = some u ∧ OwR g U H u ds ∧ U a ∧ a ≠ g.p ∧ a ≠ g.c
  | .oi c fs => ∃ a dx fvs, o = some (.ref a) ∧ H a = some (.ins (gd c g.K) dx fvs) ∧ DenF g U H fvs fs ∧ U a ∧ a ≠ g.p ∧ a ≠ g.c
def OwnAt (σ : L2.St) (ε : Env) (i : Nat) (a : Addr) : Prop := σ[i]? = some (some (.ref a)) ∧ ((∃ ds, ε[i]? = some (.ow ds)) ∨ ∃ c fs, ε[i]? = some (.oi c fs))
structure Rel (g : Gw) (U : Addr → Prop) (H : Hp) (σ : L2.St) (ε : Env) : Prop where
  len : σ.length = ε.length
  at_ : ∀ (i : Nat) (s : Sl), ε[i]? = some s → ∃ o, σ[i]? = some o ∧ SlR g U H o s
  apart : ∀ (i j : Nat) (a : Addr), i ≠ j → OwnAt σ ε i a → OwnAt σ ε j a → False
section
variable {g : Gw} {U U' : Addr → Prop} {H H' H1 H2 : Hp} {b : Nat} {σ : L2.St} {ε : Env}
theorem extU_of (hp : U g.p) (f : Fr H H' g.p) : ExtU U H H' := fun a o h n z => f a o h (fun e => n (e ▸ hp)) z
theorem SlR.frp (hp : U g.p) (f : Fr H H' g.p) {o : Option V} : ∀ {s : Sl}, SlR g U H o s → SlR g U H' o s
  | .no, _ => trivial
  | .fz d, ⟨v, e, h⟩ => ⟨v, e, h.ext (extU_of hp f)⟩
  | .ow ds, ⟨a, vs, e, h, k, ua, n1, n2⟩ => ⟨a, vs, e, f _ _ h n1 k.tbl, k.map (fun q => q.ext (extU_of hp f)), ua, n1, n2⟩
  | .oi c fs, ⟨a, dx, fvs, e, h, k, ua, n1, n2⟩ => ⟨a, dx, fvs, e, f _ _ h n1 (fun _ z => by cases z), k.ext (extU_of hp f), ua, n1, n2⟩
theorem SlR.fr (u : UOk g U H) (f : Fr H H' g.p) {o : Option V} {s : Sl} (h : SlR g U H o s) : SlR g U H' o s := h.frp u.p f
theorem Rel.frp (r : Rel g U H σ ε) (hp : U g.p) (f : Fr H H' g.p) : Rel g U H' σ ε := ⟨r.len, fun i s e => by
  obtain ⟨o, h1, h2⟩ := r.at_ i s e
  exact ⟨o, h1, h2.frp hp f⟩, r.apart⟩
theorem Rel.fr (r : Rel g U H σ ε) (u : UOk g U H) (f : Fr H H' g.p) : Rel g U H' σ ε := ⟨r.len, fun i s e => by
  obtain ⟨o, h1, h2⟩ := r.at_ i s e
  exact ⟨o, h1, h2.fr u f⟩, r.apart⟩
def okP (g : Gw) (U : Addr → Prop) (H : Hp) (Q : VK) : D → Nat → Prop := fun d b => ∀ v H', Den g U H' v d → Wd g H' b → Fr H H' g.p → Q v H'
def exP (g : Gw) (U : Addr → Prop) (E : XK) (H : Hp) : Str → Fs → Nat → Prop := fun c fs b => ∀ dd fvs H', H' dd = some (.xd fvs) → ¬ U dd → DenF g U H' fvs fs → Wd g H' b → Fr H H' g.p → E (.ref (gd c g.K)) (some dd) H'
theorem exP.fr {E : XK} {c : Str} {fs : Fs} (f : Fr H H1 g.p) (h : exP g U E H c fs b) : exP g U E H1 c fs b := fun dd fvs H' h1 h2 h3 h4 h5 => h dd fvs H' h1 h2 h3 h4 (f.trans h5)
theorem okP.fr {Q : VK} {d : D} (f : Fr H H1 g.p) (h : okP g U H Q d b) : okP g U H1 Q d b := fun v H' h1 h2 h3 => h v H' h1 h2 (f.trans h3)
theorem okP.here {Q : VK} {d : D} {v : V} (h : okP g U H Q d b) (w : Wd g H b) (dn : Den g U H v d) : Q v H := h v H dn w Fr.refl
variable {E : XK} {ta tb tc : TE} {ma mb : Tr D}
end
end Gp
end
section
set_option Elab.async false
set_option linter.all false
set_option maxRecDepth 100000
set_option maxHeartbeats 4000000
namespace Gp
open PySem PySem.Spec PyProof.Rows L2 Gh
inductive Fl (W L : Type) where
  | nx (w : W) | rt (d : D) | bk (l : L) | ct (l : L)
def FrM (g : Gw) (Mt : Addr → Prop) (H H' : Hp) : Prop := ∀ a o, H a = some o → a ≠ g.p → ¬ Mt a → (∀ ps, o ≠ .tbl ps) → H' a = some o
structure Stt (g : Gw) (Mt U0 : Addr → Prop) (H0 : Hp) (U : Addr → Prop) (σ : L2.St) (H : Hp) (b : Nat) (ε : Env) : Prop where
  rel : Rel g U H σ ε
  wd : Wd g H b
  uok : UOk g U H
  sub : ∀ a, U0 a → U a
  own : ∀ i a, OwnAt σ ε i a → Mt a ∨ ∀ o, H0 a = some o → ∃ ps, o = .tbl ps
  ext : FrM g Mt H0 H
  nu0 : ∀ (i : Nat) (ds : Ow) (a : Addr), ε[i]? = some (.ow ds) → σ[i]? = some (some (.ref a)) → ¬ U0 a
  oim : ∀ (i : Nat) (c : Str) (fs : Fs) (a : Addr), i = 0 → ε[i]? = some (.oi c fs) → σ[i]? = some (some (.ref a)) → Mt a
section
variable {g : Gw} {Mt U0 U U' : Addr → Prop} {H0 H H' H1 H2 : Hp} {b b1 : Nat} {σ : L2.St} {ε ε' : Env} {E : XK} {W L W' : Type}
structure Ev (U : Addr → Prop) (H : Hp) (U' : Addr → Prop) (H' : Hp) : Prop where
  keep : ∀ a o, H a = some o → ¬ U a → (∀ ps, o ≠ .tbl ps) → H' a = some o
  out : ∀ a o, H a = some o → ¬ U a → (∀ ps, o ≠ .tbl ps) → ¬ U' a
theorem Ev.refl : Ev U H U H := ⟨fun _ _ h _ _ => h, fun _ _ _ n _ => n⟩
theorem Ev.trans {U1 : Addr → Prop} {H1 : Hp} (h : Ev U H U1 H1) (k : Ev U1 H1 U' H') : Ev U H U' H' := ⟨fun a o e n t => k.keep a o (h.keep a o e n t) (h.out a o e n t) t, fun a o e n t => k.out a o (h.keep a o e n t) (h.out a o e n t) t⟩
theorem FrM.trans (h : FrM g Mt H0 H) (f : Fr H H' g.p) : FrM g Mt H0 H' := fun a o e n1 n2 n3 => f a o (h a o e n1 n2 n3) n1 n3
theorem Stt.fr (s : Stt g Mt U0 H0 U σ H b ε) (f : Fr H H' g.p) (w : Wd g H' b1) : Stt g Mt U0 H0 U σ H' b1 ε := ⟨s.rel.fr s.uok f, w, s.uok.fr f w, s.sub, s.own, s.ext.trans f, s.nu0, s.oim⟩
def flP (g : Gw) (Mt U0 : Addr → Prop) (H0 : Hp) (U : Addr → Prop) (H : Hp) (D : Ends) (env : W → Env) (envL : L → Env) : Fl W L → Nat → Prop
  | .nx w, b => ∀ U' σ' H', Ev U H U' H' → Stt g Mt U0 H0 U' σ' H' b (env w) → D.nx σ' H'
  | .rt d, b => ∀ v H, Den g U0 H v d → Wd g H b → FrM g Mt H0 H → D.rt v H
  | .bk w, b => ∀ U' σ' H', Ev U H U' H' → Stt g Mt U0 H0 U' σ' H' b (envL w) → D.bk σ' H'
  | .ct w, b => ∀ U' σ' H', Ev U H U' H' → Stt g Mt U0 H0 U' σ' H' b (envL w) → D.ct σ' H'
def exS (g : Gw) (Mt U0 : Addr → Prop) (H0 : Hp) (E : XK) : Str → Fs → Nat → Prop := fun c fs b => ∀ dd fvs H, H dd = some (.xd fvs) → ¬ U0 dd → DenF g U0 H fvs fs → Wd g H b → FrM g Mt H0 H → E (.ref (gd c g.K)) (some dd) H
theorem exS.exP (s : Stt g Mt U0 H0 U σ H b ε) {c : Str} {fs : Fs} (h : exS g Mt U0 H0 E c fs b1) : exP g U E H c fs b1 := fun dd fvs H' h1 h2 h3 h4 h5 =>
  h dd fvs H' h1 (fun z => h2 (s.sub _ z)) (h3.sub fun a _ z => s.sub a z) h4 (s.ext.trans h5)
theorem ownAt_set {i j : Nat} {v : V} {d : D} {a : Addr} (h : OwnAt (σ.set i (some v)) (ε.set i (.fz d)) j a) : i ≠ j ∧ OwnAt σ ε j a := by
  obtain ⟨h1, h2⟩ := h
  by_cases e : i = j
  · subst e
    exfalso
    rcases h2 with ⟨ds, h2⟩ | ⟨c, fs, h2⟩
    · rw [List.getElem?_set_self' ] at h2
      cases q : ε[i]? with
      | none => rw [q] at h2; cases h2
      | some z => rw [q] at h2; cases h2
    · rw [List.getElem?_set_self'] at h2
      cases q : ε[i]? with
      | none => rw [q] at h2; cases h2
      | some z => rw [q] at h2; cases h2
  · rw [List.getElem?_set_ne e] at h1 h2
    exact ⟨e, h1, h2⟩
theorem Rel.set (r : Rel g U H σ ε) {v : V} {d : D} (i : Nat) (h : Den g U H v d) : Rel g U H (σ.set i (some v)) (ε.set i (.fz d)) := by
  refine ⟨by rw [List.length_set, List.length_set]; exact r.len, fun j s e => ?_, fun j k a n h1 h2 => r.apart j k a n (ownAt_set h1).2 (ownAt_set h2).2⟩
  by_cases q : i = j
  · subst q
    have hl : i < ε.length := by
      cases z : ε[i]? with
      | none => rw [List.getElem?_set_self', z] at e; cases e
      | some w => exact (List.getElem?_eq_some_iff.mp z).1
    rw [List.getElem?_set_self hl] at e
    cases e
    exact ⟨some v, List.getElem?_set_self (by rw [r.len]; exact hl), v, rfl, h⟩
  · rw [List.getElem?_set_ne q] at e ⊢
    exact r.at_ j s e
theorem Stt.set (s : Stt g Mt U0 H0 U σ H b ε) {v : V} {d : D} (i : Nat) (h : Den g U H v d) : Stt g Mt U0 H0 U (σ.set i (some v)) H b (ε.set i (.fz d)) :=
  ⟨s.rel.set i h, s.wd, s.uok, s.sub, fun j a o => s.own j a (ownAt_set o).2, s.ext, fun j ds a e1 e2 => (by
    obtain ⟨_, e3, e4⟩ := ownAt_set (a := a) (j := j) ⟨e2, .inl ⟨ds, e1⟩⟩
    rcases e4 with ⟨ds', e4⟩ | ⟨_, _, e4⟩
    · exact s.nu0 j ds' a e4 e3
    · by_cases q : i = j
      · subst q
        cases z : ε[i]? with
        | none => rw [List.getElem?_set_self', z] at e1; cases e1
        | some w => rw [List.getElem?_set_self', z] at e1; cases e1
      · rw [List.getElem?_set_ne q, e4] at e1
        cases e1), fun j c fs a j0 e1 e2 => by
    by_cases q : i = j
    · subst q
      cases z : ε[i]? with
      | none => rw [List.getElem?_set_self', z] at e1; cases e1
      | some w => rw [List.getElem?_set_self', z] at e1; cases e1
    · rw [List.getElem?_set_ne q] at e1 e2
      exact s.oim j c fs a j0 e1 e2⟩
inductive Le : Env → Env → Prop
  | nil : Le [] []
  | s {x : Sl} {a b : Env} : Le a b → Le (x :: a) (x :: b)
  | n {x : Sl} {a b : Env} : Le a b → Le (.no :: a) (x :: b)
theorem Le.refl : ∀ ε : Env, Le ε ε
  | [] => .nil
  | _ :: r => .s (Le.refl r)
theorem Le.len : ∀ {a b : Env}, Le a b → a.length = b.length
  | _, _, .nil => rfl
  | _, _, .s h => congrArg (· + 1) h.len
  | _, _, .n h => congrArg (· + 1) h.len
theorem Le.get : ∀ {a b : Env}, Le a b → ∀ {i : Nat} {s : Sl}, a[i]? = some s → s = .no ∧ (∃ z, b[i]? = some z) ∨ b[i]? = some s
  | _, _, .nil, _, _, e => by simp at e
  | _, _, .s h, 0, _, e => .inr e
  | _, _, .n h, 0, _, e => by simp at e; exact .inl ⟨e.symm, _, rfl⟩
  | _, _, .s h, i + 1, z, e => by simpa using h.get (i := i) (s := z) (by simpa using e)
  | _, _, .n h, i + 1, z, e => by simpa using h.get (i := i) (s := z) (by simpa using e)
variable {env : W → Env} {envL : L → Env} {env' : W' → Env} {u ta tb : TS} {te : TE} {me : Tr D}
section
variable {α : Type} {P : α → Nat → Prop} {X : Str → Fs → Nat → Prop} {ds : List D}
end
def SX (g : Gw) (E : XK) (ε : Env) (d : D) (gt : TG) (tb : TS) (env : W → Env) (envL : L → Env) (m : Tr (Fl W L)) : Prop := ∀ Mt U0 H0 U D σ H b v, Stt g Mt U0 H0 U σ H b ε → Den g U H v d → Al (flP g Mt U0 H0 U H D env envL) (exS g Mt U0 H0 E) m b → gt v σ H fun σ2 H2 => tb D σ2 H2
end
end Gp
end
section
set_option Elab.async false
set_option linter.all false
set_option maxRecDepth 100000
set_option maxHeartbeats 4000000
namespace Gp
open PySem PySem.Spec PyProof.Rows L2 Gh
section
variable {g : Gw} {Mt U0 U U' : Addr → Prop} {H0 H H' H1 H2 : Hp} {b b1 : Nat} {σ : L2.St} {ε ε' : Env} {E : XK} {W L W' : Type}
variable {env : W → Env} {envL : L → Env} {env' : W' → Env} {u ta tb : TS} {te : TE} {me : Tr D}
abbrev EF : XK := fun _ _ _ => False
theorem exP.F {c : Str} {fs : Fs} (h : False) : exP g U EF H c fs b := h.elim
end
end Gp
end
section
set_option Elab.async false
set_option linter.all false
set_option maxRecDepth 100000
set_option maxHeartbeats 4000000
namespace Gp
open PySem PySem.Spec PyProof.Rows L2 Gh
section
variable {g : Gw} {Mt U0 U U' : Addr → Prop} {H0 H H' H1 H2 : Hp} {b b1 : Nat} {σ : L2.St} {ε ε' : Env} {E : XK} {W L W' : Type}
variable {env : W → Env} {envL : L → Env} {env' : W' → Env} {u ta tb : TS} {te : TE} {me : Tr D}
def fin (m : Tr (Fl Unit Empty)) : Tr D := bd m fun f => match f with
  | .nx _ => .ok .non
  | .rt d => .ok d
  | .bk e => nomatch e
  | .ct e => nomatch e
def isO {α : Type} (c : Str) (o : D) (k : Fs → Tr α) : Tr α := match o with
  | .obj c' fs => if c' = c then k fs else .bad
  | _ => .bad
end
end Gp
end
section
set_option Elab.async false
set_option linter.all false
set_option maxRecDepth 100000
set_option maxHeartbeats 4000000
namespace Gp
open PySem PySem.Spec PyProof.Rows L2 Gh
mutual
def toPy : D → Option PyData
  | .non => some .none
  | .bl b => some (.bool b)
  | .int i => some (.int i)
  | .str x => some (.str x)
  | .tup ds => (toPyL ds).map .tuple
  | .lst ds => (toPyL ds).map .list
  | .obj _ _ => none
  | .err _ _ => none
  | .pen => none
  | .cls _ => none
  | .dct => none
  | .dic _ => none
  | .dit _ => none
  | .dik _ => none
def toPyL : List D → Option (List PyData)
  | [] => some []
  | d :: ds => match toPy d, toPyL ds with
    | some e, some es => some (e :: es)
    | _, _ => none
end
section
variable {g : Gw} {U : Addr → Prop} {H H' H1 : Hp} {b : Nat} {E : XK} {Q : VK}
end
end Gp
end
section
set_option Elab.async false
set_option linter.all false
set_option maxRecDepth 100000
set_option maxHeartbeats 4000000
namespace Gp
open PySem PySem.Spec PyProof.Rows L2 Gh
section
variable {g : Gw} {Mt U0 U U' : Addr → Prop} {H0 H H' H1 H2 : Hp} {b b1 : Nat} {σ : L2.St} {ε ε' : Env} {E : XK} {Q : VK} {W L W' : Type}
variable {env : W → Env} {envL : L → Env} {env' : W' → Env} {u ta tb : TS} {te : TE} {me : Tr D}
theorem look_cons {α : Type} {a c : Str} {x k : α} {r : List (Str × α)} (h : ((a, x) :: r).lookup c = some k) : (c = a ∧ k = x) ∨ r.lookup c = some k := by
  simp only [List.lookup] at h
  split at h
  · rename_i z
    cases h
    exact .inl ⟨beq_iff_eq.mp z, rfl⟩
  · exact .inr h
section
variable {K : PySem.W.Frag} {T : List (Addr × Str)} {N : List Str} {cn : Str} {vs : List V} {t : TS} {envI : Fs → Env}
end
def Yes (F : Tr D) : Prop := Al (fun d _ => d = .bl true) (fun _ _ _ => False) F 1000000
def eqO (c : Str) (f : D → Bool) (F : List D → Tr D) (x y : D) : Tr D := isO c x fun _ => if f y = true then F [x, y] else .bad
end
end Gp
namespace Gp
open PySem PySem.Spec PyProof.Rows L2 Gh
section
variable {g : Gw}
end
end Gp
namespace Gp
open PySem PySem.Spec PyProof.Rows L2 Gh
end Gp
end
section
set_option Elab.async false
set_option linter.all false
set_option maxRecDepth 100000
set_option maxHeartbeats 4000000
namespace Gp
open PySem PySem.Spec PyProof.Rows L2 Gh
structure SupX (X : Cx) (D f cda cc : Addr) (ar : Str) : Prop where
  fu : X.env.func = some f
  co : X.env.code = .ref cda
  lkf : ∃ oc od fd osl a, X.K.lookup f = some ⟨oc, od, .func fd, osl⟩ ∧ (fd.params.posonlyargs ++ fd.params.args).head? = some a ∧ a.arg = ar
  lkc : ∃ ccl cdd vs ccs file tf, X.K.lookup cda = some ⟨ccl, cdd, .fields vs, ccs⟩ ∧ vs[2]? = some (.str file tf) ∧ ((X.prog.main.file : Str) == file) = true
  top : (X.prog.main.scope.names.lookup ("super" : Str)).isSome = false
  ks : X.env.kindOf "super" = some .globalImplicit
  kc : X.env.kindOf "__class__" = some .free
  cell : X.env.cells.lookup ("__class__" : Str) = some cc
  lkl : ∃ cl cld csl, X.K.lookup cc = some ⟨cl, cld, .cell (some (.ref D)), csl⟩
  cD : ∃ cd, PySem.W.clsIn X.K D = some cd
  mg : X.mg "super" = none
  st : PySem.W.nsIn X.K cStatics "thirdparty.any" = some none
  n0 : X.N[0]? = some ar
  ka : X.env.kindOf ar = some .local
structure SupC (K : PySem.W.Frag) (C D : Addr) (m : Str) (f2 : Addr) : Prop where
  sub : PySem.W.mroIn K C (.ref D) = some true
  sup : PySem.W.ks_superIn K C D m = some (some (.ref f2))
  ty : PySem.W.typeIn K (.ref f2) = some (.type "function")
  fn : PySem.W.fnIn K f2 = true
theorem sup_run {X : Cx} {D f cda cc f2 : Addr} {ar m : Str} {body : List Stmt} {p0 p1 apos pos epos : Pos} {e : Expr} {es : List Expr} {ta : TA} {CX : CXT} {k : Nat} {dvs : List V} {sp : Sp} {E : XK} {pl : Sem Bool} {pins : List (Addr × Obj)} {s : Shared} {σ : L2.St} {H : Hp} {Dn : L2.St → Hp → Prop}
    (S : SupX X D f cda cc ar) (hm : (m == ("__class__" : Str)) = false) (ha : PA X (e :: es) ta) (G : PromOX X CX k f2 dvs sp) (hr : Room k X.A) (hx : Passes CX X E) (I : Inv X pins σ H s)
    (h : ∃ a C dx fs, σ[0]? = some (some (.ref a)) ∧ H a = some (.ins C dx fs) ∧ SupC X.K C D m f2 ∧ ta σ H fun vs H1 => sp (.ref a :: (vs ++ dvs)) H1 (fun _ H2 => Dn σ H2) E)
    (hst : starEach (e :: es) X.env = (false, eval e X.env) :: starEach es X.env := by rfl) (hpl : (backTo pos (starEach es X.env)).any (·.1) = false := by rfl)
    (he : eval (.Call (.Attribute (.Call (.Name "super" p0) [] [] p1) m apos) (e :: es) [] pos) X.env = (do
      let ov ← attributeBase (.Call (.Name "super" p0) [] [] p1) m X.env (eval (.Call (.Name "super" p0) [] [] p1) X.env)
      standAt apos.atName
      let (f, first) ← holding [ov] (getMethod ov m pl)
      callWith pos f first (backTo pos (starEach (e :: es) X.env)) []) := by rfl)
    (hsw : swapsWith (.Call (.Attribute (.Call (.Name "super" p0) [] [] p1) m apos) (e :: es) [] pos) none epos.line X.env = pure false := by rfl) :
    _root_.PySem.wpAt (model X.prog X.w) X.A (.func body X.env) (exec (.Expr (.Call (.Attribute (.Call (.Name "super" p0) [] [] p1) m apos) (e :: es) [] pos) epos) X.env) (fun fl s' => fl = .next ∧ ∃ H', Inv X pins σ H' s' ∧ Dn σ H') X.xe s := by
  obtain ⟨a, C, dx, fs, h0, hi, sc, q⟩ := h
  have KX := I.kIn
  obtain ⟨oc, od, fd, osl, ag, lkf, hp, rfl⟩ := S.lkf
  obtain ⟨ccl, cdd, vs, ccs, file, tf, lkc, hvs, hfile⟩ := S.lkc
  obtain ⟨cl, cld, csl, lkl⟩ := S.lkl
  obtain ⟨cdD, hD⟩ := S.cD
  obtain ⟨ox, od', J⟩ := ins_look I hi
  obtain ⟨oD, hD1, hD2⟩ : ∃ oD, s.heap.get? D = some oD ∧ oD.data = .cls cdD := by
    unfold PySem.W.clsIn at hD
    split at hD
    · rename_i ho
      cases hD
      exact ⟨_, KX _ _ ho, rfl⟩
    · cases hD
  have nc : ∀ c, ox.data ≠ .cls c := fun c e => by
    have := J.no
    unfold PySem.W.notCls at this
    rw [e] at this
    exact Bool.noConfusion this
  refine ks_wpAt_Expr_any (ks_wpAt_MethodCall (pl := pl) (ks_wpAt_super_base S.ks S.kc hm S.fu (KX _ _ lkf) rfl hp S.co (KX _ _ lkc) rfl hvs hfile S.top ?_) he) I.quiet hsw
  obtain ⟨mb, b1, b2⟩ := I.mod.blt
  refine PySem.W.ks_loadName_global I.ok.kind S.ks (Calls.loadGlobal_builtin (by rw [I.ok.glob]; exact I.mod.glob.keeps I.bk) S.mg (by rw [I.ok.blt]; exact b1.keeps I.bk) ((b2 "super" (by decide)).trans (show bootBuiltins "super" = some (.type "super") by decide +kernel)) ⟨rfl, ?_⟩)
  refine wpAny_loadName_free I.ok.kind S.kc S.cell ⟨_, KX _ _ lkl, rfl⟩ ?_
  obtain ⟨mm, hn, hl⟩ := I.loc
  obtain ⟨u, ru, hu⟩ := hl 0 ag.arg (.ref a) S.n0 h0 (.inl S.ka)
  have eu : u = Value.ref a := ru
  subst eu
  have hv : mm ag.arg = some (.ref a) := by
    rcases hu with z | ⟨z, _⟩
    · exact z.2
    · rcases z with z | z <;> rw [S.ka] at z <;> cases z
  refine wpAny_loadName_local I.ok.kind S.ka hn hv ?_
  obtain ⟨hh, g, d, t, os⟩ := s
  refine ks_wpAny_isType_cls hD1 hD2 ⟨rfl, ?_⟩
  refine ks_wpAny_call_super hD1 hD2 J.at_ J.cls nc (PySem.W.looks_mroIn KX sc.sub) (fun h1 e1 k1 => ?_)
  cases hcC : PySem.W.clsIn X.K C with
  | none =>
    have z := sc.sup
    unfold PySem.W.ks_superIn at z
    rw [hcC] at z
    cases z
  | some cdC =>
    have K1 : X.K.In h1 := KX.keeps k1
    obtain ⟨of, hof, hofc⟩ : ∃ of, h1.get? f2 = some of ∧ of.cls = .type "function" := by
      have ht' : (X.K.lookup f2).map (·.cls) = some (.type "function") := sc.ty
      cases z : X.K.lookup f2 with
      | none => rw [z] at ht'; cases ht'
      | some of => rw [z] at ht'; exact ⟨of, K1 _ _ z, Option.some.inj ht'⟩
    have hsup := sc.sup
    unfold PySem.W.ks_superIn at hsup
    rw [hcC] at hsup
    refine ks_wpAny_getMethod_super e1 (PySem.W.looks_opaque K1 S.st) (l₀ := cdC.mro) ?_ rfl K1 hsup hof hofc (PySem.W.ks_ne KX J hcC) hm ?_
    · exact fun A Q E s k q => wpAny_bind ((PySem.W.looks_clsIn K1 hcC) A _ E s k (wpAny_pure q))
    · have k2 : ∀ b o, hh.get? b = some o → (h1.push { cls := .type "method", data := .fields #[.ref f2, .ref a] }).get? b = some o := fun b o eb => Heap.get?_push_of_some _ (k1 b o eb)
      have I2 : Inv X pins σ H ⟨h1.push { cls := .type "method", data := .fields #[.ref f2, .ref a] }, g, d, t + 1, os⟩ := I.kept (t' := t + 1) k2
      have hsz : hh.objs.size ≤ h1.objs.size := by
        have := Heap.lt_size e1
        exact Nat.le_of_lt this
      have fp := I.fpOk (H' := H) (b := h1.objs.size) hsz (I.hok.fresh hsz)
      have hq1 : (h1.push { cls := .type "method", data := .fields #[.ref f2, .ref a] }).get? h1.objs.size = some (PySem.W.methodObj (.ref f2) (.ref a)) := Heap.get?_push_size _ rfl
      have I3 : Inv X ((h1.objs.size, PySem.W.methodObj (.ref f2) (.ref a)) :: pins) σ H ⟨h1.push { cls := .type "method", data := .fields #[.ref f2, .ref a] }, g, d, t + 1, os⟩ := I2.pins_of fun p hp => by
        rcases List.mem_cons.mp hp with rfl | hp
        · exact ⟨hq1, fp.1, fp.2.1, fp.2.2.1, fun v z => by cases z⟩
        · exact I2.pin p (List.mem_append_right _ hp)
      show wpAny _ _ (callWith pos (.ref h1.objs.size) [] (backTo pos (starEach (e :: es) X.env)) []) _ _ _
      rw [hst]
      refine PySem.W.callWith_of (P := PySem.W.MethP X.K h1.objs.size f2 (.ref a)) (by show ((false || (backTo pos (starEach es X.env)).any (·.1)) || false) = false; rw [hpl]; rfl) (PySem.W.keeps_M sc.fn) (PySem.Calls.evalArgs_plain ?_)
      show wpAny _ _ (spliced (backTo pos ((false, eval e X.env) :: starEach es X.env))) _ _ _
      rw [← hst]
      refine thn (ha.run pos _ _ σ H _ I3 q) fun us s3 ⟨ws, H1, I4, rv, q2⟩ => ?_
      have pq := (I4.pin (h1.objs.size, PySem.W.methodObj (.ref f2) (.ref a)) (List.mem_append_right _ List.mem_cons_self)).1
      refine ⟨⟨pq, I4.kIn⟩, ?_⟩
      have I5 : Inv X pins σ H1 s3 := I4.pins_of fun p hp => I4.pin p (List.mem_append_right _ (List.mem_cons_of_mem _ hp))
      obtain ⟨fd2, ps2, ds2, G2, b2', hd2⟩ := G
      have r2 : Vals (.ref a :: (ws ++ dvs)) (.ref a :: (us ++ ds2)) := .cons rfl (rv.append hd2)
      have hl2 : ((Value.ref a :: us) ++ ds2).length = ps2.length := by
        rw [← G2.len _ _ _ _ q2]
        exact r2.length.symm
      refine wpAny_call (ks_codeAny_call_bound pq (codeAny_mono (G2.run X.A X.stack s3 H1 ⟨.ref a :: us, []⟩ (.ref a :: (us ++ ds2)) (.ref a :: (ws ++ dvs)) _ E hr I5.env0 (b2' s3 (.ref a :: us) I5.kIn hl2) r2 q2) fun r s' hq => ?_))
      cases r with
      | error er => exact hx pins σ H1 s3 er s' I5 hq
      | ok fl =>
        cases fl with
        | ret u =>
          obtain ⟨v, H', I6, _, q3⟩ := I5.after hq
          exact ⟨rfl, H', I6, q3⟩
        | next => exact False.elim hq
        | brk => exact False.elim hq
        | cont => exact False.elim hq
end Gp
end
section
set_option Elab.async false
set_option linter.all false
set_option maxRecDepth 100000
set_option maxHeartbeats 4000000
namespace Gp
open PySem PySem.Spec PyProof.Rows L2 Gh
theorem execs_app (env : PySem.Env) (rest : List Stmt) : ∀ pre : List Stmt, execs (pre ++ rest) env = (execs pre env >>= fun f => match f with
  | .next => execs rest env
  | f => pure f)
  | [] => by
    show execs rest env = (pure Flow.next >>= _)
    rw [pure_bind]
  | st :: pre => by
    show execs (st :: (pre ++ rest)) env = _
    rw [execs_cons, execs_cons, bind_assoc]
    congr 1
    funext f
    cases f with
    | next => exact execs_app env rest pre
    | _ => rw [pure_bind]
theorem wpAt_app {M : Model} {A : Around} {c : Code} {env : PySem.Env} {pre rest : List Stmt} {Q : Flow → Shared → Prop} {E : Value → Shared → Prop} {s : Shared}
    (h : wpAny M A (execs pre env) (fun f s' => match f with
      | .next => _root_.PySem.wpAt M A c (execs rest env) Q E s'
      | f => Q f s') E s) : _root_.PySem.wpAt M A c (execs (pre ++ rest) env) Q E s := by
  rw [execs_app]
  refine _root_.PySem.wpAt_bind (_root_.PySem.wpAt_of_wpAny (wpAny_mono h (fun f s' hf => ?_) fun _ _ z => z))
  cases f with
  | next => exact hf
  | _ => exact _root_.PySem.wpAt_of_wpAny (wpAny_pure hf)
structure SupF (K : PySem.W.Frag) (x qual : Str) (params : Arguments) (body : List Stmt) (scope : Scope) (dvs : List V) (f D : Addr) (file : Str) (fd : FuncData) : Prop where
  ex : ∃ (oc : Value) (od : Option Addr) (dV kV doc pm : Value) (an : Option Addr) (cda : Addr) (ct : Value) (osl : Array (Option Value)) (cc : Addr),
    fd = PySem.W.fnX x qual params body scope [("__class__", cc)] dV kV doc pm an (.ref cda) ct ∧ K.lookup f = some ⟨oc, od, .func fd, osl⟩ ∧ PySem.W.codeIn K (.ref cda) qual = true ∧ DflV K dV dvs ∧
    (∃ cl cld csl, K.lookup cc = some ⟨cl, cld, .cell (some (.ref D)), csl⟩) ∧ ∃ ccl cdd vs ccs tf, K.lookup cda = some ⟨ccl, cdd, .fields vs, ccs⟩ ∧ vs[2]? = some (.str file tf)
  kp : PySem.W.keepIn K (.ref f) = true
structure SupT (K : PySem.W.Frag) (mg : Str → Option Value) (D : Addr) : Prop where
  cD : ∃ cd, PySem.W.clsIn K D = some cd
  mg : mg "super" = none
  st : PySem.W.nsIn K cStatics "thirdparty.any" = some none
section
variable {P : Program} {w : World} {K : PySem.W.Frag} {mg : Str → Option Value} {base : Heap} {CX : CXT} {k : Nat} {x qual file m ar : Str} {params : Arguments} {body : List Stmt} {scope : Scope} {dvs : List V} {f D : Addr} {fd : FuncData} {N ps : List Str} {sp : Sp}
abbrev scx (CX : CXT) (P : Program) (w : World) (K : PySem.W.Frag) (mg : Str → Option Value) (base : Heap) (N : List Str) (x qual : Str) (params : Arguments) (body : List Stmt) (scope : Scope) (cc cda f : Addr) (A : Around) (outer : List PySem.Env) (s : Shared) (H : Hp) (E : XK) : Cx :=
  NdefX.ncx CX P w K mg base N ⟨x, qual, params, body, scope, [("__class__", cc)], cda⟩ f A outer s H E
theorem SupF.ok {pre post : List Stmt} {p0 p1 apos pos epos : Pos} {e : Expr} {es : List Expr} (eb : body = pre ++ .Expr (.Call (.Attribute (.Call (.Name "super" p0) [] [] p1) m apos) (e :: es) [] pos) epos :: post) (F : SupF K x qual params body scope dvs f D file fd) (T : SupT K mg D) (S : NdefX.NScope N ps ["__class__"] scope)
    (len : ∀ vs H Q E, sp vs H Q E → vs.length = ps.length) (hfile : ((P.main.file : Str) == file) = true) (htop : (P.main.scope.names.lookup ("super" : Str)).isSome = false) (hm : (m == ("__class__" : Str)) = false) (hks : scope.names.lookup ("super" : Str) = some .globalImplicit)
    (har : ((params.posonlyargs ++ params.args).head?).map (·.arg) = some ar) (hn0 : N[0]? = some ar) (hka : scope.names.lookup ar = some .local)
    (hbody : ∀ (cc cda : Addr) (A : Around) (outer : List PySem.Env) (s : Shared) (H : Hp) (vs : List V) (Q : VK) (E : XK), Room k (scx CX P w K mg base N x qual params body scope cc cda f A outer s H E).A → sp vs H Q E →
      ∃ t1 ta t2 CX2 k2 f2 dvs2 sp2 E2, PSs (scx CX P w K mg base N x qual params body scope cc cda f A outer s H E) pre t1 ∧
        PA (scx CX P w K mg base N x qual params body scope cc cda f A outer s H E) (e :: es) ta ∧
        PSs (scx CX P w K mg base N x qual params body scope cc cda f A outer s H E) post t2 ∧
        PromO P w K mg base CX2 k2 f2 dvs2 sp2 ∧ k2 ≤ k ∧ Passes CX2 (scx CX P w K mg base N x qual params body scope cc cda f A outer s H E) E2 ∧
        t1 { nx := fun σ1 H1 => ∃ a C dx fs, σ1[0]? = some (some (.ref a)) ∧ H1 a = some (.ins C dx fs) ∧ SupC K C D m f2 ∧ ta σ1 H1 fun us H2 => sp2 (.ref a :: (us ++ dvs2)) H2 (fun _ H3 => t2 { nx := fun _ H' => Q .non H', rt := Q } σ1 H3) E2, rt := Q } (L2.start N vs) H)
    (hst : ∀ env : PySem.Env, starEach (e :: es) env = (false, eval e env) :: starEach es env := by intro _; rfl) (hpl : ∀ env : PySem.Env, (backTo pos (starEach es env)).any (·.1) = false := by intro _; rfl)
    (pl : PySem.Env → Sem Bool)
    (he : ∀ env : PySem.Env, eval (.Call (.Attribute (.Call (.Name "super" p0) [] [] p1) m apos) (e :: es) [] pos) env = (do
      let ov ← attributeBase (.Call (.Name "super" p0) [] [] p1) m env (eval (.Call (.Name "super" p0) [] [] p1) env)
      standAt apos.atName
      let (f, first) ← holding [ov] (getMethod ov m (pl env))
      callWith pos f first (backTo pos (starEach (e :: es) env)) []))
    (hsw : ∀ env : PySem.Env, swapsWith (.Call (.Attribute (.Call (.Name "super" p0) [] [] p1) m apos) (e :: es) [] pos) none epos.line env = pure false := by intro _; rfl) :
    FnOk P w K mg base CX (k + 1) f fd ps sp := by
  obtain ⟨oc, od, dV, kV, doc, pm, an, cda, ct, osl, cc, rfl, lk, hcd, _, ⟨cl, cld, csl, lkl⟩, ccl, cdd, vsc, ccs, tf, lkc, hvs⟩ := F.ex
  refine ⟨len, fun A outer s H args us vs Q E hr e0 hb r hsp => ?_⟩
  have KX : K.In s.heap := e0.mod.kin.keeps fun b o e => (e0.bs b o e).1
  have lim : s.heap.NoLimit := e0.mod.nolimit.keeps fun b o e => (e0.bs b o e).1
  have hl := len _ _ _ _ hsp
  have hpl2 : ps.length + 1 ≤ N.length := by
    have q := congrArg List.length S.pre
    rw [List.length_take, List.length_append] at q
    have : (["__class__"] : List Str).length = 1 := rfl
    omega
  refine ks_codeAny_call_defAt hr.depth (KX _ _ lk) rfl lim (PySem.W.codeRec_of KX hcd) rfl hb S.nocell (fun ⟨n, _⟩ hy => S.par n (List.of_mem_zip hy).1) (fun h₁ hns kp => ?_) S.co S.gen S.kind
  obtain ⟨t1, ta, t2, CX2, k2, f2, dvs2, sp2, E2, h1, h2, h3, G, hk2, hx2, hq⟩ := hbody cc cda A outer s H vs Q E (hr.deeper _) hsp
  have C : NdefX.CellsAt [(("__class__" : Str), cc)] ["__class__"] [none] s.heap H := by
    have hc : s.heap.get? cc = some ⟨cl, cld, .cell (some (.ref D)), csl⟩ := KX _ _ lkl
    have hH : H cc = none := by
      have hb : base.get? cc = some ⟨cl, cld, .cell (some (.ref D)), csl⟩ := e0.mod.kin _ _ lkl
      exact (e0.bs _ _ hb).2
    have one : ∀ (y : Str) (c : Addr), ([(("__class__" : Str), cc)] : List (Str × Addr)).lookup y = some c → y = "__class__" ∧ c = cc := fun y c hy => by
      rcases look_cons hy with ⟨e1, e2⟩ | z
      · exact ⟨e1, e2⟩
      · cases z
    refine ⟨rfl, fun y c hy => ?_, fun x y c hx hy => (one x c hx).1.trans (one y c hy).1.symm, fun i y hy => ?_⟩
    · obtain ⟨_, rfl⟩ := one y c hy
      exact ⟨hH, _, _, hc, rfl⟩
    · have e2 : y = "__class__" := by
        cases i with
        | zero => cases hy; rfl
        | succ i => cases hy
      subst e2
      refine ⟨cc, rfl, fun v hv => ?_⟩
      cases i with
      | zero => cases hv
      | succ i => cases hv
  have I := NdefX.inv_startN (CX := CX) (P := P) (w := w) (K := K) (mg := mg) (base := base) (N := N) (F := ⟨x, qual, params, body, scope, [("__class__", cc)], cda⟩) (f := f) (E := E) (tk := s.toks + (ps.zip us).length) S hr.hd e0 hl r C hns kp
  have est : NdefX.startF N vs [none] = L2.start N vs := by
    unfold NdefX.startF L2.start
    congr 1
    rw [List.length_singleton, ← List.singleton_append]
    have : N.length - vs.length = (N.length - vs.length - 1) + 1 := by omega
    rw [this, List.replicate_succ]
    rfl
  rw [est] at I
  have SX : SupX (scx CX P w K mg base N x qual params body scope cc cda f A outer s H E) D f cda cc ar := by
    refine ⟨rfl, rfl, ?_, ⟨ccl, cdd, vsc, ccs, file, tf, lkc, hvs, hfile⟩, htop, hks, S.frk _ (List.mem_singleton.mpr rfl), rfl, ⟨cl, cld, csl, lkl⟩, T.cD, T.mg, T.st, hn0, hka⟩
    cases z : (params.posonlyargs ++ params.args).head? with
    | none => rw [z] at har; cases har
    | some a =>
      rw [z] at har
      exact ⟨_, _, _, _, a, lk, z, Option.some.inj har⟩
  have fin : ∀ {s' : Shared} {σ' : L2.St} {H' : Hp} {v : V} {u : Value}, Inv (scx CX P w K mg base N x qual params body scope cc cda f A outer s H E) [] σ' H' s' → L2.RelV v u → Q v H' → CE outer P w H s Q u s' :=
    fun {s' σ' H' v u} J rv q => ⟨v, H', J.os, J.bare, J.base, J.hok, rv, q⟩
  have eb2 : execs body (scx CX P w K mg base N x qual params body scope cc cda f A outer s H E).env = execs (pre ++ .Expr (.Call (.Attribute (.Call (.Name "super" p0) [] [] p1) m apos) (e :: es) [] pos) epos :: post) (scx CX P w K mg base N x qual params body scope cc cda f A outer s H E).env := by rw [← eb]
  show _root_.PySem.wpAt _ _ _ (execs body _) _ _ _
  refine eb2 ▸ wpAt_app (wpAny_mono (h1.run [] _ (L2.start N vs) H _ I hq) (fun fl s' hs => ?_) fun _ _ z => z)
  cases fl with
  | ret u =>
    obtain ⟨v, σ', H', J, rv, q⟩ := hs
    exact fin J rv q
  | brk =>
    obtain ⟨_, _, _, q⟩ := hs
    exact False.elim q
  | cont =>
    obtain ⟨_, _, _, q⟩ := hs
    exact False.elim q
  | next =>
    obtain ⟨σ', H', J, q⟩ := hs
    refine ks_wpAt_execs_cons (_root_.PySem.wpAt_mono (sup_run (pl := pl _) SX hm h2 G ((hr.deeper _).mono hk2) hx2 J q (hst _) (hpl _) (he _) (hsw _)) (fun fl2 s2 hq2 => ?_) fun _ _ z => z)
    obtain ⟨rfl, H2, J2, q2⟩ := hq2
    refine _root_.PySem.wpAt_of_wpAny (wpAny_mono (h3.run [] s2 σ' H2 _ J2 q2) (fun fl s' hs => ?_) fun _ _ z => z)
    cases fl with
    | ret u =>
      obtain ⟨v, σ', H', J, rv, q⟩ := hs
      exact fin J rv q
    | next =>
      obtain ⟨σ', H', J, q⟩ := hs
      exact fin (v := V.non) (u := Value.none) J rfl q
    | brk =>
      obtain ⟨_, _, _, q⟩ := hs
      exact False.elim q
    | cont =>
      obtain ⟨_, _, _, q⟩ := hs
      exact False.elim q
end
end Gp
end
section
set_option Elab.async false
set_option linter.all false
set_option maxRecDepth 100000
set_option maxHeartbeats 4000000
namespace Gp
open PySem PySem.Spec PyProof.Rows L2 Gh
structure Ds where
  d : Df
  own : PySem.W.Frag → Addr
def fnAtS (K : PySem.W.Frag) (a : Addr) : He.FnW := match K.lookup a with
  | some ⟨_, _, .func fd, _⟩ => some (fd.name, fd.qualname, fd.params, fd.body, fd.scope, fd.globals, fd.closure.map (fun q => (q.1, 0)), fd.builtins)
  | _ => none
def Ds.val (d : Ds) : He.FnW := some (d.d.name, d.d.qual, defArgs d.d.st, .stmts (defBody d.d.st), defScope d.d.st, mainGlobals, [("__class__", 0)], builtinsNs)
def fileB (K : PySem.W.Frag) (file : Str) : Value → Bool
  | .ref c => (match K.lookup c with
    | some ⟨_, _, Data.fields vs, _⟩ => (match (vs[2]? : Option Value) with
      | some (Value.str f _) => decide (f = file)
      | _ => false)
    | _ => false)
  | _ => false
def cellB (K : PySem.W.Frag) (B : Addr) : List (Str × Addr) → Bool
  | [(_, c)] => (match K.lookup c with
    | some ⟨_, _, .cell (some (.ref b)), _⟩ => decide (b = B)
    | _ => false)
  | _ => false
def Ds.ok (file : Str) (K : PySem.W.Frag) (d : Ds) : Bool := PySem.W.keepIn K (.ref (d.d.adr K)) && (match K.lookup (d.d.adr K) with
  | some ⟨_, _, .func fd, _⟩ => PySem.W.codeIn K fd.code d.d.qual && (He.dflB K fd.defaults (d.d.dvs K) && (fileB K file fd.code && cellB K (d.own K) fd.closure))
  | _ => false)
structure SaysS (ex : List (PySem.W.Frag → Bool)) (fn : List Df) (tf : List He.Defn) (fs : List Ds) (file : Str) (h : Heap) (K : PySem.W.Frag) : Prop where
  s : SaysT ex fn tf h K
  o : (fs.all fun d => d.ok file K) = true
  v : (fs.map fun d => fnAtS K (d.d.adr K)) = fs.map Ds.val
abbrev AlS : Type := AlT × Bool × List He.FnW
end Gp
end
section
set_option Elab.async false
set_option linter.all false
set_option maxRecDepth 100000
set_option maxHeartbeats 4000000
namespace Gp
open PySem PySem.Spec PyProof.Rows L2 Gh
section
variable {P : Program} {w : World} {K : PySem.W.Frag} {mg : Str → Option Value} {base : Heap} {CX : CXT} {k : Nat} {x qual file m ar : Str} {params : Arguments} {body : List Stmt} {scope : Scope} {dvs : List V} {f D : Addr} {fd : FuncData} {N ps : List Str} {sp : Sp}
theorem SupF.run {A : Around} {outer : List PySem.Env} {s : Shared} {H : Hp} {args : Args} {Q : VK} {E : XK} {G : List V → Hp → Prop} {pre post : List Stmt} {p0 p1 apos pos epos : Pos} {e : Expr} {es : List Expr} (eb : body = pre ++ .Expr (.Call (.Attribute (.Call (.Name "super" p0) [] [] p1) m apos) (e :: es) [] pos) epos :: post) (F : SupF K x qual params body scope dvs f D file fd) (T : SupT K mg D) (S : NdefX.NScope N ps ["__class__"] scope)
    (hr : Room (k + 1) A) (e0 : Env0 P w K mg base A outer s H) (hb : StX.Bnd CX P w K mg base fd args ps A outer s H E G) (hfile : ((P.main.file : Str) == file) = true) (htop : (P.main.scope.names.lookup ("super" : Str)).isSome = false) (hm : (m == ("__class__" : Str)) = false) (hks : scope.names.lookup ("super" : Str) = some .globalImplicit)
    (har : ((params.posonlyargs ++ params.args).head?).map (·.arg) = some ar) (hn0 : N[0]? = some ar) (hka : scope.names.lookup ar = some .local)
    (hbody : ∀ (cc cda : Addr) (s : Shared) (H : Hp) (vs : List V), Room k (scx CX P w K mg base N x qual params body scope cc cda f A outer s H E).A → G vs H →
      ∃ t1 ta t2 CX2 k2 f2 dvs2 sp2 E2, PSs (scx CX P w K mg base N x qual params body scope cc cda f A outer s H E) pre t1 ∧
        PA (scx CX P w K mg base N x qual params body scope cc cda f A outer s H E) (e :: es) ta ∧
        PSs (scx CX P w K mg base N x qual params body scope cc cda f A outer s H E) post t2 ∧
        PromO P w K mg base CX2 k2 f2 dvs2 sp2 ∧ k2 ≤ k ∧ Passes CX2 (scx CX P w K mg base N x qual params body scope cc cda f A outer s H E) E2 ∧
        t1 { nx := fun σ1 H1 => ∃ a C dx fs, σ1[0]? = some (some (.ref a)) ∧ H1 a = some (.ins C dx fs) ∧ SupC K C D m f2 ∧ ta σ1 H1 fun us H2 => sp2 (.ref a :: (us ++ dvs2)) H2 (fun _ H3 => t2 { nx := fun _ H' => Q .non H', rt := Q } σ1 H3) E2, rt := Q } (L2.start N vs) H)
    (hst : ∀ env : PySem.Env, starEach (e :: es) env = (false, eval e env) :: starEach es env := by intro _; rfl) (hpl : ∀ env : PySem.Env, (backTo pos (starEach es env)).any (·.1) = false := by intro _; rfl)
    (pl : PySem.Env → Sem Bool)
    (he : ∀ env : PySem.Env, eval (.Call (.Attribute (.Call (.Name "super" p0) [] [] p1) m apos) (e :: es) [] pos) env = (do
      let ov ← attributeBase (.Call (.Name "super" p0) [] [] p1) m env (eval (.Call (.Name "super" p0) [] [] p1) env)
      standAt apos.atName
      let (f, first) ← holding [ov] (getMethod ov m (pl env))
      callWith pos f first (backTo pos (starEach (e :: es) env)) []))
    (hsw : ∀ env : PySem.Env, swapsWith (.Call (.Attribute (.Call (.Name "super" p0) [] [] p1) m apos) (e :: es) [] pos) none epos.line env = pure false := by intro _; rfl) :
    codeAny (model P w) A (.call (.ref f) args) (CR CX outer P w H s Q E) s := by
  obtain ⟨oc, od, dV, kV, doc, pm, an, cda, ct, osl, cc, rfl, lk, hcd, _, ⟨cl, cld, csl, lkl⟩, ccl, cdd, vsc, ccs, tf, lkc, hvs⟩ := F.ex
  have KX0 : K.In s.heap := e0.mod.kin.keeps fun b o e => (e0.bs b o e).1
  refine codeAny_call_function hr.depth (KX0 _ _ lk) rfl S.co S.gen rfl (PySem.W.codeRec_of KX0 hcd) ?_
  refine hb _ _ _ fun s2 H2 vs us e2 un ho hxx r hl gg => ?_
  have KX : K.In s2.heap := e0.mod.kin.keeps fun b o e => (e2.bs b o e).1
  have lim : s2.heap.NoLimit := e0.mod.nolimit.keeps fun b o e => (e2.bs b o e).1
  have hpl2 : ps.length + 1 ≤ N.length := by
    have q := congrArg List.length S.pre
    rw [List.length_take, List.length_append] at q
    have : (["__class__"] : List Str).length = 1 := rfl
    omega
  refine wpAny_newFunctionEnv S.nocell (fun ⟨n, _⟩ hy => S.par n (List.of_mem_zip hy).1) (fun h₁ hns hsb => ⟨lim.fresh _ hsb, ks_codeAny_funcAt ?_⟩) S.kind
  have kp : ∀ b o, s2.heap.get? b = some o → h₁.get? b = some o := fun b o e => hsb.extBut b o (Nat.ne_of_lt (Heap.lt_size e)) (Heap.get?_push_of_some _ e)
  refine _root_.PySem.wpAt_mono (Q := fun fl s' => CR CX outer P w H s Q E (.ok (.ret (match fl with | .ret v => v | _ => .none))) s') (E := (scx CX P w K mg base N x qual params body scope cc cda f A outer s2 H2 E).xe) ?_ (fun _ _ z => z) (fun e s' hs => wpAny_mono hs (fun _ s'' z => hxx e s'' z) fun e' s'' z => hxx e' s'' z)
  obtain ⟨t1, ta, t2, CX2, k2, f2, dvs2, sp2, E2, h1, h2, h3, G, hk2, hx2, hq⟩ := hbody cc cda s2 H2 vs (hr.deeper _) gg
  have C : NdefX.CellsAt [(("__class__" : Str), cc)] ["__class__"] [none] s2.heap H2 := by
    have hc : s2.heap.get? cc = some ⟨cl, cld, .cell (some (.ref D)), csl⟩ := KX _ _ lkl
    have hH : H2 cc = none := by
      have hb : base.get? cc = some ⟨cl, cld, .cell (some (.ref D)), csl⟩ := e0.mod.kin _ _ lkl
      exact (e2.bs _ _ hb).2
    have one : ∀ (y : Str) (c : Addr), ([(("__class__" : Str), cc)] : List (Str × Addr)).lookup y = some c → y = "__class__" ∧ c = cc := fun y c hy => by
      rcases look_cons hy with ⟨e1, e2⟩ | z
      · exact ⟨e1, e2⟩
      · cases z
    refine ⟨rfl, fun y c hy => ?_, fun x y c hx hy => (one x c hx).1.trans (one y c hy).1.symm, fun i y hy => ?_⟩
    · obtain ⟨_, rfl⟩ := one y c hy
      exact ⟨hH, _, _, hc, rfl⟩
    · have e2 : y = "__class__" := by
        cases i with
        | zero => cases hy; rfl
        | succ i => cases hy
      subst e2
      refine ⟨cc, rfl, fun v hv => ?_⟩
      cases i with
      | zero => cases hv
      | succ i => cases hv
  have I := NdefX.inv_startN (CX := CX) (P := P) (w := w) (K := K) (mg := mg) (base := base) (N := N) (F := ⟨x, qual, params, body, scope, [("__class__", cc)], cda⟩) (f := f) (E := E) (tk := s2.toks + (ps.zip us).length) S hr.hd e2 hl r C hns kp
  have est : NdefX.startF N vs [none] = L2.start N vs := by
    unfold NdefX.startF L2.start
    congr 1
    rw [List.length_singleton, ← List.singleton_append]
    have : N.length - vs.length = (N.length - vs.length - 1) + 1 := by omega
    rw [this, List.replicate_succ]
    rfl
  rw [est] at I
  have SX : SupX (scx CX P w K mg base N x qual params body scope cc cda f A outer s2 H2 E) D f cda cc ar := by
    refine ⟨rfl, rfl, ?_, ⟨ccl, cdd, vsc, ccs, file, tf, lkc, hvs, hfile⟩, htop, hks, S.frk _ (List.mem_singleton.mpr rfl), rfl, ⟨cl, cld, csl, lkl⟩, T.cD, T.mg, T.st, hn0, hka⟩
    cases z : (params.posonlyargs ++ params.args).head? with
    | none => rw [z] at har; cases har
    | some a =>
      rw [z] at har
      exact ⟨_, _, _, _, a, lk, z, Option.some.inj har⟩
  have fin : ∀ {s' : Shared} {σ' : L2.St} {H' : Hp} {v : V} {u : Value}, Inv (scx CX P w K mg base N x qual params body scope cc cda f A outer s2 H2 E) [] σ' H' s' → L2.RelV v u → Q v H' → CE outer P w H s Q u s' :=
    fun {s' σ' H' v u} J rv q => ⟨v, H', J.os.trans ho, J.bare, un.trans J.base, J.hok, rv, q⟩
  have eb2 : execs body (scx CX P w K mg base N x qual params body scope cc cda f A outer s2 H2 E).env = execs (pre ++ .Expr (.Call (.Attribute (.Call (.Name "super" p0) [] [] p1) m apos) (e :: es) [] pos) epos :: post) (scx CX P w K mg base N x qual params body scope cc cda f A outer s2 H2 E).env := by rw [← eb]
  show _root_.PySem.wpAt _ _ _ (execs body _) _ _ _
  refine eb2 ▸ wpAt_app (wpAny_mono (h1.run [] _ (L2.start N vs) H2 _ I hq) (fun fl s' hs => ?_) fun _ _ z => z)
  cases fl with
  | ret u =>
    obtain ⟨v, σ', H', J, rv, q⟩ := hs
    exact fin J rv q
  | brk =>
    obtain ⟨_, _, _, q⟩ := hs
    exact False.elim q
  | cont =>
    obtain ⟨_, _, _, q⟩ := hs
    exact False.elim q
  | next =>
    obtain ⟨σ', H', J, q⟩ := hs
    refine ks_wpAt_execs_cons (_root_.PySem.wpAt_mono (sup_run (pl := pl _) SX hm h2 G ((hr.deeper _).mono hk2) hx2 J q (hst _) (hpl _) (he _) (hsw _)) (fun fl2 s3 hq2 => ?_) fun _ _ z => z)
    obtain ⟨rfl, H3, J2, q2⟩ := hq2
    refine _root_.PySem.wpAt_of_wpAny (wpAny_mono (h3.run [] s3 σ' H3 _ J2 q2) (fun fl s' hs => ?_) fun _ _ z => z)
    cases fl with
    | ret u =>
      obtain ⟨v, σ', H', J, rv, q⟩ := hs
      exact fin J rv q
    | next =>
      obtain ⟨σ', H', J, q⟩ := hs
      exact fin (v := V.non) (u := Value.none) J rfl q
    | brk =>
      obtain ⟨_, _, _, q⟩ := hs
      exact False.elim q
    | cont =>
      obtain ⟨_, _, _, q⟩ := hs
      exact False.elim q
end
section
variable {g : Gw} {Mt U0 U U' : Addr → Prop} {H0 H H' H1 H2 : Hp} {b b1 b2 : Nat} {σ : L2.St} {ε ε' : Env} {E : XK}
end
end Gp
end
section
set_option Elab.async false
set_option linter.all false
set_option maxRecDepth 100000
set_option maxHeartbeats 4000000
namespace Gp
open PySem PySem.Spec PyProof.Rows L2 Gh
def cvB (c f : Str) (i : Int) (K : PySem.W.Frag) : Bool := PySem.W.readsIn K (gd c K) (.type "type") && (match PySem.W.findCls K (.ref (gd c K)) (.type "type") f with
  | some (.val (.int j _)) => decide (j = i)
  | _ => false)
section
variable {g : Gw} {Mt U0 U U' : Addr → Prop} {H0 H H' H1 H2 : Hp} {b b1 b2 : Nat} {σ : L2.St} {ε ε' : Env} {E : XK}
variable {W L : Type} {env : W → Env} {envL : L → Env} {a r : TS} {t : TS} {m : Tr (Fl W L)}
end
end Gp
end
section
set_option Elab.async false
set_option linter.all false
set_option maxRecDepth 100000
set_option maxHeartbeats 4000000
namespace Gp
open PySem PySem.Spec PyProof.Rows L2 Gh
def frL {α : Type} : List (Addr × Obj) → (List (Addr × Obj) → α) → α
  | [], k => k []
  | (a, o) :: r, k => frL r fun r' => k ((a, o) :: r')
theorem frL_eq {α : Type} : ∀ (l : List (Addr × Obj)) (k : List (Addr × Obj) → α), frL l k = k l
  | [], _ => rfl
  | (a, o) :: r, k => by
    show frL r (fun r' => k ((a, o) :: r')) = _
    rw [frL_eq r]
def obsK (ex : List (PySem.W.Frag → Bool)) (fn : List Df) (tf : List He.Defn) (fs : List Ds) (file : Str) (g : Addr → Option Obj) (K : PySem.W.Frag) : AlS :=
  ((obs ex fn K, He.tabsB g tf K), (fs.all fun d => d.ok file K), fs.map fun d => fnAtS K (d.d.adr K))
def obsL (as : List Addr) (ex : List (PySem.W.Frag → Bool)) (fn : List Df) (tf : List He.Defn) (fs : List Ds) (file : Str) (g : Addr → Option Obj) : AlS := frL (He.frT g as) fun K => obsK ex fn tf fs file g K
theorem saysL_of {as : List Addr} {ex : List (PySem.W.Frag → Bool)} {fn : List Df} {tf : List He.Defn} {h : Heap} (e1 : obs ex fn (He.frT h.get? as) = val fn) (e2 : He.tabsB h.get? tf (He.frT h.get? as) = true) : SaysT ex fn tf h (He.frT h.get? as) := by
  have key : ∀ p ∈ tf, PySem.W.codeHdIn (He.frT h.get? as) (He.cT (He.frT h.get? as) p).1 (He.cT (He.frT h.get? as) p).2 = true ∧ ∃ o, h.get? (He.cT (He.frT h.get? as) p).2 = some o ∧ He.emptyTab o = true := fun p hp => by
    obtain ⟨h3, h4⟩ := He.ba (List.all_eq_true.mp e2 p hp)
    refine ⟨h3, ?_⟩
    cases q : h.get? (He.cT (He.frT h.get? as) p).2 with
    | none =>
      rw [q] at h4
      cases h4
    | some o =>
      rw [q] at h4
      exact ⟨o, rfl, h4⟩
  exact ⟨e1, fun p hp => (key p hp).1, fun p hp => by
    obtain ⟨_, o, q, z⟩ := key p hp
    exact He.frT_none q z, fun p hp => by
    obtain ⟨_, o, q, z⟩ := key p hp
    rw [q, He.emptyTab_eq z]⟩
def hookL (as : List Addr) (ex : List (PySem.W.Frag → Bool)) (fn : List Df) (tf : List He.Defn) (fs : List Ds) (file : Str) : PySem.W.Hook where
  α := AlS
  obs := fun s => obsL as ex fn tf fs file s.heap.get?
  val := fun _ => ((Gh.val fn, true), true, fs.map Ds.val)
  says := fun _ h => ∃ K : PySem.W.Frag, K.In h ∧ SaysS ex fn tf fs file h K
  of := fun _ s e => by
    have e' : obsK ex fn tf fs file _ (He.frT _ as) = ((Gh.val fn, true), true, fs.map Ds.val) := (frL_eq _ _).symm.trans e
    exact ⟨_, He.frT_in, ⟨saysL_of (congrArg (fun z : AlS => z.1.1) e') (congrArg (fun z : AlS => z.1.2) e'), congrArg (fun z : AlS => z.2.1) e', congrArg (fun z : AlS => z.2.2) e'⟩⟩
  keeps := fun _ _ _ ⟨K, hK, c⟩ k => ⟨K, PySem.W.Frag.In.keeps hK k, ⟨⟨c.s.t, c.s.hd, c.s.out, fun p hp => k _ _ (c.s.empty p hp)⟩, c.o, c.v⟩⟩
end Gp
end
section
set_option Elab.async false
set_option linter.all false
set_option maxRecDepth 100000
set_option maxHeartbeats 4000000
namespace Gp
open PySem PySem.Spec PyProof.Rows L2 Gh
def clsG (x m : Str) (K : PySem.W.Frag) : Addr := match PySem.W.recIn K (He.ma K (He.ga K x) m) "classmethod" with
  | some (.ref g :: _) => g
  | _ => 0
def clmB (x m : Str) (K : PySem.W.Frag) : Bool := PySem.W.readsIn K (gd x K) (.type "type") && (He.eqO (PySem.W.specialIn K (.ref (gd x K)) "__getattribute__") (some (some (.builtin "type.__getattribute__"))) &&
  ((match PySem.W.findCls K (.ref (gd x K)) (.type "type") m with
    | some (.get (.builtin b) (.ref p) .none (.ref C)) => decide (b = "classmethod.__get__") && (decide (p = He.ma K (He.ga K x) m) && decide (C = gd x K))
    | _ => false) && ((match PySem.W.recIn K (He.ma K (He.ga K x) m) "classmethod" with
    | some (.ref _ :: _) => true
    | _ => false) && PySem.W.fnIn K (clsG x m K))))
section
variable {g : Gw} {U : Addr → Prop} {H : Hp} {σ : L2.St} {ε : Env} {E : XK} {Q : VK}
end
end Gp
end
section
set_option Elab.async false
set_option linter.all false
set_option maxRecDepth 100000
set_option maxHeartbeats 4000000
namespace Gp
open PySem PySem.Spec PyProof.Rows L2 Gh
section
variable {g : Gw} {Mt U0 U U' : Addr → Prop} {H0 H H' H1 H2 : Hp} {b b1 : Nat} {σ : L2.St} {ε ε' : Env} {E : XK} {W L W' : Type}
variable {env : W → Env} {envL : L → Env} {env' : W' → Env} {u ta tb : TS} {te ti : TE} {me mi : Tr D}
structure Pnd (g : Gw) (Mt U0 : Addr → Prop) (H0 : Hp) (U : Addr → Prop) (σ : L2.St) (H : Hp) (ε : Env) (A : Addr) (ds : List D) : Prop where
  at_ : ∃ vs, H A = some (.lst vs) ∧ vs.length ≤ sizeLine ∧ DenL g U H vs ds
  u : U A
  np : A ≠ g.p
  nc : A ≠ g.c
  n0 : ¬ U0 A
  no : ∀ j, ¬ OwnAt σ ε j A
  mt : Mt A ∨ ∀ o, H0 A = some o → ∃ ps, o = .tbl ps
theorem Pnd.fr {A : Addr} {ds : List D} (uo : UOk g U H) (p : Pnd g Mt U0 H0 U σ H ε A ds) (f : Fr H H' g.p) : Pnd g Mt U0 H0 U σ H' ε A ds := by
  obtain ⟨⟨vs, hA, l, dn⟩, uA, hp, hc, n0, no, mt⟩ := p
  exact ⟨⟨vs, f _ _ hA hp (fun _ z => by cases z), l, dn.fr uo f⟩, uA, hp, hc, n0, no, mt⟩
theorem Pnd.set {A : Addr} {ds : List D} (p : Pnd g Mt U0 H0 U σ H ε A ds) (i : Nat) (v : V) (d : D) : Pnd g Mt U0 H0 U (σ.set i (some v)) H (ε.set i (.fz d)) A ds :=
  ⟨p.at_, p.u, p.np, p.nc, p.n0, fun j h => p.no j (ownAt_set h).2, p.mt⟩
inductive QR (g : Gw) (Mt U0 : Addr → Prop) (H0 : Hp) (U : Addr → Prop) (σ : L2.St) (H : Hp) (ε : Env) : Nat → List V → List D → Prop
  | here {A : Addr} {ds : List D} {vs : List V} {xs : List D} : Pnd g Mt U0 H0 U σ H ε A ds → DenL g U H vs xs → QR g Mt U0 H0 U σ H ε 0 (.ref A :: vs) (.lst ds :: xs)
  | next {n : Nat} {v : V} {d : D} {vs : List V} {ds : List D} : Den g U H v d → QR g Mt U0 H0 U σ H ε n vs ds → QR g Mt U0 H0 U σ H ε (n + 1) (v :: vs) (d :: ds)
theorem QR.length {n : Nat} : ∀ {vs : List V} {ds : List D}, QR g Mt U0 H0 U σ H ε n vs ds → vs.length = ds.length
  | _, _, .here _ k => congrArg (· + 1) k.length
  | _, _, .next _ r => congrArg (· + 1) r.length
end
end Gp
end
section
set_option Elab.async false
set_option linter.all false
set_option maxRecDepth 100000
set_option maxHeartbeats 4000000
namespace Gp
open PySem PySem.Spec PyProof.Rows L2 Gh
inductive ItH where
  | s (x : Str) | n (i : Int) | f (x : Str)
def ItH.d (fs : Fs) : ItH → Option D
  | .s x => if x.length ≤ sizeLine then some (.str x) else none
  | .n k => some (.int k)
  | .f x => fs.lookup x
section
variable {g : Gw} {U : Addr → Prop} {H H' : Hp} {b : Nat} {σ : L2.St} {ε : Env}
def Fz (ε : Env) : Prop := ∀ s ∈ ε, (∃ d, s = .fz d) ∨ s = .no
theorem Fz.set {j : Nat} {d : D} (h : Fz ε) : Fz (ε.set j (.fz d)) := fun s m => by
  rcases List.mem_or_eq_of_mem_set m with m | m
  · exact h s m
  · exact .inl ⟨_, m⟩
theorem Fz.own (h : Fz ε) : ∀ i a, ¬ OwnAt σ ε i a := fun i a ⟨_, z⟩ => by
  rcases z with ⟨x, z⟩ | ⟨x, y, z⟩
  · rcases h _ (List.mem_of_getElem? z) with ⟨d, e⟩ | e <;> cases e
  · rcases h _ (List.mem_of_getElem? z) with ⟨d, e⟩ | e <;> cases e
end
end Gp
end
section
set_option Elab.async false
set_option linter.all false
set_option maxRecDepth 100000
set_option maxHeartbeats 4000000
namespace Gz
open PySem
open Sem (wp)
def pois : GenState → GenState
  | .suspended _ l c p fs cl => .suspended (fun _ => .unsupported "") l c p fs cl
  | x => x
def IsSusp (x : GenState) : Prop := ∃ k l c p fs cl, x = .suspended k l c p fs cl
def Fixd (x : GenState) : Prop := IsSusp x ∨ x = .running
abbrev Map := Nat → Option GenState
def rest (ρ : Map) (G : Array GenState) : Array GenState := G.mapIdx fun i x => (ρ i).getD x
structure Held (ρ : Map) (G : Array GenState) : Prop where
  at_ : ∀ i x, ρ i = some x → Fixd x ∧ G[i]? = some (pois x)
  fr : ∀ i k l c p fs cl, ρ i = none → G[i]? = some (.suspended k l c p fs cl) → ∀ g kk ll cc pp, Frame.gen g kk ll cc pp ∈ fs → ρ g = none
def FsOk (ρ : Map) (fs : List Frame) : Prop := ∀ g kk ll cc pp, Frame.gen g kk ll cc pp ∈ fs → ρ g = none
theorem rest_size (ρ : Map) (G : Array GenState) : (rest ρ G).size = G.size := by unfold rest; exact Array.size_mapIdx
theorem rest_get (ρ : Map) (G : Array GenState) (i : Nat) : (rest ρ G)[i]? = (G[i]?).map fun x => (ρ i).getD x := by
  unfold rest
  exact Array.getElem?_mapIdx
theorem Held.lt {ρ : Map} {G : Array GenState} (h : Held ρ G) {i : Nat} {x : GenState} (e : ρ i = some x) : i < G.size := by
  obtain ⟨_, q⟩ := h.at_ i x e
  exact (Array.getElem?_eq_some_iff.mp q).1
theorem Held.push {ρ : Map} {G : Array GenState} (h : Held ρ G) (c : Code) : Held ρ (G.push (.fresh c)) ∧ rest ρ (G.push (.fresh c)) = (rest ρ G).push (.fresh c) := by
  have hn : ρ G.size = none := by
    cases e : ρ G.size with
    | none => rfl
    | some x => exact absurd (h.lt e) (Nat.lt_irrefl _)
  refine ⟨⟨fun i x e => ?_, fun i k l c' p fs cl e q => ?_⟩, ?_⟩
  · obtain ⟨a, b⟩ := h.at_ i x e
    refine ⟨a, ?_⟩
    rw [Array.getElem?_push, if_neg (Nat.ne_of_lt (h.lt e))]
    exact b
  · rw [Array.getElem?_push] at q
    split at q
    · cases q
    · exact h.fr i k l c' p fs cl e q
  · apply Array.ext_getElem?
    intro i
    rw [rest_get, Array.getElem?_push, Array.getElem?_push, rest_size]
    by_cases e : i = G.size
    · rw [if_pos e, if_pos e, e, hn]
      rfl
    · rw [if_neg e, if_neg e, rest_get]
theorem Held.set {ρ : Map} {G : Array GenState} (h : Held ρ G) {g : Nat} (hg : ρ g = none) {y : GenState} (hy : ∀ k l c p fs cl, y = .suspended k l c p fs cl → FsOk ρ fs) :
    Held ρ (G.setIfInBounds g y) ∧ rest ρ (G.setIfInBounds g y) = (rest ρ G).setIfInBounds g y := by
  refine ⟨⟨fun i x e => ?_, fun i k l c p fs cl e q => ?_⟩, ?_⟩
  · obtain ⟨a, b⟩ := h.at_ i x e
    refine ⟨a, ?_⟩
    rw [Array.getElem?_setIfInBounds_ne (fun z => by rw [z, e] at hg; cases hg)]
    exact b
  · by_cases z : g = i
    · subst z
      rw [Array.getElem?_setIfInBounds_self] at q
      split at q
      · exact hy _ _ _ _ _ _ (Option.some.inj q)
      · cases q
    · rw [Array.getElem?_setIfInBounds_ne z] at q
      exact h.fr i k l c p fs cl e q
  · apply Array.ext_getElem?
    intro i
    rw [rest_get]
    by_cases z : g = i
    · subst z
      rw [Array.getElem?_setIfInBounds_self, Array.getElem?_setIfInBounds_self, rest_size, hg]
      split <;> rfl
    · rw [Array.getElem?_setIfInBounds_ne z, Array.getElem?_setIfInBounds_ne z, rest_get]
abbrev up (ρ : Map) (s : Shared) : Shared := { s with gens := rest ρ s.gens }
theorem Held.run {ρ : Map} {G : Array GenState} (h : Held ρ G) {g : Nat} (e : G[g]? = some .running) : (rest ρ G)[g]? = some .running := by
  rw [rest_get, e]
  cases q : ρ g with
  | none => rfl
  | some y =>
    obtain ⟨hy, b⟩ := h.at_ g y q
    rw [e] at b
    rcases hy with ⟨k, l, c, p, fs, cl, rfl⟩ | rfl
    · cases b
    · rfl
def Sleep (s s1 : Shared) : Prop := ∀ (i : Nat) (x : GenState), Fixd x → s.gens[i]? = some x → s1.gens[i]? = some x
theorem Sleep.refl {s : Shared} : Sleep s s := fun _ _ _ h => h
theorem Sleep.trans {a b c : Shared} (h : Sleep a b) (k : Sleep b c) : Sleep a c := fun i x hx e => k i x hx (h i x hx e)
end Gz
end
section
set_option Elab.async false
set_option linter.all false
set_option maxRecDepth 100000
set_option maxHeartbeats 4000000
namespace Gz
open PySem PySem.Spec PyProof.Rows L2 GenW Gh
abbrev EndI (ι : Type) := Nat → ι → Result → Shared → Prop
abbrev ProI (ι : Type) := Nat → ι → Value → Shared → (Resume → ι → Shared → Prop) → Prop
section
variable {ι : Type} {M : Model} {A : Around} {R : EndI ι} {Y : ProI ι} {n : Nat} {i : ι} {c : Code} {fs : List Frame} {s : Shared}
def endI (R : EndI ι) (Y : ProI ι) (n : Nat) (go : ι → Code → Sem PySem.Fin → List Frame → Shared → Prop) (i : ι) : End → Shared → Prop
  | .ret r, s' => R n i r s'
  | .susp v g l k c p fs, s' => (End.susp v g l k c p fs).quiet = true ∧ Y (n - 1) i v s' fun r j s'' => go j c (k r) fs s''
def GSeg (M : Model) (A : Around) (R : EndI ι) (Y : ProI ι) : Nat → ι → Code → Sem PySem.Fin → List Frame → Shared → Prop
  | 0, i, c, t, fs, s => ∀ Γ p, Γ.code = c → Γ.Woken A → ∃ e s', Runs M Γ p t fs s e s' ∧ endI R Y 0 (fun _ _ _ _ _ => False) i e s'
  | n + 1, i, c, t, fs, s => ∀ Γ p, Γ.code = c → Γ.Woken A → ∃ e s', Runs M Γ p t fs s e s' ∧ endI R Y (n + 1) (GSeg M A R Y n) i e s'
section
variable {α β : Type} {m : Sem α} {H : Value → Sem PySem.Fin} {gd : Bool → Bool} {lv : List Value → List Value}
end
section
variable {env : PySem.Env} {K : Flow → Sem PySem.Fin} {H : Value → Sem PySem.Fin} {gd : Bool → Bool} {lv : List Value → List Value}
end
section
variable {prog : Program} {w : World} {env : PySem.Env}
end
def GGoes (M : Model) (A : Around) (R : EndI ι) (Y : ProI ι) (n : Nat) (i : ι) : GenState → Resume → Shared → Prop
  | .fresh c, r, s => r = .send .none ∧ GSeg M A R Y n i c (M.den c) [] s
  | .suspended k _ c _ fs _, r, s => GSeg M A R Y n i c (k r) fs s
  | _, _, _ => False
end
end Gz
end
section
set_option Elab.async false
set_option linter.all false
set_option maxRecDepth 100000
set_option maxHeartbeats 4000000
namespace Gz
open PySem PySem.Spec PyProof.Rows L2 GenW Gh
variable {X : Cx}
def cut (h : Heap) (n : Nat) : Heap := { h with objs := h.objs.extract 0 n }
abbrev cutS (s : Shared) (n : Nat) : Shared := { s with heap := cut s.heap n }
abbrev reb (X : Cx) (s0 : Shared) (H0 : Hp) : Cx := { X with s_0 := s0, H_0 := H0, xe := fun _ _ => False }
def RunS (s s1 : Shared) : Prop := ∀ i : Nat, s.gens[i]? = some .running → s1.gens[i]? = some .running
theorem RunS.refl {s : Shared} : RunS s s := fun _ h => h
theorem RunS.trans {a b c : Shared} (h : RunS a b) (k : RunS b c) : RunS a c := fun i e => k i (h i e)
structure Pro (T : Type) where
  hp : T → Hp
  src : T → Shared → Shared
  out : Nat → T → V → Hp → Prop
  lk : Nat → T → Hp → T → Prop
  fin : Nat → T → Hp → Prop
structure QE (T : Type) where
  nx : Nat → T → L2.St → Hp → Prop
  rt : Nat → T → V → Hp → Prop
  bk : Nat → T → L2.St → Hp → Prop := fun _ _ _ _ => False
  ct : Nat → T → L2.St → Hp → Prop := fun _ _ _ _ => False
def QE.at {T : Type} (D : QE T) (n : Nat) (γ : T) : Ends := { nx := D.nx n γ, rt := D.rt n γ, bk := D.bk n γ, ct := D.ct n γ }
structure QI {T : Type} (X : Cx) (g n0 : Nat) (P : Pro T) (ip : List (Addr × Obj)) (gp : List (Nat × GenState)) (γ : T) (s₀ : Shared) (σ : L2.St) (H : Hp) (s : Shared) : Prop where
  inv : Inv (reb X (cutS (P.src γ s₀) n0) (P.hp γ)) ip σ H s
  run : s.gens[g]? = some .running
  sz : n0 ≤ (P.src γ s₀).heap.objs.size
  ips : ∀ p ∈ ip, n0 ≤ p.1
  slp : RunS s₀ s
  gpn : ∀ q ∈ gp, IsSusp q.2 ∧ s.gens[q.1]? = some q.2
def QY {T : Type} (X : Cx) (g n0 : Nat) (P : Pro T) : ProI (T × Shared) := fun n i v s kap =>
  ∃ σ ip gp x H, QI X g n0 P ip gp i.1 i.2 σ H s ∧ RelV x v ∧ P.out n i.1 x H ∧
    ∀ s' γ', QI X g n0 P ip gp γ' s' σ (P.hp γ') s' → P.lk n i.1 H γ' → kap (.send .none) (γ', s') s'
def QR {T : Type} (X : Cx) (g n0 : Nat) (P : Pro T) (N : Nat) (Er : Value → Shared → Prop) : EndI (T × Shared) := fun n i r s1 =>
  ((r = .ok (.ret .none) ∨ r = .ok .next) ∧ ∃ σ ip gp H, QI X g n0 P ip gp i.1 i.2 σ H s1 ∧ P.fin n i.1 H) ∨ ∃ e, r = .error e ∧ (n = N ∧ Er e s1)
section
variable {T : Type} {Z : GpZ} {st : Stmt} {rest : List Stmt} {pos : Pos}
end
end Gz
end
section
set_option Elab.async false
set_option linter.all false
set_option maxRecDepth 100000
set_option maxHeartbeats 4000000
namespace Gz
open PySem PySem.Spec PyProof.Rows L2 GenW Gh
section
variable {X : Cx} {ip : List (Addr × Obj)} {σ : L2.St} {H : Hp} {s : Shared}
end
structure HxOk (n : Nat) (H H2 : Hp) : Prop where
  low : ∀ {b : Addr}, b < n → H2 b = H b
  ext : ∀ {b : Addr} {o : HO}, H b = some o → H2 b = some o
  tup : ∀ {b : Addr} {xs : List V}, H2 b = some (.tup xs) → H b = some (.tup xs)
  frz : ∀ {b : Addr} {od : Obj} {u : HO}, H2 b = some (.frz od u) → H b = some (.frz od u)
  tbl : ∀ {b : Addr} {ps : Array Value}, H2 b = some (.tbl ps) → H b = some (.tbl ps)
theorem HxOk.sub {n : Nat} {H H2 : Hp} (h : HxOk n H H2) {b : Addr} (e : H2 b = none) : H b = none := by
  cases q : H b with
  | none => rfl
  | some o =>
    rw [h.ext q] at e
    cases e
theorem HxOk.mono {n m : Nat} {H H2 : Hp} (h : HxOk n H H2) (l : m ≤ n) : HxOk m H H2 := ⟨fun q => h.low (Nat.lt_of_lt_of_le q l), h.ext, h.tup, h.frz, h.tbl⟩
theorem HxOk.same {n : Nat} {H H2 : Hp} (h : H2 = H) : HxOk n H H2 := by
  subst h
  exact ⟨fun _ => rfl, fun e => e, fun e => e, fun e => e, fun e => e⟩
theorem HxOk.trans {n : Nat} {H H2 H3 : Hp} (h : HxOk n H H2) (k : HxOk n H2 H3) : HxOk n H H3 :=
  ⟨fun q => (k.low q).trans (h.low q), fun e => k.ext (h.ext e), fun e => h.tup (k.tup e), fun e => h.frz (k.frz e), fun e => h.tbl (k.tbl e)⟩
theorem HxOk.one {n : Nat} {H H2 : Hp} (z : ∃ S o, n ≤ S ∧ H S = none ∧ (∀ xs, o ≠ .tup xs) ∧ (∀ od u, o ≠ .frz od u) ∧ (∀ ps, o ≠ .tbl ps) ∧ H2 = upd H S o) : HxOk n H H2 := by
  obtain ⟨S, o, h0, h1, h2, h3, h4, rfl⟩ := z
  refine ⟨fun l => ?_, fun e => ?_, fun {b xs} e => ?_, fun {b od u} e => ?_, fun {b ps} e => ?_⟩
  · rw [upd_ne (Nat.ne_of_lt (Nat.lt_of_lt_of_le l h0))]
  · rw [upd_ne (ne_of_none e h1)]; exact e
  · by_cases q : b = S
    · rw [q, upd_same] at e; cases e; exact absurd rfl (h2 _)
    · rwa [upd_ne q] at e
  · by_cases q : b = S
    · rw [q, upd_same] at e; cases e; exact absurd rfl (h3 _ _)
    · rwa [upd_ne q] at e
  · by_cases q : b = S
    · rw [q, upd_same] at e; cases e; exact absurd rfl (h4 _)
    · rwa [upd_ne q] at e
section
variable {T : Type} {X : Cx} {st : Stmt} {rest : List Stmt}
end
structure GX (X : Cx) (P : Program) (w : World) (base : Heap) (outer : List Env) (a : Addr) (g n0 : Nat) : Prop where
  prog : X.prog = P
  w : X.w = w
  base : X.base = base
  outer : X.outer = outer
  ex : X.ex = []
  cel : ∀ x c, X.env.cells.lookup x = some c → False
  gen : ∀ h : Heap, (∀ p ∈ X.pn, h.get? p.1 = some p.2) → h.IsGen a g
  loc : n0 ≤ X.env.locals
  pns : ∀ p ∈ X.pn, n0 ≤ p.1
end Gz
end
section
set_option Elab.async false
set_option linter.all false
set_option maxRecDepth 100000
set_option maxHeartbeats 4000000
namespace Gz
open PySem PySem.Spec PyProof.Rows L2 GenW Gh
def wrapP {T : Type} (P : Pro T) : Pro (T × Option Shared) := { hp := fun γ => P.hp γ.1, src := fun γ s => γ.2.getD s, out := fun n γ => P.out n γ.1, lk := fun n γ H γ' => P.lk n γ.1 H γ'.1, fin := fun n γ => P.fin n γ.1 }
section
variable {Xc X : Cx} {pins ip : List (Addr × Obj)} {σc σ : L2.St} {h1 h2 H1 : Hp} {s s' : Shared} {n0 : Nat}
end
structure SameC (X Y : Cx) : Prop where
  prog : Y.prog = X.prog
  w : Y.w = X.w
  base : Y.base = X.base
  stack : Y.stack = X.stack
theorem SameC.refl {X : Cx} : SameC X X := ⟨rfl, rfl, rfl, rfl⟩
structure Older (X XG : Cx) (pins : List (Addr × Obj)) (a : Addr) (g ns : Nat) : Prop where
  gx : GX XG X.prog X.w X.base X.stack a g ns
  s0 : X.s_0.heap.objs.size ≤ ns
  lo : X.env.locals < ns
  cl : ∀ x c, X.env.cells.lookup x = some c → c < ns
  pl : ∀ p ∈ X.pn ++ pins, p.1 < ns
  fs : ∀ b ∈ X.fs, b < ns
theorem Older.of {X XG : Cx} {pins : List (Addr × Obj)} {a : Addr} {g : Nat} {σ : L2.St} {H : Hp} {sc : Shared} (gx : GX XG X.prog X.w X.base X.stack a g sc.heap.objs.size) (I1 : Inv X pins σ H sc) : Older X XG pins a g sc.heap.objs.size :=
  ⟨gx, I1.sz, I1.lt, fun x c e => by
    obtain ⟨v, o, q, _⟩ := I1.cell x c e
    exact Heap.lt_size q, fun p hp => Heap.lt_size (I1.pin p hp).1, fun b hb => by
    obtain ⟨_, o, e, _⟩ := I1.ok.funs.mem hb
    exact Nat.lt_of_lt_of_le (Heap.lt_size e) I1.sz⟩
def Fst {T : Type} (X : Cx) (pins : List (Addr × Obj)) (P : Pro T) (ns : Nat) (γ : T × Option Shared) (σ : L2.St) : Prop :=
  ∀ s', γ.2 = some s' → s'.heap.objs.size = ns ∧ ∃ H1, Inv X pins σ H1 s' ∧ HxOk ns H1 (P.hp γ.1)
def Pulled {T : Type} (M : Model) (P : Pro T) (XG : Cx) (ns : Nat) (a : Addr) (g : Nat) (A : Around) (ER : Value → Shared → Prop) (N n : Nat) (γ : T × Option Shared) (s : Shared) : Prop :=
  s.heap.IsGen a g ∧ ∃ gs, s.gens[g]? = some gs ∧ GGoes M A.in1 (QR XG g ns (wrapP P) (N + 1) ER) (QY XG g ns (wrapP P)) (n + 1) (γ, s.setGen g .running) gs (.send .none) (s.setGen g .running)
section
variable {T : Type} {X XG : Cx} {pins : List (Addr × Obj)} {P : Pro T} {s s4 : Shared} {a : Addr} {g ns N n : Nat} {A : Around} {ER : Value → Shared → Prop} {σ σg : L2.St} {H4 : Hp} {γ : T × Option Shared} {ip : List (Addr × Obj)} {gp : List (Nat × GenState)} {gs' : GenState}
end
def PullS {T : Type} (X : Cx) (pins : List (Addr × Obj)) (P : Pro T) (I : Nat → T → L2.St → Prop) (sc : Shared) (XG : Cx) (a : Addr) (g : Nat) (A : Around) (H1 : Hp) (E : XK) (N n : Nat) (s : Shared) : Prop :=
  ∃ γ : T × Option Shared, ∃ σ, I n γ.1 σ ∧ Inv X pins σ (P.hp γ.1) s ∧ Fst X pins P sc.heap.objs.size γ σ ∧ Pulled (model X.prog X.w) P XG sc.heap.objs.size a g A (fun e s1 => CX X.prog X.w X.stack H1 sc E e s1 ∧ s1.heap.IsGen a g) N n γ s
section
variable {T : Type} {X XG : Cx} {pins : List (Addr × Obj)} {P : Pro T} {I : Nat → T → L2.St → Prop} {sc s : Shared} {a : Addr} {g N n : Nat} {A : Around} {H1 : Hp} {E : XK} {σ1 : L2.St}
theorem PullS.inv (h : PullS X pins P I sc XG a g A H1 E N n s) : ∃ γ σ, I n γ σ ∧ Inv X pins σ (P.hp γ) s := by
  obtain ⟨γ, σ, h1, h2, _⟩ := h
  exact ⟨γ.1, σ, h1, h2⟩
theorem PullS.gen (h : PullS X pins P I sc XG a g A H1 E N n s) : s.heap.IsGen a g := by
  obtain ⟨γ, _, _, _, _, h, _⟩ := h
  exact h
end
section
variable {X : Cx} {tg iter : Expr} {body : List Stmt} {tq : TQG} {gt : TG} {tb : TS} {pos : Pos} {k : Nat} {E : XK}
end
end Gz
end
section
set_option Elab.async false
set_option linter.all false
set_option maxRecDepth 100000
set_option maxHeartbeats 4000000
namespace Gp
open PySem PySem.Spec PyProof.Rows L2 Gh Gz
section
variable {W W' L : Type}
end
section
variable {g : Gw} {T : Type} {P : Pro T} {all : List D} {N : Nat} {W W' L : Type}
end
theorem Ev.sup {U U1 U' : Addr → Prop} {H H' : Hp} (h : Ev U H U' H') (s : ∀ a, U a → U1 a) : Ev U1 H U' H' := ⟨fun a o e n t => h.keep a o e (fun z => n (s a z)) t, fun a o e n t => h.out a o e (fun z => n (s a z)) t⟩
section
variable {g : Gw} {W W' L : Type} {ε : Env} {env : W → Env} {envL : L → Env} {env' : W' → Env} {u ta tb : TQA} {te : TE} {me : Tr D}
end
end Gp
end
section
set_option Elab.async false
set_option linter.all false
set_option maxRecDepth 100000
set_option maxHeartbeats 4000000
namespace Gp
open PySem PySem.Spec PyProof.Rows L2 Gh
inductive BX where
  | lit (b : Bool) | own (x : Str) | ty (x : String) | and (p q : BX)
def BX.v : BX → Bool
  | .lit b => b
  | .own _ => true
  | .ty _ => true
  | .and p q => p.v && q.v
def BX.free : BX → Bool
  | .lit _ => true
  | .own _ => false
  | .ty _ => false
  | .and p q => p.free && q.free
section
variable {g : Gw} {U : Addr → Prop} {H H' : Hp} {b : Nat} {σ : L2.St} {ε : Env}
end
end Gp
end
section
set_option Elab.async false
set_option linter.all false
set_option maxRecDepth 100000
set_option maxHeartbeats 4000000
namespace Gp
open PySem PySem.Spec PyProof.Rows L2 Gh
inductive IX where
  | s (x : Str) | n (i : Int) | f (cn x : Str)
def IX.d (cl : Str) (fs : Fs) : IX → Option D
  | .s x => if x.length ≤ sizeLine then some (.str x) else none
  | .n k => some (.int k)
  | .f cn x => if (cl == cn) = true then fs.lookup x else none
def ixDs (cl : Str) (fs : Fs) : List IX → Option (List D)
  | [] => some []
  | x :: r => match x.d cl fs, ixDs cl fs r with
    | some d, some ds => some (d :: ds)
    | _, _ => none
inductive TX where
  | own (x : Str) | not (p : TX) | and (p q : TX)
def TX.v (ki : Str → Str → Option Bool) (cl : Str) : TX → Option Bool
  | .own x => ki cl x
  | .not p => (p.v ki cl).map (!·)
  | .and p q => match p.v ki cl with
    | none => none
    | some false => some false
    | some true => q.v ki cl
inductive VX where
  | one (x : IX) | lst (l : List IX)
def VX.d (cl : Str) (fs : Fs) : VX → Option D
  | .one x => x.d cl fs
  | .lst l => match ixDs cl fs l with
    | some ds => if ds.length ≤ sizeLine then some (.lst ds) else none
    | none => none
inductive S1X where
  | set (v : VX) | sel (t : TX) (v u : VX)
def S1X.d (ki : Str → Str → Option Bool) (cl : Str) (fs : Fs) : S1X → Option D
  | .set v => v.d cl fs
  | .sel t v u => match t.v ki cl with
    | none => none
    | some true => v.d cl fs
    | some false => u.d cl fs
section
variable {g : Gw} {U : Addr → Prop} {H : Hp} {b : Nat} {σ : L2.St}
variable {a dd : Addr} {cl : Str} {i j n : Nat} {fvs : List (Str × V)} {fs : Fs} {ki : Str → Str → Option Bool}
end
end Gp
end
section
set_option Elab.async false
set_option linter.all false
set_option maxRecDepth 100000
set_option maxHeartbeats 0
namespace Lw
open PySem PySem.Spec PyProof.Rows L2 Gh Gp
def top (i : Nat) : Stmt := PySem.Challenge.pw_everyhunt_k02_spans_made.main.body.getD i (.Pass ⟨0, 0, 0, 0⟩)
abbrev s_BadSpan___init__ : Stmt := inClass (top 4) 0
def d_BadSpan___init__ : Df := ⟨md "BadSpan" "__init__", "__init__", "BadSpan.__init__", s_BadSpan___init__, []⟩
abbrev s_BadText___init__ : Stmt := inClass (top 5) 0
def d_BadText___init__ : Df := ⟨md "BadText" "__init__", "__init__", "BadText.__init__", s_BadText___init__, []⟩
abbrev s__law_pen : Stmt := top 21
def d__law_pen : Df := ⟨gd "_law_pen", "_law_pen", "_law_pen", s__law_pen, []⟩
abbrev s__law_draw : Stmt := top 22
def d__law_draw : Df := ⟨gd "_law_draw", "_law_draw", "_law_draw", s__law_draw, []⟩
abbrev s_is_integer : Stmt := top 8
def d_is_integer : Df := ⟨gd "is_integer", "is_integer", "is_integer", s_is_integer, []⟩
abbrev s_is_within : Stmt := top 9
def d_is_within : Df := ⟨gd "is_within", "is_within", "is_within", s_is_within, []⟩
abbrev s_Span___init__ : Stmt := inClass (top 17) 1
def d_Span___init__ : Df := ⟨md "Span" "__init__", "__init__", "Span.__init__", s_Span___init__, [.int 0, .int 0]⟩
abbrev s_Span_whole : Stmt := inClass (top 17) 2
def d_Span_whole : Df := ⟨staG "Span" "whole", "whole", "Span.whole", s_Span_whole, [.int 1, .int 0]⟩
abbrev s_Span_halves : Stmt := inClass (top 17) 4
def d_Span_halves : Df := ⟨propG "Span" "halves", "halves", "Span.halves", s_Span_halves, []⟩
abbrev s_Span_more : Stmt := inClass (top 17) 5
def d_Span_more : Df := ⟨propG "Span" "more", "more", "Span.more", s_Span_more, []⟩
abbrev s_Span_odd : Stmt := inClass (top 17) 6
def d_Span_odd : Df := ⟨propG "Span" "odd", "odd", "Span.odd", s_Span_odd, []⟩
abbrev s_Span___eq__ : Stmt := inClass (top 17) 16
def d_Span___eq__ : Df := ⟨md "Span" "__eq__", "__eq__", "Span.__eq__", s_Span___eq__, []⟩
abbrev s_Span___str__ : Stmt := inClass (top 17) 22
def d_Span___str__ : Df := ⟨md "Span" "__str__", "__str__", "Span.__str__", s_Span___str__, []⟩
abbrev s_number_in : Stmt := top 18
def d_number_in : Df := ⟨gd "number_in", "number_in", "number_in", s_number_in, []⟩
abbrev s_are_parts : Stmt := top 19
def d_are_parts : Df := ⟨gd "are_parts", "are_parts", "are_parts", s_are_parts, []⟩
abbrev s_Span_read : Stmt := inClass (top 17) 3
def d_Span_read : Df := ⟨clsG "Span" "read", "read", "Span.read", s_Span_read, []⟩
abbrev s_Span_plus : Stmt := inClass (top 17) 10
def d_Span_plus : Df := ⟨md "Span" "plus", "plus", "Span.plus", s_Span_plus, []⟩
abbrev s_Span___add__ : Stmt := inClass (top 17) 11
def d_Span___add__ : Df := ⟨md "Span" "__add__", "__add__", "Span.__add__", s_Span___add__, []⟩
abbrev s_Span___radd__ : Stmt := inClass (top 17) 12
def d_Span___radd__ : Df := ⟨md "Span" "__radd__", "__radd__", "Span.__radd__", s_Span___radd__, []⟩
abbrev s_Span___sub__ : Stmt := inClass (top 17) 13
def d_Span___sub__ : Df := ⟨md "Span" "__sub__", "__sub__", "Span.__sub__", s_Span___sub__, []⟩
abbrev s_Span___mul__ : Stmt := inClass (top 17) 14
def d_Span___mul__ : Df := ⟨md "Span" "__mul__", "__mul__", "Span.__mul__", s_Span___mul__, []⟩
abbrev s_Span___rmul__ : Stmt := inClass (top 17) 15
def d_Span___rmul__ : Df := ⟨md "Span" "__rmul__", "__rmul__", "Span.__rmul__", s_Span___rmul__, []⟩
abbrev s__law_pick : Stmt := top 23
def d__law_pick : Df := ⟨gd "_law_pick", "_law_pick", "_law_pick", s__law_pick, []⟩
abbrev s__law_heard : Stmt := top 24
def d__law_heard : Df := ⟨gd "_law_heard", "_law_heard", "_law_heard", s__law_heard, []⟩
abbrev s__law_part : Stmt := top 25
def d__law_part : Df := ⟨gd "_law_part", "_law_part", "_law_part", s__law_part, []⟩
abbrev s__law_fault : Stmt := top 26
def d__law_fault : Df := ⟨gd "_law_fault", "_law_fault", "_law_fault", s__law_fault, []⟩
abbrev s__law_told : Stmt := top 27
def d__law_told : Df := ⟨gd "_law_told", "_law_told", "_law_told", s__law_told, []⟩
abbrev s__law_text : Stmt := top 28
def d__law_text : Df := ⟨gd "_law_text", "_law_text", "_law_text", s__law_text, []⟩
abbrev s__law_joined_right : Stmt := top 29
def d__law_joined_right : Df := ⟨gd "_law_joined_right", "_law_joined_right", "_law_joined_right", s__law_joined_right, []⟩
abbrev s__law_read_right : Stmt := top 30
def d__law_read_right : Df := ⟨gd "_law_read_right", "_law_read_right", "_law_read_right", s__law_read_right, []⟩
abbrev s_law : Stmt := top 31
def d_law : Df := ⟨gd "law", "law", "law", s_law, []⟩
def fns : List Df := [d_BadSpan___init__, d_BadText___init__, d__law_pen, d__law_draw, d_is_integer, d_is_within, d_Span___init__, d_Span_whole, d_Span_halves, d_Span_more, d_Span_odd, d_Span___eq__, d_Span___str__, d_number_in, d_are_parts, d_Span_read, d_Span_plus, d_Span___add__, d_Span___radd__, d_Span___sub__, d_Span___mul__, d_Span___rmul__, d__law_pick, d__law_heard, d__law_part, d__law_fault, d__law_told, d__law_text, d__law_joined_right, d__law_read_right, d_law]
def sds : List Gp.Ds := []
def pfile : Str := PySem.Challenge.pw_everyhunt_k02_spans_made.main.file
def exs : List (PySem.W.Frag → Bool) := [fa (.free "abs"), fa (.free "all"), fa (.free "bool"), fa (.free "int"), fa (.free "isinstance"), fa (.free "len"), fa (.free "list"), fa (.free "range"), fa (.free "str"), fa (.glo "_law_pen"), fa (.keep "_law_pen"), fa (.glo "_law_draw"), fa (.keep "_law_draw"), fa (.glo "is_integer"), fa (.keep "is_integer"), fa (.glo "is_within"), fa (.keep "is_within"), fa (.glo "number_in"), fa (.keep "number_in"), fa (.glo "are_parts"), fa (.keep "are_parts"), fa (.glo "_law_pick"), fa (.keep "_law_pick"), fa (.glo "_law_heard"), fa (.keep "_law_heard"), fa (.glo "_law_part"), fa (.keep "_law_part"), fa (.glo "_law_fault"), fa (.keep "_law_fault"), fa (.glo "_law_told"),
  fa (.keep "_law_told"), fa (.glo "_law_text"), fa (.keep "_law_text"), fa (.glo "_law_joined_right"), fa (.keep "_law_joined_right"), fa (.glo "_law_read_right"), fa (.keep "_law_read_right"), fa (.glo "BadSpan"), fa (.keep "BadSpan"), fa (.glo "BadText"), fa (.keep "BadText"), fa (.glo "Span"), fa (.keep "Span"), fa (.glo "HuntError"), fa (.keep "HuntError"), fa (.int "MOST_HALVES" 8), fa (.int "MOST_MORE" 60), fa (.int "MOST_ODD" 9), fa (.int "MOST_WHOLE" 4), fa (.noat "BadSpan" "part"), errB "BadSpan", oexB "BadSpan", iniB "BadSpan", (fun K => decide (PySem.W.exmOne K (.ref (gd "BadSpan" K)) (.ref (gd "HuntError" K)) = some true)), fa (.noat "BadText" "line"), fa (.noat "BadText" "word"), errB "BadText", oexB "BadText", iniB "BadText", (fun K => decide (PySem.W.exmOne K (.ref (gd "BadText" K)) (.ref (gd "HuntError" K)) = some true)),
  fa (.cls "Span"), insB "Span", fa (.noat "Span" "own_parts"), fa (.mkr "Span"), staB "Span" "whole", propB "Span" "halves", propB "Span" "more", propB "Span" "odd", fa (.meth "Span" "__eq__"), ownB "Span", fa (.meth "Span" "__str__"), fa (.meth "Span" "plus"), fa (.meth "Span" "__add__"), opB "Span" .Add, fa (.meth "Span" "__radd__"), fa (.meth "Span" "__sub__"), opB "Span" .Sub, fa (.meth "Span" "__mul__"), opB "Span" .Mult, fa (.meth "Span" "__rmul__"), cvB "Span" "MOST" 60, clmB "Span" "read", (fun K => decide (PySem.W.subIn K (.ref (gd "Span" K)) (.type "int") = some false)), (fun K => decide ((He.cT K ("_law_joined_right", none)).2 ≠ (He.cT K ("_law_read_right", none)).2)), (fun K => decide ((He.cT K ("_law_joined_right", none)).2 ≠ (He.cT K ("law", none)).2)), (fun K => decide ((He.cT K ("_law_read_right", none)).2 ≠ (He.cT K ("law", none)).2)), (fun K => decide (PySem.W.kitOne K (.ref (gd "BadSpan" K)) (.ref (gd "BadSpan" K)) = some true)), (fun K => decide (PySem.W.kitOne K (.ref (gd "BadText" K)) (.ref (gd "BadSpan" K)) = some false)), (fun K => decide (PySem.W.kitOne K (.ref (gd "BadSpan" K)) (.ref (gd "BadText" K)) = some false)), (fun K => decide (PySem.W.kitOne K (.ref (gd "BadText" K)) (.ref (gd "BadText" K)) = some true)),
  nfB "Span", neB "Span", (fun K => PySem.W.notFirst K (gd "Span" K) (.ref (gd "Span" K))), fa (.glo "law")]
def loose0 : List Str := ["_wall", "__name__", "HuntError", "BadLength", "BadSpan", "BadText", "GREATEST_LENGTH", "is_integer", "is_within", "is_length", "need_length", "MOST_HALVES"]
def loose1 : List Str := ["MOST_MORE", "MOST_ODD", "MOST_WHOLE", "Span", "number_in", "are_parts", "_law_pen", "_law_draw", "_law_pick", "_law_heard", "_law_part", "_law_fault"]
def loose2 : List Str := ["_law_told", "_law_text", "_law_joined_right", "_law_read_right"]
def loose : List Str := loose0 ++ loose1 ++ loose2
abbrev R : PySem.W.OpenRow := PySem.W.OpenLaw.row PySem.Challenge.rw_everyhunt_k02_spans_made
def tfs : List He.Defn := [("_law_joined_right", none), ("_law_read_right", none), ("law", none)]
def adrs : List Addr := [3, 31, 70, 89, 98, 105, 292, 301, 308, 315, 322, 329, 336, 343, 350, 357, 364, 369, 376, 383, 30, 69, 88, 97, 104, 291, 300, 307, 314, 321, 328, 335, 342, 349, 356, 363, 368, 375, 382, 67, 86, 134, 144, 152, 161, 169, 177, 205, 212, 219, 226, 233, 240, 247, 289, 66, 85, 133, 127, 142, 150, 160, 168, 176, 204, 211, 218, 225, 232, 239, 246, 288, 141, 135, 149, 159, 167, 175, 2]
abbrev hk : PySem.W.Hook := Gp.hookL adrs exs fns tfs sds pfile
def ob (s : PySem.W.SharedT) : Gp.AlS := Gp.obsL adrs exs fns tfs sds pfile (HandSHeadRun.getT s)
theorem run (w : World) : HandSHeadRun.RunEq R (PySem.W.view R.prog [31]) hk ob 20000 loose w := by
  intro os
  kernel_rfl
section
variable {K : PySem.W.Frag} {mg : Str → Option Value} {Tb : List (Addr × Str)} {p c : Addr}
end
end Lw
end
section
set_option Elab.async false
set_option linter.all false
set_option maxRecDepth 100000
namespace Gh
open PySem PySem.Spec PyProof.Rows L2
abbrev FnA (K : PySem.W.Frag) (d : Df) (fd : FuncData) : Prop := FunD K d.name d.qual (defArgs d.st) (defBody d.st) (defScope d.st) (d.dvs K) [] (d.adr K) fd
theorem Df.funD {K : PySem.W.Frag} {d : Df} (e : fnAt K (d.adr K) = d.val) (c : d.ok K = true) : ∃ fd, FnA K d fd := by
  obtain ⟨kp, c2⟩ := He.ba c
  unfold fnAt at e
  cases q : K.lookup (d.adr K) with
  | none =>
    rw [q] at c2
    cases c2
  | some o =>
    obtain ⟨oc, od, dt, osl⟩ := o
    rw [q] at c2 e
    cases dt with
    | func fd =>
      obtain ⟨n1, n2, n3, n4, n5, n6, n7, n8, n9, n10, n11, n12, n13, n14, n15⟩ := fd
      have e2 : (some (n1, n2, n3, n4, n5, n6, n7, n15) : He.FnW) = some (d.name, d.qual, defArgs d.st, .stmts (defBody d.st), defScope d.st, mainGlobals, [], builtinsNs) := e
      simp only [Option.some.injEq, Prod.mk.injEq] at e2
      obtain ⟨h1, h2, h3, h4, h5, h6, h7, h8⟩ := e2
      subst h1 h2 h3 h4 h5 h6 h7 h8
      have c3 : (PySem.W.codeIn K n13 d.qual && (He.dflB K n8 (d.dvs K) && He.kwdB K n9 [])) = true := c2
      obtain ⟨k1, k2⟩ := He.ba c3
      obtain ⟨k3, k4⟩ := He.ba k2
      exact ⟨_, ⟨oc, od, n8, n9, n10, n11, n12, n13, n14, osl, rfl, q, k1, He.dflB_ok k3, He.kwdB_ok k4⟩, kp⟩
    | _ => cases c2
theorem Says.fact {ex : List (PySem.W.Frag → Bool)} {fn : List Df} {K : PySem.W.Frag} (c : Says ex fn K) (i : Nat) {f : PySem.W.Frag → Bool} (h : ex[i]? = some f := by rfl) : f K = true := by
  have c1 := (He.ba (show ((ex.all fun f => f K) && fn.all fun d => d.ok K) = true from congrArg (fun z : Al => z.1) c)).1
  exact List.all_eq_true.mp c1 f (List.mem_of_getElem? h)
theorem Says.def_ {ex : List (PySem.W.Frag → Bool)} {fn : List Df} {K : PySem.W.Frag} (c : Says ex fn K) (i : Nat) {d : Df} (h : fn[i]? = some d := by rfl) : ∃ fd, FnA K d fd := by
  have c2 := (He.ba (show ((ex.all fun f => f K) && fn.all fun d => d.ok K) = true from congrArg (fun z : Al => z.1) c)).2
  have e : fn.map (fun d => fnAt K (d.adr K)) = fn.map Df.val := congrArg (fun z : Al => z.2) c
  have e2 : (fn.map fun d => fnAt K (d.adr K))[i]? = (fn.map Df.val)[i]? := by rw [e]
  rw [List.getElem?_map, List.getElem?_map, h] at e2
  exact Df.funD (Option.some.inj e2) (List.all_eq_true.mp c2 d (List.mem_of_getElem? h))
theorem propB_ok {x m : Str} {K : PySem.W.Frag} (h : propB x m K = true) : PropOf K (He.ga K x) m (He.ma K (He.ga K x) m) (propG x m K) := by
  obtain ⟨h1, h2⟩ := He.ba h
  obtain ⟨h3, h4⟩ := He.ba h2
  obtain ⟨h5, h6⟩ := He.ba h4
  refine ⟨He.eqO_ok h1, He.eqO_ok h3, of_decide_eq_true h5, ?_⟩
  unfold propG
  cases q : PySem.W.recIn K (He.ma K (He.ga K x) m) "property" with
  | none =>
    rw [q] at h6
    cases h6
  | some l =>
    rw [q] at h6
    cases l with
    | nil => cases h6
    | cons v r =>
      cases v with
      | ref g => exact ⟨r, rfl⟩
      | _ => cases h6
theorem insB_ok {x : Str} {K : PySem.W.Frag} (h : insB x K = true) : InsT K (gd x K) := by
  obtain ⟨h1, h⟩ := He.ba h
  obtain ⟨h2, h⟩ := He.ba h
  obtain ⟨h3, h⟩ := He.ba h
  obtain ⟨h4, h⟩ := He.ba h
  obtain ⟨h5, h⟩ := He.ba h
  obtain ⟨h6, h7⟩ := He.ba h
  exact ⟨He.eqO_ok h1, He.eqO_ok h2, of_decide_eq_true h3, of_decide_eq_true h4, of_decide_eq_true h5, fun n hn => of_decide_eq_true (List.all_eq_true.mp h6 n hn), fun n hn => of_decide_eq_true (List.all_eq_true.mp h7 n hn)⟩
structure OwnT (K : PySem.W.Frag) (C : Addr) : Prop where
  first : PySem.W.selfFirst K C = true
  nf : PySem.W.notFirst K C (.ref C) = true
  sub : PySem.W.subIn K (.type "int") (.ref C) = some false
theorem ownB_ok {x : Str} {K : PySem.W.Frag} (h : ownB x K = true) : OwnT K (gd x K) := by
  obtain ⟨h1, h⟩ := He.ba h
  obtain ⟨h2, h3⟩ := He.ba h
  exact ⟨h1, h2, of_decide_eq_true h3⟩
structure OpT (K : PySem.W.Frag) (C : Addr) (op : Operator) : Prop where
  rc : ∃ rc, PySem.W.findIn K (.ref C) (dunderR op.info.2) = some rc ∧ (rc = none ∨ ∃ g : Addr, rc = some (.ref g))
  fo : ∃ fo, PySem.W.findIn K (.type "int") (PySem.dunder op.info.2) = some fo
  ro : ∃ ro, PySem.W.findIn K (.type "int") (dunderR op.info.2) = some ro
theorem opB_ok {x : Str} {op : Operator} {K : PySem.W.Frag} (h : opB x op K = true) : OpT K (gd x K) op := by
  obtain ⟨h1, h⟩ := He.ba h
  obtain ⟨h2, h3⟩ := He.ba h
  refine ⟨?_, Option.isSome_iff_exists.mp h2, Option.isSome_iff_exists.mp h3⟩
  cases q : PySem.W.findIn K (.ref (gd x K)) (dunderR op.info.2) with
  | none =>
    rw [q] at h1
    cases h1
  | some o =>
    cases o with
    | none => exact ⟨none, rfl, .inl rfl⟩
    | some v =>
      cases v with
      | ref g => exact ⟨_, rfl, .inr ⟨g, rfl⟩⟩
      | _ =>
        rw [q] at h1
        cases h1
theorem pe_gi {X : Cx} {x : Str} {i : Int} {pos : Pos} (h : ∃ t, X.mg x = some (.int i t)) (hg : Gl X x) (hd : (x == ("__debug__" : Str)) = false := by decide) : PE X (.Name x pos) (tC (.int i)) := by
  obtain ⟨t, e⟩ := h
  exact pe_glob hg e ⟨t, rfl⟩ hd
end Gh
end
section
set_option Elab.async false
set_option linter.all false
set_option maxRecDepth 100000
set_option maxHeartbeats 4000000
namespace Gh
open PySem PySem.Spec PyProof.Rows L2
section
variable {P : Program} {w : World} {K : PySem.W.Frag} {mg : Str → Option Value} {base : Heap} {CX : CXT} {j k : Nat} {f : Addr} {fd : FuncData} {ps : List Str} {sp : Sp} {dvs : List V}
end
section
variable {X : Cx} {CX : CXT} {k : Nat} {f g C : Addr} {sp : Sp} {dvs : List V} {E : XK} {x m : Str} {p pos apos : Pos} {e o : Expr} {es : List Expr} {ta tb : TE} {t : TA} {r : List V → Hp → VK → Prop}
@[irreducible] def rMk (C : Addr) (sp : Sp) (dvs : List V) (E : XK) : List V → Hp → VK → Prop := fun vs H Q =>
  ∀ x dx, H x = none → H dx = none → dx ≠ x → sp (.ref x :: (vs ++ dvs)) (upd (upd H dx (.own x)) x (.ins C dx [])) (fun v H2 => v = .non ∧ Q (.ref x) H2) E
theorem guards_make {A : Around} {us : List Value} {kw : List (Str × Value)} (h : A.guards = some []) : (A.under (.builtin "type.__call__" ⟨.ref C :: us, kw⟩)).guards = some [] := by
  show pushGuards (Code.guards (.builtin "type.__call__" ⟨.ref C :: us, kw⟩)) A.guards = some []
  have e : Code.guards (.builtin "type.__call__" ⟨.ref C :: us, kw⟩) = [] := by
    unfold Code.guards
    rw [if_neg (by show ¬ (guardIds.contains "type.__call__" = true); decide)]
  rw [e]
  exact h
theorem Prom.make (M : Mk X.K C f) (F : PromX X CX k f dvs sp) (hr : Room (k + 1) X.A) (hg : X.A.guards = some []) (hx : Passes CX X E) : CallR X (.ref C) (rMk C sp dvs E) := by
  intro pins s σ H vs us Q I r h
  unfold rMk at h
  obtain ⟨fd, ps, ds, G, b, hd⟩ := F
  have hq := h (s.heap.objs.size + 1) s.heap.objs.size (I.hok.fresh (Nat.le_succ _)) (I.hok.fresh (Nat.le_refl _)) (Nat.ne_of_lt (Nat.lt_succ_self _))
  have I2 := Inv.made (C := C) I
  have r2 : Vals (V.ref (s.heap.objs.size + 1) :: (vs ++ dvs)) (Value.ref (s.heap.objs.size + 1) :: (us ++ ds)) := .cons rfl (r.append hd)
  have hl : (Value.ref (s.heap.objs.size + 1) :: us ++ ds).length = ps.length := by
    have e := r2.length
    rw [G.len _ _ _ _ hq] at e
    exact e.symm
  refine wpAny_call (make_map (f := f) I.kIn M.makes M.init (beq_iff_eq.mp M.fn) (codeAny_mono (G.run _ X.stack _ _ ⟨Value.ref (s.heap.objs.size + 1) :: us, []⟩ (Value.ref (s.heap.objs.size + 1) :: (us ++ ds)) _ _ E (hr.make C us []) (guards_make hg)
    (I2.env0.make C us []) (b _ (Value.ref (s.heap.objs.size + 1) :: us) I2.kIn hl) r2 hq) fun r s' hq' => ?_))
  cases r with
  | error e => exact hx pins σ _ _ e s' I2 hq'
  | ok fl =>
    cases fl with
    | ret u =>
      obtain ⟨v, H', I3, rv, ev, q3⟩ := I2.after hq'
      subst ev
      exact ⟨rv, ⟨V.ref (s.heap.objs.size + 1), H', I3, rfl, q3⟩⟩
    | next => exact False.elim hq'
    | brk => exact False.elim hq'
    | cont => exact False.elim hq'
def tCl (r : List V → Hp → VK → Prop) (t : TA) : TE := fun σ H Q => t σ H fun vs H1 => r vs H1 Q
theorem pe_g (R : CallR X (.ref f) r) (hg : Gl X x) (hm : X.mg x = some (.ref f)) (hk : PySem.W.keepIn X.K (.ref f) = true)
    (ha : PA X (e :: es) t) (hdb : (x == ("__debug__" : Str)) = false := by decide) (he : starEach (e :: es) X.env = (false, eval e X.env) :: starEach es X.env := by rfl) (hpl : (backTo pos (starEach es X.env)).any (·.1) = false := by rfl) :
    PE X (.Call (.Name x p) (e :: es) [] pos) (tCl r t) := by
  refine ⟨fun pins s σ H Q I h => ?_⟩
  refine wpAny_Call_Name_kw (ld_glob I hg hm ?_ hdb)
  refine PySem.W.callWith_K (h₀ := X.base) I.ok.mod.kin hk (thn (ha.run pos pins s σ H _ I h) fun us s1 ⟨vs, H1, I1, r, q⟩ => ⟨I1.kIn, ?_⟩) he hpl
  exact R pins s1 σ H1 vs us Q I1 r q
def tMt (C : Addr) (m : Str) (r : List V → Hp → VK → Prop) (ta : TE) (t : TA) : TE := fun σ H Q => ta σ H fun x H1 => ∃ a dx fs, x = .ref a ∧ H1 a = some (.ins C dx fs) ∧ fs.lookup m = none ∧ t σ H1 fun vs H2 => r (x :: vs) H2 Q
theorem pe_m {pl : Sem Bool} (he : PE X o ta) (c : Cls X.K C) (hm : Meth X.K C m f) (R : CallR X (.ref f) r) (ha : PA X (e :: es) t)
    (hst : starEach (e :: es) X.env = (false, eval e X.env) :: starEach es X.env := by rfl) (hpl : (backTo pos (starEach es X.env)).any (·.1) = false := by rfl)
    (ht : eval (.Call (.Attribute o m apos) (e :: es) [] pos) X.env = (do
      let ov ← eval o X.env
      standAt apos.atName
      let (f, first) ← holding [ov] (getMethod ov m pl)
      callWith pos f first (backTo pos (starEach (e :: es) X.env)) (backToKw pos (keywordEach [] X.env))) := by rfl) :
    PE X (.Call (.Attribute o m apos) (e :: es) [] pos) (tMt C m r ta t) := by
  refine ⟨fun pins s σ H Q I h => ?_⟩
  refine PySem.W.methodCall_KW (pl := pl) (thn (he.run pins s σ H _ I h) fun u s1 ⟨x, H1, I1, rx, a, dx, fs, ex, ea, l, q⟩ => ?_) ht
  subst ex
  obtain rfl : u = Value.ref a := rx
  refine getmeth_ok I1 ea c hm l ?_
  refine PySem.W.callWith_K (first := [.ref a]) (h₀ := X.base) I.ok.mod.kin hm.kp (thn (ha.run pos pins s1 σ H1 _ I1 q) fun us s2 ⟨vs, H2, I2, r, q2⟩ => ⟨I2.kIn, ?_⟩) hst hpl
  exact R pins s2 σ H2 (.ref a :: vs) (.ref a :: us) Q I2 (.cons rfl r) q2
def tPr (C : Addr) (sp : Sp) (dvs : List V) (E : XK) (ta : TE) : TE := fun σ H Q => ta σ H fun x H1 => ∃ a dx fs, x = .ref a ∧ H1 a = some (.ins C dx fs) ∧ sp (.ref a :: dvs) H1 Q E
theorem cmp_back {pins : List (Addr × Obj)} {σ : L2.St} {Q : VK} {u : Value} {s' : Shared} (h : EP X pins σ Q u s') : PySem.W.CmpBack (EP X pins σ Q) u s' := by
  obtain ⟨v, H', I', rv, q⟩ := h
  cases v with
  | non => cases (show u = Value.none from rv); exact ⟨.non, H', I', rfl, q⟩
  | bl b => cases (show u = Value.bool b from rv); exact ⟨.bl b, H', I', rfl, q⟩
  | int i => obtain ⟨t, z⟩ := (show ∃ t, u = Value.int i t from rv); subst z; exact ⟨.int i, H', I', ⟨t, rfl⟩, q⟩
  | str i => obtain ⟨t, z⟩ := (show ∃ t, u = Value.str i t from rv); subst z; exact ⟨.str i, H', I', ⟨t, rfl⟩, q⟩
  | byt i => obtain ⟨t, z⟩ := (show ∃ t, u = Value.bytes i t from rv); subst z; exact ⟨.byt i, H', I', ⟨t, rfl⟩, q⟩
  | flt i => obtain ⟨t, z⟩ := (show ∃ t, u = Value.float i t from rv); subst z; exact ⟨.flt i, H', I', ⟨t, rfl⟩, q⟩
  | ref a => cases (show u = Value.ref a from rv); exact ⟨.ref a, H', I', rfl, q⟩
  | ty n => cases (show u = Value.type n from rv); exact ⟨.ty n, H', I', rfl, q⟩
@[irreducible] def rBin (C : Addr) (r : List V → Hp → VK → Prop) : R2 := fun x y H Q => ∃ a dx fs b dy gs, x = .ref a ∧ y = .ref b ∧ H a = some (.ins C dx fs) ∧ H b = some (.ins C dy gs) ∧ r [x, y] H Q
theorem op_bin {op : Operator} (hc : PySem.W.selfFirst X.K C = true) (hs : PySem.W.findIn X.K (.ref C) (PySem.dunder op.info.2) = some (some (.ref g))) (hf : PySem.W.isFn X.K (.ref g) = true)
    (R : CallR X (.ref g) r) : OpR X (binaryOp op) (rBin C r) := by
  intro pins s σ H x y v u Q I rx ry h
  unfold rBin at h
  obtain ⟨a, dx, fs, b, dy, gs, rfl, rfl, ha, hb, q⟩ := h
  cases (show v = Value.ref a from rx)
  cases (show u = Value.ref b from ry)
  obtain ⟨ox, od, J⟩ := ins_look I ha
  obtain ⟨ox', od', J'⟩ := ins_look I hb
  obtain ⟨m, hF⟩ := I.fr
  refine PySem.W.binop_K hF I.ok.mod.kin J J'.type hc hs hf ?_
  exact wpAny_mono (R pins s σ H [.ref a, .ref b] [.ref a, .ref b] Q I (.cons rfl (.cons rfl .nil)) q) (fun w s' z => cmp_back z) fun _ _ x => x
@[irreducible] def rBinI (C : Addr) (r : List V → Hp → VK → Prop) : R2 := fun x y H Q => ∃ a dx fs i, x = .ref a ∧ y = .int i ∧ H a = some (.ins C dx fs) ∧ r [x, y] H Q
theorem op_binI {op : Operator} {fo ro rc : Option Value} (hc : PySem.W.selfFirst X.K C = true) (hs : PySem.W.findIn X.K (.ref C) (PySem.dunder op.info.2) = some (some (.ref g))) (hf : PySem.W.isFn X.K (.ref g) = true)
    (hr : PySem.W.findIn X.K (.ref C) (dunderR op.info.2) = some rc) (hp : rc = none ∨ ∃ g : Addr, rc = some (.ref g))
    (h1 : PySem.W.findIn X.K (.type "int") (PySem.dunder op.info.2) = some fo) (h2 : PySem.W.findIn X.K (.type "int") (dunderR op.info.2) = some ro) (hsub : PySem.W.subIn X.K (.type "int") (.ref C) = some false)
    (R : CallR X (.ref g) r) : OpR X (binaryOp op) (rBinI C r) := by
  intro pins s σ H x y v u Q I rx ry h
  unfold rBinI at h
  obtain ⟨a, dx, fs, i, rfl, rfl, ha, q⟩ := h
  cases (show v = Value.ref a from rx)
  obtain ⟨t, z⟩ := (show ∃ t, u = Value.int i t from ry)
  subst z
  obtain ⟨ox, od, J⟩ := ins_look I ha
  obtain ⟨m, hF⟩ := I.fr
  refine PySem.W.ksp_binT (T := "int") hF I.ok.mod.kin J rfl hc hs hf hr hp h1 h2 hsub ?_
  exact wpAny_mono (R pins s σ H [.ref a, .int i] [.ref a, .int i t] Q I (.cons rfl (.cons ⟨t, rfl⟩ .nil)) q) (fun w s' z => cmp_back z) fun _ _ x => x
end
end Gh
end
section
set_option Elab.async false
set_option linter.all false
set_option maxRecDepth 100000
set_option maxHeartbeats 4000000
namespace Gh
open PySem PySem.Spec PyProof.Rows L2
theorem Keep.new {H H' : Hp} {p q : Addr} {o : HO} (h : Keep H H' p) (n : H' q = none) : Keep H (upd H' q o) p := fun a u e ne => by
  rw [upd_ne (ne_of_none (h a u e ne) n)]
  exact h a u e ne
theorem Keep.put {H H' : Hp} {p : Addr} {o : HO} (h : Keep H H' p) : Keep H (upd H' p o) p := fun a u e ne => by
  rw [upd_ne ne]
  exact h a u e ne
theorem PenAt.le {H : Hp} {p : Addr} {a b : Nat} (h : PenAt H p b) (k : a ≤ b) : PenAt H p a := by
  obtain ⟨c, ns, i, z, h1, h2, h3, h4, h5, h6⟩ := h
  exact ⟨c, ns, i, z, h1, h2, h3, h4, by omega, h6⟩
theorem PenAt.new {H : Hp} {p q : Addr} {b : Nat} {o : HO} (h : PenAt H p b) (n : H q = none) : PenAt (upd H q o) p b := by
  obtain ⟨c, ns, i, z, h1, h2, h3⟩ := h
  exact ⟨c, ns, i, z, by rw [upd_ne (ne_of_none h1 n)]; exact h1, by rw [upd_ne (ne_of_none h2 n)]; exact h2, h3⟩
theorem dp_ints (K : PySem.W.Frag) (H : Hp) : ∀ ns : List Int, DpAll K H (ns.map V.int) (ns.map PyData.int)
  | [] => .nil
  | n :: r => .cons (.int n) (dp_ints K H r)
theorem eqv_nil (ds : List PyData) : PyData.eqv (.list ds) (.list []) = ds.isEmpty := by
  cases ds <;> rfl
theorem same_new {H : Hp} {q : Addr} {o : HO} (n : H q = none) : L2.Same H (upd H q o) := fun a u e => by
  rw [upd_ne (ne_of_none e n)]
  exact e
theorem atI_int {ns : List Int} {i : Int} (h0 : 0 ≤ i) (h1 : i < ns.length) : ∃ v, atI (ns.map V.int) i = some (.int v) ∧ v ∈ ns := by
  obtain ⟨j, rfl⟩ : ∃ j : Nat, i = j := ⟨i.toNat, by omega⟩
  have hl : j < ns.length := by omega
  refine ⟨ns[j], atI_nat ?_, List.getElem_mem hl⟩
  rw [List.getElem?_map, List.getElem?_eq_getElem hl]
  rfl
theorem pow_lt {i : Int} (h0 : 0 ≤ i) (h1 : i < 18446744073709551616) : i.natAbs < 2 ^ 64 := by
  have e : (2 : Nat) ^ 64 = 18446744073709551616 := by decide
  rw [e]
  omega
theorem mix_ok {x i a b c : Int} (h0 : 0 ≤ x) (h1 : x < 4294967296) (h2 : 0 ≤ i) (h3 : i ≤ 1000000) (ha : 0 ≤ a ∧ a ≤ 1000000) (hb : 0 ≤ b ∧ b ≤ 1000000) (hc : 0 ≤ c ∧ c ≤ 1000000) : (x * (2 * i + a) + b * i * i + c).natAbs < 2 ^ 64 := by
  have hii : 0 ≤ i * i ∧ i * i ≤ 1000000 * 1000000 := ⟨Int.mul_nonneg h2 h2, Int.mul_le_mul h3 h3 h2 (by decide)⟩
  have hxi : 0 ≤ x * (2 * i + a) ∧ x * (2 * i + a) ≤ 4294967296 * 4000000 := ⟨Int.mul_nonneg h0 (by omega), Int.mul_le_mul (by omega) (by omega) (by omega) (by decide)⟩
  have hbi : 0 ≤ b * (i * i) ∧ b * (i * i) ≤ 1000000 * (1000000 * 1000000) := ⟨Int.mul_nonneg hb.1 hii.1, Int.mul_le_mul hb.2 hii.2 hii.1 (by decide)⟩
  have e : b * i * i = b * (i * i) := Int.mul_assoc _ _ _
  refine pow_lt ?_ ?_ <;> (rw [e]; omega)
theorem mod_lt (x : Int) {m : Int} (h : 0 < m) : 0 ≤ x % m ∧ x % m < m := ⟨Int.emod_nonneg _ (by omega), Int.emod_lt_of_pos _ h⟩
theorem cut_all {xs : List V} {n : Nat} (h : xs.length ≤ n) : cutV xs none (some (n : Int)) = xs := by
  unfold cutV
  rw [HT.sIx_none, HT.sIx_nat, Nat.min_eq_right h, List.drop_zero, Nat.sub_zero]
  exact List.take_length
abbrev rInt1 : List V → Hp → VK → Prop := fun xs H Q => (∃ i, xs = [V.int i] ∧ Q (V.int i) H) ∨ ∃ k, xs = [V.bl k] ∧ Q (V.int (if k = true then 1 else 0)) H
def tCut (t u : TS) : TS := fun D σ H => ∃ M : L2.St → Hp → Prop, t { D with nx := M } σ H ∧ ∀ σ' H', M σ' H' → u D σ' H'
theorem pss_cut {X : Cx} {st : Stmt} {rest : List Stmt} {t u : TS} (h1 : PS X st t) (h2 : PSs X rest u) : PSs X (st :: rest) (tCut t u) := by
  refine ⟨fun pins s σ H D I h => ?_⟩
  obtain ⟨M, hm, hu⟩ := h
  refine wpAny_execs_cons (thn (h1.run pins s σ H { D with nx := M } I hm) fun f s1 q => ?_)
  cases f with
  | next =>
    obtain ⟨σ1, H1, I1, q1⟩ := q
    exact h2.run pins s1 σ1 H1 D I1 (hu σ1 H1 q1)
  | ret v => exact q
  | brk => exact q
  | cont => exact q
end Gh
end
section
set_option Elab.async false
set_option linter.all false
set_option maxRecDepth 100000
set_option maxHeartbeats 4000000
namespace Gh
open PySem PySem.Spec PyProof.Rows L2
theorem PenAt.ne {H : Hp} {p c : Addr} {b : Nat} (h : PenAt H p b) (n : H c = none) : c ≠ p := by
  obtain ⟨d, ns, i, z, h1, _⟩ := h
  exact (ne_of_none h1 n).symm
section
variable {X : Cx} {K : PySem.W.Frag}
theorem ix_listK (h : X.K = K) : IxR X (rIxL K) := h ▸ ix_list
end
end Gh
end
section
set_option Elab.async false
set_option linter.all false
set_option maxRecDepth 100000
set_option maxHeartbeats 4000000
namespace Gh
open PySem PySem.Spec PyProof.Rows L2
theorem exk_ok {P : Program} {w : World} {H : Hp} {h : Heap} {a C d : Addr} {o : Obj} {vs : Array Value} (h1 : h.get? a = some o) (h2 : o.cls = .ref C) (h3 : o.dict = some d) (h4 : o.data = .fields vs) : ObjOk P w H h a (exk a C d) :=
  ⟨⟨o, vs, h1, h2, h3, h4⟩, ⟨o, h1⟩, fun _ _ z k => by
    obtain ⟨o, vs, h1, h2, h3, h4⟩ := z
    exact ⟨o, vs, k _ h1, h2, h3, h4⟩⟩
theorem exk_at {P : Program} {w : World} {H : Hp} {h : Heap} {a C d : Addr} (hok : HOk P w H h) (e : H a = some (exk a C d)) : ∃ (o : Obj) (vs : Array Value), h.get? a = some o ∧ o.cls = .ref C ∧ o.dict = some d ∧ o.data = .fields vs :=
  (show ObjOk P w H h a (exk a C d) from hok a _ e).1
structure ErrT (K : PySem.W.Frag) (C : Addr) : Prop where
  hg : PySem.W.findIn K (.ref C) "__getattribute__" = some (some (.builtin "BaseException.__getattribute__"))
  hk : PySem.W.findIn K (.ref C) "__getattr__" = some none
  hs : PySem.W.subIn K (.ref C) (.type "BaseException") = some true
  hd : PySem.W.hasDictIn K C = true
  ha : PySem.W.findIn K (.ref C) "__class__" = some (some (.builtin "object.__class__"))
  hn : PySem.W.specialIn K (.builtin "object.__class__") "__get__" = some (some (.builtin "getset_descriptor.__get__"))
  htk : PySem.W.takesIn K (.builtin "object.__class__") = some true
  hm : PySem.W.mroIn K C (.type "object") = some true
theorem errB_ok {x : Str} {K : PySem.W.Frag} (h : errB x K = true) : ErrT K (gd x K) := by
  obtain ⟨h1, h⟩ := He.ba h
  obtain ⟨h2, h⟩ := He.ba h
  obtain ⟨h3, h⟩ := He.ba h
  obtain ⟨h4, h⟩ := He.ba h
  obtain ⟨h5, h⟩ := He.ba h
  obtain ⟨h6, h⟩ := He.ba h
  obtain ⟨h7, h8⟩ := He.ba h
  exact ⟨He.eqO_ok h1, He.eqO_ok h2, of_decide_eq_true h3, h4, He.eqO_ok h5, He.eqO_ok h6, of_decide_eq_true h7, of_decide_eq_true h8⟩
section
variable {X : Cx} {e : Expr} {te : TE} {pos : Pos} {n : Str}
theorem exk_inst {pins : List (Addr × Obj)} {σ : L2.St} {H : Hp} {s : Shared} {a C d : Addr} {fs : List (Str × V)} (I : Inv X pins σ H s) (h1 : H a = some (exk a C d)) (h2 : H d = some (.xd fs)) :
    ∃ o od mA, PySem.W.InstAt s.heap a o C (some od) ∧ s.heap.Ns1 d mA ∧ (∀ f, RelO (fs.lookup f) (mA f)) ∧ s.heap.get? d = some od := by
  obtain ⟨o, vs, k1, k2, k3, k4⟩ := exk_at I.hok h1
  obtain ⟨mA, hns, hr⟩ := (show ObjOk X.prog X.w H s.heap d (.xd fs) from I.hok d _ h2)
  obtain ⟨od, ho, hl⟩ := lookIn_ns hns
  exact ⟨o, od, mA, ⟨k1, k2, by unfold PySem.W.notCls; rw [k4] <;> rfl, by rw [k3]; exact ho⟩, hns, hr, ho⟩
def tXa (K : PySem.W.Frag) (n : Str) (te : TE) : TE := fun σ H Q => te σ H fun x H1 => ∃ (a C d : Addr) (fs : List (Str × V)) (v : V), x = .ref a ∧ H1 a = some (exk a C d) ∧ ErrT K C ∧ PySem.W.findIn K (.ref C) n = some none ∧ H1 d = some (.xd fs) ∧ fs.lookup n = some v ∧ Q v H1
theorem pe_xa {K : PySem.W.Frag} (hK : X.K = K) (he : PE X e te) (hb : attributeBase e n X.env (eval e X.env) = eval e X.env := by rfl) : PE X (.Attribute e n pos) (tXa K n te) := by
  subst hK
  refine ⟨fun pins s σ H Q I h => ?_⟩
  refine attr_of hb (thn (he.run pins s σ H _ I h) fun u s1 hh => ?_)
  obtain ⟨x, H1, I1, rx, a, C, d, fs, v, ex, ea, T, hno, ed, l, q⟩ := hh
  subst ex
  obtain rfl : u = Value.ref a := rx
  obtain ⟨o, vs, k1, k2, k3, k4⟩ := exk_at I1.hok ea
  obtain ⟨mA, hns, hr⟩ := (show ObjOk X.prog X.w H1 s1.heap d (.xd fs) from I1.hok d _ ed)
  obtain ⟨od, ho, hl⟩ := lookIn_ns hns
  obtain ⟨u, hu, ru⟩ := RelO.some_of (v := v) (o := mA n) (by rw [← l]; exact hr n)
  have J : PySem.W.InstAt s1.heap a o C (some od) := ⟨k1, k2, by unfold PySem.W.notCls; rw [k4] <;> rfl, by rw [k3]; exact ho⟩
  exact HandSPX.exc_get I1.kIn J T.hg T.hk T.hs (PySem.W.findObj_own T.hd hno rfl (by rw [hl, hu])) (handed_of ru) ⟨v, H1, I1.tok _, ru, q⟩
def rIsiZ (K : PySem.W.Frag) : List V → Hp → VK → Prop := fun xs H Q => rIsi K xs H Q ∨ ∃ (a C d : Addr) (fs : List (Str × V)) (c : V) (u : Value) (b : Bool), xs = [.ref a, c] ∧ ClsV c u ∧ H a = some (exk a C d) ∧ H d = some (.xd fs) ∧ ErrT K C ∧ PySem.W.kitOne K (.ref C) u = some b ∧ Q (.bl b) H
theorem call_isiZ {K : PySem.W.Frag} (hK : X.K = K) : CallR X (.builtin "isinstance") (rIsiZ K) := by
  subst hK
  intro pins s σ H xs us Q I r h
  rcases h with h | ⟨a, C, d, fs, c, u, b, rfl, k, ea, ed, T, e, q⟩
  · exact call_isi pins s σ H xs us Q I r h
  · obtain ⟨u1, u2, rfl, r1, r2⟩ := vals2 r
    obtain rfl : u1 = Value.ref a := r1
    have e2 := k.eq r2
    subst e2
    obtain ⟨o, od, mA, J, _⟩ := exk_inst I ea ed
    have hcl : (PySem.W.clsIn X.K C).isSome = true := by
      obtain ⟨cd, hc, _⟩ := PySem.W.any_some T.hd
      rw [hc]
      rfl
    exact PySem.W.kia_one (PySem.W.kitx_exc hcl T.hg T.hk T.hs T.ha T.hn T.htk T.hm) I.kIn J e (fun z => nomatch z) fun tk => ⟨.bl b, H, I.tok tk, rfl, q⟩
end
theorem inv_track {X : Cx} {pins : List (Addr × Obj)} {σ : L2.St} {H : Hp} {s : Shared} {a : Addr} {o : HO} (I : Inv X pins σ H s) (hn : H a = none) (n0 : X.s_0.heap.get? a = none) (nL : a ≠ X.env.locals) (nC : ∀ x c, X.env.cells.lookup x = some c → c ≠ a) (nP : ∀ p ∈ X.pn ++ pins, p.1 ≠ a)
    (ok : ObjOk X.prog X.w (upd H a o) s.heap a o) : Inv X pins σ (upd H a o) s := by
  have ne : ∀ {b : Addr} {u : HO}, H b = some u → b ≠ a := fun e => ne_of_none e hn
  refine ⟨I.ok, I.os, I.bare, ⟨I.base.keep, I.base.slot, fun b u e n hx => ?_, I.base.there, fun b xs e => ?_, fun b u v e => ?_, fun b ps e => ?_⟩, I.loc, I.cell, ?_, fun x c e => ?_, fun p hp => ?_, fun b u e => ?_, I.len⟩
  · rw [upd_ne (fun z => by rw [z, n0] at e; cases e)]
    exact I.base.free b u e n hx
  · have z := I.base.tups b xs e
    rw [upd_ne (ne z)]
    exact z
  · have z := I.base.frzs b u v e
    rw [upd_ne (ne z)]
    exact z
  · obtain ⟨more, z⟩ := I.base.tbls b ps e
    exact ⟨more, by rw [upd_ne (ne z)]; exact z⟩
  · rw [upd_ne nL.symm]
    exact I.free
  · rw [upd_ne (nC x c e)]
    exact I.freeC x c e
  · obtain ⟨z1, z2, z3⟩ := I.pin p hp
    exact ⟨z1, by rw [upd_ne (nP p hp)]; exact z2, z3⟩
  · by_cases hb : b = a
    · subst hb
      rw [upd_same] at e
      cases e
      exact ok
    · rw [upd_ne hb] at e
      exact (I.hok b u e).stay (fun _ _ _ q => q) (fun c hc => by rw [upd_ne (ne hc)]; exact hc) (fun c xs hc => by rw [upd_ne (ne hc)]; exact hc)
def wAsK (K : PySem.W.Frag) (c : Value) (i : Nat) (ts : Addr → Value → Option Addr → TS) (Wout : WX) (D : Ends) : WX := fun cls d σ H =>
  ∃ b, PySem.W.exmOne K cls c = some b ∧ (b = true → ∃ C dd, cls = .ref C ∧ d = some dd ∧ ∀ a, H a = none → ts a cls d { nx := fun σ' H' => H' a = none → D.nx (σ'.set i none) (upd H' a (exk a C dd)), rt := D.rt, bk := fun σ' H' => D.bk (σ'.set i none) H', ct := fun σ' H' => D.ct (σ'.set i none) H' } (σ.set i (some (.ref a))) H) ∧
    (b = false → Wout cls d σ H)
section
variable {X : Cx} {x n : Str} {c : Value} {i : Nat} {body suite : List Stmt} {b₀ : Stmt} {np pos pos' : Pos} {tb : WX → TS} {ts : Addr → Value → Option Addr → TS} {Wout : WX}
theorem ps_try_keep (hex : X.ex = []) (hs : X.stack = X.env :: X.outer) (hf : X.env.frame = some X.env.locals) (hN : X.N.Nodup) (hi : X.N[i]? = some n) (hln : X.env.kindOf n = some .local) (hc : Names X x c) (tk : Takes X Wout)
    (hb : ∀ (W : WX) (pn : List (Addr × Obj)) (xe : Value → Shared → Prop), Takes (X.tr pn xe) W → PassesOwn (model X.prog X.w) X.A X.env xe → PSs (X.tr pn xe) body (tb W))
    (hsu : ∀ (a : Addr) (oe : Obj) (cls : Value) (d : Option Addr) (pn : List (Addr × Obj)), Zc cls d oe → (∃ vs, oe.data = .fields vs) → PSs (X.suite a ((a, oe) :: pn)) (b₀ :: suite) (ts a cls d)) :
    PS X (.Try body [.ExceptHandler (some (.Name x np)) (some n) (b₀ :: suite) pos'] [] [] pos) (fun D σ H => tb (wAsK X.K c i ts Wout D) D σ H) := by
  refine ⟨fun pins s σ H D I h => ?_⟩
  have ok := I.ok
  have hfr : X.A.frames = some (X.env :: X.outer) := by rw [ok.frames, hs]
  have hloc : Loc X.env.scope n := .inl hln
  refine wpAny_Try_except ?_
  refine wpAny_mono ((hb (wAsK X.K c i ts Wout D) (X.pn ++ pins) (fun e s₁ => wpAny (model X.prog X.w) X.A (noteFrame e X.env) (fun _ s₂ => wpAny (model X.prog X.w) X.A (setFlight e none) (fun _ s₃ =>
    wpAny (model X.prog X.w) X.A (handleBy e X.env [.ExceptHandler (some (.Name x np)) (some n) (b₀ :: suite) pos']) (SP X pins D) X.xe s₃) X.xe s₂) X.xe s₁) (fun u s' xx => ?_) PassesOwn.looking).run [] s σ H D (I.toTry _) h) (fun f s1 hsp => ?_) (fun e s1 he => he)
  · -- the catch
    obtain ⟨a, B, sI, pins', σ', H', cls, d, rfl, J', nb, up, sky, na, os, ag, b, hb1, hyes, hno⟩ := xx
    have nB : B.get? a = none := by
      rcases sky with z | z | z
      · exact z.2.1
      · exact z.2.1
      · exact z.2.1
    have J : Inv X pins σ' H' sI := J'.ofTry ok
    have sky' : Sky B (X.env :: X.outer) a (Zc cls d) X.env.locals s'.heap := by rw [← hs]; exact sky
    show wpAny (model X.prog X.w) X.A (noteFrame (.ref a) X.env) _ _ _
    refine Sky.land Zc.steady hfr hf sky' fun h3 fl3 up3 => ?_
    have J3 : Inv X pins σ' H' { s' with heap := h3 } := J.landed nb fl3.1 (up.trans up3) os ag
    obtain ⟨oe3, vs3, he3, hz3, hd3⟩ := fl3.there
    have notFr : ∀ {h : Heap} {o : Obj} {vs : Array Value}, h.FunFrames B (X.env :: X.outer) → h.get? a = some o → o.data = .fields vs → a ∉ frs (X.env :: X.outer) := fun {h o vs} ff e dd hm => by
      obtain ⟨_, o', e', hnf⟩ := ff.mem hm
      rw [e] at e'; cases e'
      exact hnf _ dd
    have nfr := notFr fl3.2.2.1 he3 hd3
    have nL : a ≠ X.env.locals := fun z => nfr (List.mem_filterMap.mpr ⟨X.env, List.mem_cons_self, by rw [hf, z]⟩)
    have nF : a ∉ X.fs := fun hm => by
      obtain ⟨e, he, q⟩ := List.mem_filterMap.mp hm
      exact nfr (List.mem_filterMap.mpr ⟨e, List.mem_cons_of_mem _ he, q⟩)
    have nsI : sI.heap.get? a = none := by
      cases q : sI.heap.get? a with
      | none => rfl
      | some o =>
        have z := nb a o q (by rw [hs]; exact nfr)
        rw [nB] at z
        cases z
    have n0 : X.s_0.heap.get? a = none := by
      cases q : X.s_0.heap.get? a with
      | none => rfl
      | some o =>
        obtain ⟨o', z⟩ := J.base.there a o q (by rw [hex]; simp)
        rw [nsI] at z
        cases z
    have nP : ∀ p ∈ X.pn ++ pins, p.1 ≠ a := fun p hp z => by
      have y := (J.pin p hp).1
      rw [z, nsI] at y
      cases y
    have nC : ∀ x c, X.env.cells.lookup x = some c → c ≠ a := fun x c hx z => by
      obtain ⟨v, y⟩ := J.cell x c hx
      obtain ⟨o, y1, _⟩ := y
      rw [z, nsI] at y1
      cases y1
    have S3 := J3.suite he3 hd3 na nL nF
    refine wpAny_handleBy_cons (codeAny_handlers_test ?_) (by intro q; cases q)
    have LT : PySem.W.Looks (model X.prog X.w) h3 (typeOf (.ref a)) cls := fun A Q E s k q => wpAny_typeOf_ref (k _ _ he3) (by rw [hz3.1]; exact q)
    have LM := PySem.W.exm_one (M := model X.prog X.w) (J3.kIn) LT hb1
    have test : ∀ {Q : Value → Shared → Prop} {E : Value → Shared → Prop}, Q c { s' with heap := h3 } → wpAny (model X.prog X.w) (X.A.mark (some (.ref a))) (eval (.Name x np) X.env) Q E { s' with heap := h3 } := fun {Q E} q => by
      obtain ⟨hg, hdbg, hm | ⟨hm, hv, hnn⟩⟩ := hc
      · exact ld_glob (X := X.suite a ((a, oe3) :: (X.pn ++ pins))) S3 hg hm q hdbg
      · exact ld_blt (X := X.suite a ((a, oe3) :: (X.pn ++ pins))) S3 hg hm hv q hnn hdbg
    refine test (LM.here ?_)
    cases b with
    | true =>
      refine codeAny_handlers_suite_as ?_
      obtain ⟨C, dd, ecls, edd, hys⟩ := hyes rfl
      subst ecls
      subst edd
      refine HandSPX.lands_againZ fl3 fun h4 fl4 up4 => ?_
      have J4 : Inv X pins σ' H' { s' with heap := h4 } := J.landed nb fl4.1 ((up.trans up3).trans up4) os ag
      obtain ⟨oe4, vs4, he4, hz4, hd4⟩ := fl4.there
      have S4 := J4.suite he4 hd4 na nL nF
      refine store_ok (X := X.suite a ((a, oe4) :: (X.pn ++ pins))) (v := .ref a) S4 hN hi hloc rfl (fun s5 S5 => ?_) (.inr hln)
      refine wpAny_mono ((hsu a oe4 _ _ (X.pn ++ pins) hz4 ⟨_, hd4⟩).run [] s5 _ H' _ S5 (hys a na)) (fun f s6 hsp => ?_) (fun _ _ z => False.elim z)
      have end_ : ∀ {σ6 : L2.St} {H6 : Hp} {Q : Shared → Prop}, Inv (X.suite a ((a, oe4) :: (X.pn ++ pins))) [] σ6 H6 s6 → (∀ s7, Inv X pins (σ6.set i none) H6 s7 → Q s7) →
          wpAny (model X.prog X.w) X.A (do bindName X.env n .none; unbindBehindTheSuite X.env n pos') (fun _ s7 => Q s7) X.xe s6 := fun {σ6 H6 Q} S6 hq => gone_ok (S6.unsuite ok) hN hi hln hq
      cases f with
      | next =>
        obtain ⟨σ6, H6, S6, q6⟩ := hsp
        obtain ⟨ha6, hn6, _⟩ := S6.pin (a, oe4) (List.mem_append_left _ List.mem_cons_self)
        have J6 : Inv X pins σ6 (upd H6 a (exk a C dd)) s6 := inv_track (S6.unsuite ok) hn6 n0 nL nC nP (exk_ok ha6 hz4.1 hz4.2 hd4)
        exact gone_ok J6 hN hi hln fun s7 J7 => ⟨_, _, J7, q6 hn6⟩
      | brk =>
        obtain ⟨σ6, H6, S6, q6⟩ := hsp
        exact end_ S6 fun s7 J7 => ⟨_, _, J7, q6⟩
      | cont =>
        obtain ⟨σ6, H6, S6, q6⟩ := hsp
        exact end_ S6 fun s7 J7 => ⟨_, _, J7, q6⟩
      | ret u =>
        obtain ⟨v6, σ6, H6, S6, r6, q6⟩ := hsp
        exact end_ S6 fun s7 J7 => ⟨_, _, _, J7, r6, q6⟩
    | false =>
      show wpAny _ X.A (handleBy (.ref a) X.env []) _ _ _
      refine wpAny_handleBy_nil ?_
      obtain ⟨k1, k2, k3, oe, vs, T, oT, ts', he, hz, hd, h1, hr⟩ := id fl3
      unfold PySem.passOn
      refine wpAny_bind (wpAny_field he hd h1 ?_)
      rw [if_neg (show ¬ ((Value.ref T == Value.none) = true) from by simp)]
      have fin : wpAny (model X.prog X.w) X.A (setFlight (.ref a) X.env.frame) (fun _ s4 => wpAny (model X.prog X.w) X.A (throw (.ref a) : Sem Flow) (SP X pins D) X.xe s4) X.xe { s' with heap := h3 } := by
        rw [hf]
        refine HandSPX.setFlight_upZ fl3 fun h4 hh4 up4 => wpAny_throw (tk _ _ ?_)
        exact ⟨a, B, sI, pins, σ', H', cls, d, rfl, J, nb, (up.trans up3).trans up4, .inr (.inr (by rw [hs]; exact hh4)), na, os, ag, hno rfl⟩
      first
        | exact wpAny_bind (wpAny_pure (wpAny_bind fin))
        | exact wpAny_bind fin
  · cases f with
    | next =>
      obtain ⟨σ', H', J', q⟩ := hsp
      exact wpAny_execs_nil ⟨σ', H', J'.ofTry ok, q⟩
    | brk =>
      obtain ⟨σ', H', J', q⟩ := hsp
      exact ⟨σ', H', J'.ofTry ok, q⟩
    | cont =>
      obtain ⟨σ', H', J', q⟩ := hsp
      exact ⟨σ', H', J'.ofTry ok, q⟩
    | ret u =>
      obtain ⟨v, σ', H', J', r, q⟩ := hsp
      exact ⟨v, σ', H', J'.ofTry ok, r, q⟩
end
end Gh
end
section
set_option Elab.async false
set_option linter.all false
set_option maxRecDepth 100000
set_option maxHeartbeats 4000000
namespace Gh
open PySem PySem.Spec PyProof.Rows L2
def asS (g : Addr → Option Obj) (n : Nat) : List Addr := He.asD g n ++ [cStatics]
theorem law_callTsG {P : Program} {w : World} {K : PySem.W.Frag} {mg mb : Str → Option Value} {CX : CXT} {k : Nat} {fa a : Addr} {cs : List (Addr × Addr)} {fd : FuncData} {x : Str} {sp : Sp} {s₁ : Shared} {vs : List Value} {ns : List Int}
    (KX : K.In s₁.heap) (hns : s₁.heap.Ns mainGlobals mg) (hb : s₁.heap.Ns builtinsNs mb) (hbb : ∀ x : Str, x ≠ "__name__" → mb x = bootBuiltins x) (hlim : s₁.heap.NoLimit) (hg : s₁.gens = #[])
    (hT : ∀ p ∈ cs, s₁.heap.get? p.2 = some { cls := .none, data := .fields #[] }) (nT : ∀ p ∈ cs, K.lookup p.2 = none) (C : ∀ p ∈ cs, PySem.W.CodeHd s₁.heap p.1 p.2)
    (hbm : ∃ (bm : Addr) (ob : Obj), mg "__builtins__" = some (.ref bm) ∧ bm ≠ builtinsNs ∧ s₁.heap.get? bm = some ob ∧ ob.cls = .type "module" ∧ ob.dict = some builtinsNs ∧ ob.data = .plain)
    (ha : s₁.heap.get? a = some { cls := .type "list", data := .seq vs.toArray }) (hi : IntsAre vs ns) (hl : ns.length ≤ sizeLine) (hr : Room k callerA)
    (F : ∀ base : Heap, K.In base → base.Ns mainGlobals mg → (∀ p ∈ cs, LamX.TabB base mg p.1 p.2) → FnG P w K mg base CX k fa fd [x] sp) (hbind : ∀ (s : Shared) (u : Value), BindsTo s fd ⟨[u], []⟩ [(x, u)])
    (hsp : ∀ H : Hp, (∀ p ∈ cs, H p.2 = some (.tbl #[])) → SqL K H a (ns.map V.int) → sp [.ref a] H (fun v _ => v = .bl true) fun _ _ _ => False)
    (hCX : ∀ H e s', CX [] H s₁ (fun _ _ _ => False) e s' → False) :
    codeAny (model P w) callerA (.call (.ref fa) ⟨[.ref a], []⟩) (fun r s' => r = .ok (.ret (.bool true)) ∧ OldK s₁.heap s'.heap ∧ s'.os = s₁.os ∧ AllBare s'.gens) s₁ := by
  have rv := vals_ints hi
  have lenV := hi.length
  have isT : ∀ b : Addr, b ∈ cs.map (·.2) → s₁.heap.get? b = some { cls := .none, data := .fields #[] } := fun b hb => by
    obtain ⟨p, hp, e⟩ := List.mem_map.mp hb
    rw [← e]
    exact hT p hp
  have aT : a ∉ cs.map (·.2) := fun z => by
    have q := isT a z
    rw [ha] at q
    have z' : Data.seq vs.toArray _ = Data.fields #[] := congrArg Obj.data (Option.some.inj q)
    cases z'
  have memT : ∀ p ∈ cs, p.2 ∈ cs.map (·.2) := fun p hp => List.mem_map.mpr ⟨p, hp, rfl⟩
  -- from an abstract heap in which nothing but the script and the tables may be tracked
  have core : ∀ H : Hp, (∀ p ∈ cs, H p.2 = some (.tbl #[])) → (∀ b, H b = none ∨ b ∈ cs.map (·.2) ∨ ∃ o xs, H b = some (.frz o (.lst xs))) → SqL K H a (ns.map V.int) → HOk P w H s₁.heap → (∀ b, H b ≠ none → b = a ∨ b ∈ cs.map (·.2)) → (H a ≠ none → K.lookup a = none) →
      codeAny (model P w) callerA (.call (.ref fa) ⟨[.ref a], []⟩) (fun r s' => r = .ok (.ret (.bool true)) ∧ OldK s₁.heap s'.heap ∧ s'.os = s₁.os ∧ AllBare s'.gens) s₁ := by
    intro H hH hO hS hok hA hK
    have base_of : ∀ {b : Addr} {o : Obj}, s₁.heap.get? b = some o → H b = none → (hidT s₁.heap H).get? b = some o := fun e n => hidT_get e n
    have noD : ∀ {b : Addr} {o : Obj}, s₁.heap.get? b = some o → (∀ vs n, o.data ≠ .seq vs n) → o.data ≠ .fields #[] → H b = none := fun {b o} e h1 h2 => by
      cases q : H b with
      | none => rfl
      | some u =>
        rcases hA b (by rw [q]; simp) with e' | e'
        · rw [e', ha] at e
          cases e
          exact (h1 _ _ rfl).elim
        · rw [isT b e'] at e
          cases e
          exact (h2 rfl).elim
    have noA : ∀ {b : Addr} {o : Obj} {es : Array DictEntry} {ep : Nat}, s₁.heap.get? b = some o → o.data = .dict es ep → H b = none := fun {b o es ep} e d => by
      refine noD e (fun vs n z => ?_) fun z => ?_
      · rw [d] at z
        cases z
      · rw [d] at z
        cases z
    have nsK : ∀ {b : Addr} {m : Str → Option Value}, s₁.heap.Ns b m → (hidT s₁.heap H).Ns b m := fun {b m} ⟨o, es, ep, e, d, r⟩ => ⟨o, es, ep, base_of e (noA e d), d, r⟩
    have hKb : K.In (hidT s₁.heap H) := fun b o e => base_of (KX b o e) (by
      cases q : H b with
      | none => rfl
      | some u =>
        rcases hA b (by rw [q]; simp) with e' | e'
        · rw [e'] at e q
          rw [hK (by rw [q]; simp)] at e
          cases e
        · obtain ⟨p, hp, ep⟩ := List.mem_map.mp e'
          rw [← ep, nT p hp] at e
          cases e)
    have hM : L2.Mod K mg (hidT s₁.heap H) := ⟨hKb, nsK hns, ⟨mb, nsK hb, hbb⟩, let ⟨mc, h1, h2⟩ := hlim; ⟨mc, nsK h1, h2⟩⟩
    have TB : ∀ p ∈ cs, LamX.TabB (hidT s₁.heap H) mg p.1 p.2 := fun p hp => by
      have hTp := hT p hp
      refine ⟨?_, ?_, fun z => ?_⟩
      · obtain ⟨o, us, file, tf, flags, tg, inF, text, tt, e1, r1, r2, r3, r4, r5, r6, r7, r8, hne⟩ := C p hp
        refine ⟨o, us, file, tf, flags, tg, inF, text, tt, base_of e1 (noD e1 (fun vs n z => ?_) fun z => ?_), r1, r2, r3, r4, r5, r6, r7, r8, hne⟩
        · rw [r2] at z
          cases z
        · rw [r2] at z
          cases z
          simp at r3
      · obtain ⟨bm, ob, b1, b2, b3, b4, b5, b6⟩ := hbm
        have nG : bm ≠ mainGlobals := fun q => by
          obtain ⟨o, es, ep, e, hd, _⟩ := hns
          rw [q, e] at b3
          cases b3
          rw [hd] at b6
          cases b6
        have nP : bm ≠ p.2 := fun q => by
          rw [q, hTp] at b3
          cases b3
          cases b6
        refine ⟨bm, ob, b1, b2, nG, nP, base_of b3 (noD b3 (fun vs n z => ?_) fun z => ?_), b4, b5, b6⟩
        · rw [b6] at z
          cases z
        · rw [b6] at z
          cases z
      · obtain ⟨o, es, ep, e, hd, _⟩ := hns
        rw [z, hTp] at e
        cases e
        cases hd
    have e0 : Env0 P w K mg (hidT s₁.heap H) callerA [] s₁ H := ⟨rfl, hM, fun b o e => of_hidT e, Nat.le_of_eq (hidT_size _ _), trivial, fun b hb => absurd (show b ∈ ([] : List Addr) from hb) (by simp), hok, .of_eq hg⟩
    refine codeAny_mono ((F _ hKb (nsK hns) TB).run callerA [] s₁ H ⟨[.ref a], []⟩ [.ref a] [.ref a] _ _ hr rfl e0 (hbind s₁ (.ref a)) (.cons rfl .nil) (hsp H hH hS)) fun r s' h => ?_
    cases r with
    | error e => exact (hCX H e s' h).elim
    | ok fl =>
      cases fl with
      | next => exact False.elim h
      | brk => exact False.elim h
      | cont => exact False.elim h
      | ret u =>
        obtain ⟨v, H', os, bare, un, hok', r', q⟩ := h
        have q' : v = .bl true := q
        subst q'
        obtain rfl : u = Value.bool true := r'
        have key : ∀ b o, b ∉ cs.map (·.2) → s₁.heap.get? b = some o → s'.heap.get? b = some o := fun b o nb e => by
          cases q : H b with
          | none => exact un.keep b o e q (by intro z; exact absurd (show b ∈ ([] : List Addr) from z) (by simp)) (by simp)
          | some u =>
            rcases hO b with z | z | ⟨ob, xs, z⟩
            · rw [q] at z; cases z
            · exact absurd z nb
            · have z2 := un.frzs b ob _ z
              obtain ⟨e1, _⟩ := hok b _ z
              obtain ⟨e2, _⟩ := hok' b _ z2
              rw [e] at e1; cases e1
              exact e2
        have grown : ∀ p ∈ cs, ∃ more : Array Value, s'.heap.get? p.2 = some { cls := .none, data := .fields more } := fun p hp => by
          obtain ⟨more, z⟩ := un.tbls p.2 #[] (hH p hp)
          exact ⟨_, hok' p.2 _ z⟩
        refine ⟨rfl, ⟨fun b o e => ?_, fun b o e => ?_⟩, os, bare⟩
        · by_cases hb : b ∈ cs.map (·.2)
          · obtain ⟨p, hp, ep⟩ := List.mem_map.mp hb
            obtain ⟨more, hm⟩ := grown p hp
            rw [← ep] at e ⊢
            rw [hT p hp] at e
            cases e
            exact .inr (.inl ⟨((C p hp).tab (hT p hp)).isCodeTable, rfl, #[], more, rfl, by rw [Array.empty_append]; exact hm⟩)
          · exact .inl (key b o hb e)
        · by_cases hb : b ∈ cs.map (·.2)
          · obtain ⟨p, hp, ep⟩ := List.mem_map.mp hb
            obtain ⟨more, hm⟩ := grown p hp
            rw [← ep]
            exact ⟨_, hm⟩
          · exact ⟨o, key b o hb e⟩
  cases hk : K.lookup a with
  | some o =>
    have e := KX a o hk
    rw [ha] at e
    cases e
    refine core (fun b => if b ∈ cs.map (·.2) then some (.tbl #[]) else none) (fun p hp => if_pos (memT p hp)) (fun b => ?_) (.inr ⟨_, vs.toArray, _, hk, rfl, rfl, rfl, by rw [List.size_toArray, lenV]; exact hl, by simpa using rv⟩) (fun b u z => ?_) (fun b z => ?_) fun z => absurd (show (if a ∈ cs.map (·.2) then some (HO.tbl #[]) else none) = none from if_neg aT) z
    · by_cases hb : b ∈ cs.map (·.2)
      · exact .inr (.inl hb)
      · exact .inl (if_neg hb)
    · by_cases hb : b ∈ cs.map (·.2)
      · have z' := (if_pos hb).symm.trans z
        cases z'
        exact isT b hb
      · have z' := (if_neg hb).symm.trans z
        cases z'
    · by_cases hb : b ∈ cs.map (·.2)
      · exact .inr hb
      · exact absurd (if_neg hb) z
  | none =>
    refine core (fun b => if b = a then some (.frz { cls := .type "list", data := .seq vs.toArray } (.lst (ns.map V.int))) else if b ∈ cs.map (·.2) then some (.tbl #[]) else none) (fun p hp => (if_neg (show ¬ p.2 = a from fun z => aT (by rw [← z]; exact memT p hp))).trans (if_pos (memT p hp))) (fun b => ?_)
      (.inl (.inr ⟨{ cls := .type "list", data := .seq vs.toArray }, if_pos rfl⟩)) (fun b u z => ?_) (fun b z => ?_) fun _ => hk
    · by_cases hb : b = a
      · exact .inr (.inr ⟨_, _, if_pos hb⟩)
      · by_cases hb2 : b ∈ cs.map (·.2)
        · exact .inr (.inl hb2)
        · exact .inl ((if_neg hb).trans (if_neg hb2))
    · by_cases hb : b = a
      · have z' := (if_pos hb).symm.trans z
        cases z'
        rw [hb]
        exact ⟨ha, by rw [List.length_map]; exact hl, vs, _, rv, ha⟩
      · have z1 := (if_neg hb).symm.trans z
        by_cases hb2 : b ∈ cs.map (·.2)
        · have z' := (if_pos hb2).symm.trans z1
          cases z'
          exact isT b hb2
        · have z' := (if_neg hb2).symm.trans z1
          cases z'
    · by_cases hb : b = a
      · exact .inl hb
      · by_cases hb2 : b ∈ cs.map (·.2)
        · exact .inr hb2
        · exact absurd ((if_neg hb).trans (if_neg hb2)) z
theorem walk_ofTsG {l : PySem.W.OpenLaw} {n k : Nat} {q : Program} {loose : List Str} {XP : (Str → Option Value) → Heap → Prop} {YP : World → Heap → Prop} {d : DefRec} {CX : World → CXT} {x : Str}
    (hn : l.most = some n) (hn2 : n ≤ sizeLine) (hdf : d.params.defaults = []) (hr : Room k callerA)
    (F : ∀ (w : World) (mg : Str → Option Value) (fa : Addr) (h : Heap), YP w h → h.Ns mainGlobals mg → mg d.name = some (.ref fa) →
      ∃ (K : PySem.W.Frag) (fd : FuncData) (cs : List (Addr × Addr)) (sp : Sp), K.In h ∧ (∀ p ∈ cs, h.get? p.2 = some { cls := .none, data := .fields #[] }) ∧ (∀ p ∈ cs, K.lookup p.2 = none) ∧ (∀ p ∈ cs, PySem.W.CodeHd h p.1 p.2) ∧
        (∀ (s : Shared) (u : Value), BindsTo s fd ⟨[u], []⟩ [(x, u)]) ∧
        (∀ (H : Hp) (a : Addr) (ns : List Int), ns.length ≤ n → (∀ p ∈ cs, H p.2 = some (.tbl #[])) → SqL K H a (ns.map V.int) → sp [.ref a] H (fun v _ => v = .bl true) fun _ _ _ => False) ∧
        ∀ base : Heap, K.In base → base.Ns mainGlobals mg → (∀ p ∈ cs, LamX.TabB base mg p.1 p.2) → FnG l.prog w K mg base (CX w) k fa fd [x] sp)
    (hCX : ∀ (w : World) (H : Hp) (s : Shared) (e : Value) (s' : Shared), CX w [] H s (fun _ _ _ => False) e s' → False) :
    PySem.W.WalkO q loose XP YP l.row.toRowW d [] (fun f vs => PySem.call f vs) := by
  refine Att.attach_call hn hdf fun w s₀ s₁ mg mb fa o pm cd doc a vs ns G Y ho hd hcd hmg hobj hints hlen hg => ?_
  obtain ⟨K, fd, cs, sp, KX, hT, nT, C, hb, hsp, hF⟩ := F w mg fa _ Y G.T.g hmg
  exact law_callTsG KX G.T.g G.T.b G.T.builtins G.T.nolimit hg hT nT C G.T.bmain hobj hints (Nat.le_trans hlen hn2) hr hF hb (fun H hH hS => hsp H a ns hlen hH hS) fun H e s' => hCX w H s₁ e s'
end Gh
end
section
set_option Elab.async false
set_option linter.all false
set_option maxRecDepth 100000
set_option maxHeartbeats 4000000
namespace Gh
open PySem PySem.Spec PyProof.Rows L2
theorem FnOk.toG {P : Program} {w : World} {K : PySem.W.Frag} {mg : Str → Option Value} {base : Heap} {CX : CXT} {k : Nat} {f : Addr} {fd : FuncData} {ps : List Str} {sp : Sp} (F : FnOk P w K mg base CX k f fd ps sp) : FnG P w K mg base CX k f fd ps sp :=
  ⟨F.len, fun A o s H a us vs Q E hr _ => F.run A o s H a us vs Q E hr⟩
theorem PromO.toG {P : Program} {w : World} {K : PySem.W.Frag} {mg : Str → Option Value} {base : Heap} {CX : CXT} {k : Nat} {f : Addr} {dvs : List V} {sp : Sp} (F : PromO P w K mg base CX k f dvs sp) : Prom P w K mg base CX k f dvs sp := by
  obtain ⟨fd, ps, ds, G, b, v⟩ := F
  exact ⟨fd, ps, ds, FnOk.toG G, b, v⟩
theorem fnO0 {P : Program} {w : World} {K : PySem.W.Frag} {mg : Str → Option Value} {base : Heap} {CX : CXT} {k : Nat} {f : Addr} {fd : FuncData} {ps : List Str} {sp : Sp} {dvs : List V} {x qual : Str} {params : Arguments} {body : List Stmt} {scope : Scope} {kws : List (Str × V)} {N : List Str}
    (F : FunD K x qual params body scope dvs kws f fd) (S : FnScope N ps scope) (len : ∀ vs H Q E, sp vs H Q E → vs.length = ps.length)
    (hbody : ∀ (cdv : Value) (A : Around) (outer : List Env) (s : Shared) (H : Hp) (vs : List V) (Q : VK) (E : XK), Room k (A.deeper (envOfC qual scope s.heap.objs.size f cdv)) → sp vs H Q E →
      ∃ t, PSs (cxOf CX P w K mg base N qual scope f cdv A outer s H E).nox body t ∧ t { nx := fun _ H' => Q .non H', rt := Q } (start N vs) H) : FnOk P w K mg base CX (k + 1) f fd ps sp :=
  F.ok S len fun cdv A outer s H vs Q E hr h => by
    obtain ⟨t, ht, q⟩ := hbody cdv A outer s H vs Q E hr h
    exact ⟨t, PSs.nox ht, q⟩
section
variable {X : Cx} {CX : CXT} {k : Nat} {f g C : Addr} {sp : Sp} {dvs : List V} {E : XK} {m : Str} {pos : Pos} {o : Expr} {ta : TE}
theorem PromO.make (M : Mk X.K C f) (F : PromOX X CX k f dvs sp) (hr : Room (k + 1) X.A) (hx : Passes CX X E) : CallR X (.ref C) (rMk C sp dvs E) := by
  intro pins s σ H vs us Q I r h
  unfold rMk at h
  obtain ⟨fd, ps, ds, G, b, hd⟩ := F
  exact run_make M G hr b hd hx I r h
theorem pe_po {pp : Addr} (he : PE X o ta) (c : Cls X.K C) (hp : PropOf X.K C m pp g) (F : PromOX X CX k g dvs sp) (hr : Room (k + 1) X.A) (hx : Passes CX X.nox E)
    (hab : attributeBase o m X.env (eval o X.env) = eval o X.env := by rfl) : PE X (.Attribute o m pos) (tPr C sp dvs E ta) := by
  obtain ⟨fd, ps, ds, G, b, hd⟩ := F
  exact pe_prop he c hp G hr b hd hx hab
theorem pass_on (hs : X.stack = X.env :: X.outer) (hf : X.env.frame = some X.env.locals) (hex : X.ex = []) {E₁ : Value → Shared → Prop} (hx : X.xe = fun e s' => wpAny (model X.prog X.w) X.A (leaving X.env e) (fun _ s'' => L2.CX X.prog X.w X.outer X.H_0 X.s_0 E e s'') E₁ s') : Passes (L2.CX X.prog X.w) X E :=
  passes_call (takes_of hs hf hex hx) fun _ _ _ _ h => h
end
theorem oexB_ok {x : Str} {K : PySem.W.Frag} (h : oexB x K = true) : OexC K (gd x K) := by
  obtain ⟨h1, h⟩ := He.ba h
  obtain ⟨h2, h⟩ := He.ba h
  obtain ⟨h3, h⟩ := He.ba h
  obtain ⟨h4, h5⟩ := He.ba h
  refine ⟨?_, He.eqO_ok h2, of_decide_eq_true h3, of_decide_eq_true h4, h5⟩
  split at h1
  · rename_i c dd nm bs m bm ns qn hd sn sb ab col dl k0 k1 k2 k3 n k5 e
    obtain ⟨z1, h1⟩ := He.ba h1
    obtain ⟨z2, h1⟩ := He.ba h1
    obtain ⟨z3, h1⟩ := He.ba h1
    obtain ⟨z4, h1⟩ := He.ba h1
    obtain ⟨z5, z6⟩ := He.ba h1
    have y1 := of_decide_eq_true z1
    have y2 := of_decide_eq_true z2
    have y6 := of_decide_eq_true z6
    have y5 : dl = false := by simpa using z5
    subst y1 y6 y5 z4
    refine ⟨nm, qn, ns, bs, bm, sn, sb, ab, col, dd, k0, k1, k2, k3, k5, ?_, z3⟩
    rw [e, y2]
  · cases h1
def spErr1 (C : Addr) (f : Str) : Sp := fun vs H Q _ => ∃ (a : Addr) (v : V), vs = [.ref a, v] ∧ H a = some (exo a C none) ∧ ∀ d, H d = none → d ≠ a → Q .non (upd (upd H d (exd d [(f, v)])) a (exo a C (some d)))
def spErr2 (C : Addr) (f g : Str) : Sp := fun vs H Q _ => ∃ (a : Addr) (v u : V), vs = [.ref a, v, u] ∧ H a = some (exo a C none) ∧ ∀ d, H d = none → d ≠ a → Q .non (upd (upd (upd H d (exd d [(f, v)])) a (exo a C (some d))) d (exd d [(g, u), (f, v)]))
theorem mk_err1 {C : Addr} {f : Str} {v : V} {H : Hp} {Q : XK} (h : ∀ d H', L2.Same H H' → H d = none → H' d = some (.xd [(f, v)]) → Q (.ref C) (some d) H') :
    ([v] : List V).length ≤ 1000 ∧ ∀ a, H a = none → spErr1 C f (.ref a :: ([v] ++ [])) (upd H a (exo a C none)) (fun u H2 => u = .non ∧ ∃ (d : Addr) (fs : List (Str × V)), H2 a = some (exo a C (some d)) ∧ H2 d = some (exd d fs) ∧ H d = none ∧ Q (.ref C) (some d) (upd (del H2 a) d (.xd fs))) (fun _ _ _ => False) := by
  refine ⟨by show 1 ≤ 1000; decide, fun a na => ⟨a, v, rfl, upd_same, fun d nd ne => ⟨rfl, d, [(f, v)], upd_same, ?_, ?_, ?_⟩⟩⟩
  · rw [upd_ne ne, upd_same]
  · rw [upd_ne ne] at nd
    exact nd
  · have nd0 : H d = none := by
      rw [upd_ne ne] at nd
      exact nd
    refine h d _ (fun b u e => ?_) nd0 upd_same
    have hb : b ≠ a := ne_of_none e na
    have hd : b ≠ d := ne_of_none e nd0
    rw [upd_ne hd, del_ne hb, upd_ne hb, upd_ne hd, upd_ne hb]
    exact e
end Gh
end
section
set_option Elab.async false
set_option linter.all false
set_option maxRecDepth 100000
set_option maxHeartbeats 4000000
namespace Gh
open PySem PySem.Spec PyProof.Rows L2
structure StaT (K : PySem.W.Frag) (C : Addr) (m : Str) (p g : Addr) : Prop where
  rd : PySem.W.readsIn K C (.type "type") = true
  ga : PySem.W.specialIn K (.ref C) "__getattribute__" = some (some (.builtin "type.__getattribute__"))
  ty : PySem.W.typeIn K (.ref C) = some (.type "type")
  at_ : PySem.W.findCls K (.ref C) (.type "type") m = some (.get (.builtin "staticmethod.__get__") (.ref p) .none (.ref C))
  rc : ∃ rest, PySem.W.recIn K p "staticmethod" = some (.ref g :: rest)
  kp : PySem.W.keepIn K (.ref g) = true
theorem staB_ok {x m : Str} {K : PySem.W.Frag} (h : staB x m K = true) : StaT K (gd x K) m (He.ma K (He.ga K x) m) (staG x m K) := by
  obtain ⟨h1, h⟩ := He.ba h
  obtain ⟨h2, h⟩ := He.ba h
  obtain ⟨h3, h⟩ := He.ba h
  obtain ⟨h4, h⟩ := He.ba h
  obtain ⟨h5, h6⟩ := He.ba h
  refine ⟨h1, He.eqO_ok h2, of_decide_eq_true h3, ?_, ?_, h6⟩
  · split at h4
    · rename_i b p C e
      obtain ⟨z1, z⟩ := He.ba h4
      obtain ⟨z2, z3⟩ := He.ba z
      rw [e, of_decide_eq_true z1, of_decide_eq_true z2, of_decide_eq_true z3]
    · cases h4
  · unfold staG
    split at h5
    · rename_i g r e
      rw [e]
      exact ⟨r, rfl⟩
    · cases h5
section
variable {X : Cx} {CX : CXT} {k : Nat} {f g C : Addr} {sp : Sp} {dvs : List V} {E : XK} {m : Str} {apos pos : Pos} {o e : Expr} {es : List Expr} {ta : TE} {t : TA} {r : List V → Hp → VK → Prop}
def tSm (C : Addr) (r : List V → Hp → VK → Prop) (ta : TE) (t : TA) : TE := fun σ H Q => ta σ H fun x H1 => x = .ref C ∧ t σ H1 fun vs H2 => r vs H2 Q
theorem pe_sm {p : Addr} {pl : Sem Bool} (he : PE X o ta) (c : StaT X.K C m p g) (R : CallR X (.ref g) r) (ha : PA X (e :: es) t)
    (hst : starEach (e :: es) X.env = (false, eval e X.env) :: starEach es X.env := by rfl) (hpl : (backTo pos (starEach es X.env)).any (·.1) = false := by rfl)
    (ht : eval (.Call (.Attribute o m apos) (e :: es) [] pos) X.env = (do
      let ov ← eval o X.env
      standAt apos.atName
      let (f, first) ← holding [ov] (getMethod ov m pl)
      callWith pos f first (backTo pos (starEach (e :: es) X.env)) (backToKw pos (keywordEach [] X.env))) := by rfl) :
    PE X (.Call (.Attribute o m apos) (e :: es) [] pos) (tSm C r ta t) := by
  refine ⟨fun pins s σ H Q I h => ?_⟩
  refine PySem.W.methodCall_KW (pl := pl) (thn (he.run pins s σ H _ I h) fun u s1 ⟨x, H1, I1, rx, ex, q⟩ => ?_) ht
  subst ex
  obtain rfl : u = Value.ref C := rx
  obtain ⟨mm, fr⟩ := I1.fr
  obtain ⟨rest, hrc⟩ := c.rc
  refine PySem.W.method_of_cls fr I1.ok.mod.kin c.ga (PySem.W.cls_sm fr I1.ok.mod.kin c.ty c.rd c.at_ hrc rfl ?_)
  have I2 := I1.tok (s1.toks + 1)
  refine PySem.W.callWith_K (h₀ := X.base) I2.ok.mod.kin c.kp (thn (ha.run pos pins _ σ H1 _ I2 q) fun us s2 ⟨vs, H2, I3, rv, q2⟩ => ⟨I3.kIn, ?_⟩) hst hpl
  exact R pins s2 σ H2 vs us Q I3 rv q2
end
end Gh
end
section
set_option Elab.async false
set_option linter.all false
set_option maxRecDepth 100000
set_option maxHeartbeats 4000000
namespace PySem.W
open Lean Elab Tactic Meta PySem PySem.Calls PyProof.Rows
section
variable {prog : Program} {w : World} {A : Around} {E : Value → Shared → Prop} {s : Shared} {K : Frag} {x C L f g : Addr} {h₀ : Heap} {m : Str → Option Value} {ox : Obj} {od : Option Obj}
theorem gh_try_mul {k : Int} {t : Tok} {Q : Option Value → Shared → Prop} (hx : s.heap.get? x = some ox) (hd : ox.data = .plain) (h : Q none s) : wpAny (model prog w) A (tryMethod (.int k t) "__mul__" (.ref x)) Q E s := by
  unfold tryMethod
  refine wpAny_bind (wpAny_callSpecial?_slot (typeIs_int s k t) F.slot_int_mul (wpAny_call_entry F.slot_int_mul (typeIs_int s k t) F.entry_int_mul ?_ (F.args_int_mul_2 _ _)))
  obtain ⟨hp, g, d, tk, os⟩ := s
  wp_walk using AutoSeq1.wpAny_loadPart' hx
  rw [hd]
  refine wpAny_pure ?_
  wp_walk
  exact ⟨_, rfl, wpAny_pure h⟩
theorem gh_rmul {k : Int} {t : Tok} {Q : Value → Shared → Prop} (F' : Fr h₀ L s.heap m) (X₀ : K.In h₀) (I : InstAt s.heap x ox C od) (hd : ox.data = .plain) (hc : selfFirst K C = true) (hs : findIn K (.ref C) (PySem.dunder "mul") = some (some (.ref f)))
    (hr : findIn K (.ref C) (dunderR "mul") = some (some (.ref g))) (hf : isFn K (.ref g) = true) (hsub : subIn K (.ref C) (.type "int") = some false)
    (h : wpAny (model prog w) A (call (.ref g) [.ref x, .int k t]) (CmpBack Q) E s) : wpAny (model prog w) A (binaryOp .Mult (.int k t) (.ref x)) Q E s := by
  have X := X₀.keeps F'.keep
  obtain ⟨cd, rest, hcd, hm⟩ := ksp_first hc
  have one := ksp_try X I hr hf h
  have zero : wpAny (model prog w) A (tryMethod (.int k t) (PySem.dunder "mul") (.ref x)) (fun r s' => r = none ∧ s' = s) E s := gh_try_mul I.at_ hd ⟨rfl, rfl⟩
  obtain ⟨hh, gg, d, tt, os⟩ := s
  have L1 : Looks (model prog w) hh (typeOf (.int k t)) (.type "int") := Looks.of_pure rfl
  have L2 : Looks (model prog w) hh (typeOf (.ref x)) (.ref C) := I.type
  have L3 : Looks (model prog w) hh (fillsNumberSlot (.type "int") "mul") true := Looks.of_pure F.fills_int_mul
  have L4 : Looks (model prog w) hh (fillsNumberSlot (.ref C) "mul") true := fills_K X hcd hm hs
  have L5 : Looks (model prog w) hh (isSubtype (.ref C) (.type "int")) false := looks_subIn X hsub
  have L7 : Looks (model prog w) hh (numberSlotInPython (.type "int") "mul") false := Looks.of_pure rfl
  have hne : (Value.type "int" == Value.ref C) = false := Bool.eq_false_iff.mpr fun q => by cases beq_iff_eq.mp q
  have hi : (Operator.Mult).info = ("*", "mul") := rfl
  simp only [binaryOp, hi]
  refine wpAny_holding (wpAny_bind ?_)
  unfold binaryOp1
  refine wpAny_bind (L1.at (wpAny_bind (L2.at (wpAny_bind (L3.at ?_)))))
  simp only [hne, Bool.false_eq_true, if_false]
  ksp_lk
  refine wpAny_mono zero (fun r s' hr' => ?_) fun _ _ e => e
  obtain ⟨rfl, rfl⟩ := hr'
  ksp_lk
  refine wpAny_mono one (fun r s' hr' => ?_) fun _ _ e => e
  obtain ⟨v, rfl, hq⟩ := hr'
  ksp_lk
  exact hq
end
end PySem.W
namespace Gh
open PySem PySem.Spec PyProof.Rows L2
@[irreducible] def rRmul (C : Addr) (r : List V → Hp → VK → Prop) : R2 := fun x y H Q => ∃ a dx fs i, x = .int i ∧ y = .ref a ∧ H a = some (.ins C dx fs) ∧ r [y, x] H Q
theorem op_rmul {X : Cx} {C f g : Addr} {r : List V → Hp → VK → Prop} (hc : PySem.W.selfFirst X.K C = true) (hs : PySem.W.findIn X.K (.ref C) "__mul__" = some (some (.ref f))) (hr : PySem.W.findIn X.K (.ref C) "__rmul__" = some (some (.ref g)))
    (hf : PySem.W.isFn X.K (.ref g) = true) (hsub : PySem.W.subIn X.K (.ref C) (.type "int") = some false) (R : CallR X (.ref g) r) : OpR X (binaryOp .Mult) (rRmul C r) := by
  intro pins s σ H x y v u Q I rx ry h
  unfold rRmul at h
  obtain ⟨a, dx, fs, i, rfl, rfl, ha, q⟩ := h
  cases (show u = Value.ref a from ry)
  obtain ⟨t, z⟩ := (show ∃ t, v = Value.int i t from rx)
  subst z
  obtain ⟨ox, od, J, hd⟩ := StX.insC_at I (.inr ⟨dx, fs, ha⟩)
  obtain ⟨m, hF⟩ := I.fr
  refine PySem.W.gh_rmul hF I.ok.mod.kin J hd hc hs hr hf hsub ?_
  exact wpAny_mono (R pins s σ H [.ref a, .int i] [.ref a, .int i t] Q I (.cons rfl (.cons ⟨t, rfl⟩ .nil)) q) (fun w s' z => cmp_back z) fun _ _ x => x
end Gh
end
section
set_option Elab.async false
set_option linter.all false
set_option maxRecDepth 100000
set_option maxHeartbeats 4000000
namespace Gh
open PySem PySem.Spec PyProof.Rows L2
section
variable {X : Cx} {K : PySem.W.Frag}
variable {CX : CXT} {x : Str} {C fI : Addr} {k : Nat} {sp : Sp} {dvs : List V} {e : Expr} {es : List Expr} {ta : TA} {p pos : Pos}
theorem passF : Passes (L2.CX X.prog X.w) X (fun _ _ _ => False) := fun _ _ _ _ _ _ _ h => by
  obtain ⟨_, _, _, _, _, _, _, _, _, _, _, _, z⟩ := h
  exact z.elim
theorem pmk_po (T : OexC X.K C) (iC : PySem.W.findIn X.K (.ref C) "__init__" = some (some (.ref fI))) (tI : PySem.W.typeIn X.K (.ref fI) = some (.type "function")) (F : PromOX X CX k fI dvs sp) (hr : Room (k + 1) X.A) (hx : Passes CX X (fun _ _ _ => False)) (hm : X.mg x = some (.ref C)) (ha : PA X (e :: es) ta) (hg : Gl X x := by rfl)
    (hdb : (x == ("__debug__" : Str)) = false := by decide) (he : starEach (e :: es) X.env = (false, eval e X.env) :: starEach es X.env := by rfl) (hpl : (backTo pos (starEach es X.env)).any (·.1) = false := by rfl) : PMk X (.Call (.Name x p) (e :: es) [] pos) (tMkO C sp dvs ta) := by
  obtain ⟨fd, ps, ds, G, b, hd⟩ := F
  exact pmk_oex T iC tI G hr b hd hx hg hm ha hdb he hpl
end
structure IniT (K : PySem.W.Frag) (C f : Addr) : Prop where
  iC : PySem.W.findIn K (.ref C) "__init__" = some (some (.ref f))
  tI : PySem.W.typeIn K (.ref f) = some (.type "function")
theorem iniB_ok {x : Str} {K : PySem.W.Frag} (h : iniB x K = true) : IniT K (gd x K) (md x "__init__" K) := by
  obtain ⟨h1, h2⟩ := He.ba h
  exact ⟨He.eqO_ok h1, of_decide_eq_true h2⟩
theorem PromO.raw {P : Program} {w : World} {K : PySem.W.Frag} {mg : Str → Option Value} {base : Heap} {CX : CXT} {k : Nat} {f : Addr} {sp : Sp} (F : PromO P w K mg base CX k f [] sp) : FnR P w K mg base CX k f sp := by
  obtain ⟨fd, ps, ds, G, b, hd⟩ := F
  have z := G.raw b hd
  intro A outer s H us vs Q E hr e0 r hs
  exact z A outer s H us vs Q E hr e0 r (show sp (vs ++ []) H Q E by rw [List.append_nil]; exact hs)
end Gh
end
section
set_option Elab.async false
set_option linter.all false
set_option maxRecDepth 100000
set_option maxHeartbeats 4000000
namespace Gh
open PySem PySem.Spec PyProof.Rows L2
section
variable {prog : Program} {w : World} {A : Around} {E : Value → Shared → Prop} {s : Shared}
end
theorem PI.or {X : Cx} {tg iter : Expr} {w1 w2 : TI} (a : PI X tg iter w1) (b : PI X tg iter w2) : PI X tg iter (fun σ H R => w1 σ H R ∨ w2 σ H R) :=
  ⟨fun pins s σ H R I h => h.elim (a.run pins s σ H R I) (b.run pins s σ H R I)⟩
end Gh
end
section
set_option Elab.async false
set_option linter.all false
set_option maxRecDepth 100000
set_option maxHeartbeats 4000000
namespace Gh
open PySem PySem.Spec PyProof.Rows L2
section
variable {X : Cx} {C f : Addr} {r : List V → Hp → VK → Prop}
@[irreducible] def rSetO (C : Addr) (r : List V → Hp → VK → Prop) : TSet := fun o i v H Q => ∃ a dx fs, o = .ref a ∧ H a = some (.ins C dx fs) ∧ r [o, i, v] H fun _ H' => Q H'
@[irreducible] def rIxO (C : Addr) (sp : Sp) (E : XK) : R2 := fun x y H Q => ∃ a dx fs, x = .ref a ∧ H a = some (.ins C dx fs) ∧ sp [x, y] H Q E
end
end Gh
end
section
set_option Elab.async false
set_option linter.all false
set_option maxRecDepth 100000
set_option maxHeartbeats 4000000
namespace Gh
open PySem PySem.Spec PyProof.Rows L2
theorem codeOf_fn {K : PySem.W.Frag} {x qual : Str} {params : Arguments} {body : List Stmt} {scope : Scope} {dvs : List V} {kws : List (Str × V)} {fd : FuncData} {p : Str × Option Str} (F : FunD K x qual params body scope dvs kws (He.fAd K p) fd) : fd.code = .ref (He.codeOf K p) := by
  obtain ⟨oc, od, dV, kV, doc, pm, an, cdv, ct, osl, rfl, lk, hcd, _, _⟩ := F.ex
  obtain ⟨c, rfl⟩ := He.codeIn_ref hcd
  exact (congrArg Value.ref (He.codeOf_eq lk rfl)).symm
section
variable {K : PySem.W.Frag} {H H' : Hp}
theorem sqL_extN {a : Addr} {xs : List V} (h : SqL K H a xs) (s : LamX.ExtN H H') : SqL K H' a xs := by
  rcases h with (h | ⟨o, h⟩) | h
  · exact .inl (.inl (s _ _ h (fun _ z => by cases z)))
  · exact .inl (.inr ⟨o, s _ _ h (fun _ z => by cases z)⟩)
  · exact .inr h
theorem sqT_extN {a : Addr} {xs : List V} (h : SqT K H a xs) (s : LamX.ExtN H H') : SqT K H' a xs := by
  rcases h with (h | ⟨o, h⟩) | h
  · exact .inl (.inl (s _ _ h (fun _ z => by cases z)))
  · exact .inl (.inr ⟨o, s _ _ h (fun _ z => by cases z)⟩)
  · exact .inr h
mutual
theorem dp_extN (s : LamX.ExtN H H') : ∀ {v : V} {d : PyData}, Dp K H v d → Dp K H' v d
  | _, _, .non => .non
  | _, _, .bl b => .bl b
  | _, _, .int i => .int i
  | _, _, .str x => .str x
  | _, _, .lst h a => .lst (sqL_extN h s) (dpAll_extN s a)
  | _, _, .tup h a => .tup (sqT_extN h s) (dpAll_extN s a)
theorem dpAll_extN (s : LamX.ExtN H H') : ∀ {vs : List V} {ds : List PyData}, DpAll K H vs ds → DpAll K H' vs ds
  | _, _, .nil => .nil
  | _, _, .cons a r => .cons (dp_extN s a) (dpAll_extN s r)
end
theorem Shw.extN {v : V} {t : Str} (h : Shw K H v t) (s : LamX.ExtN H H') : Shw K H' v t := by
  cases h with
  | non => exact .non
  | bl b => exact .bl b
  | int i h => exact .int i h
  | str x h => exact .str x h
  | dp a b c d e => exact .dp (dp_extN s a) b c d e
theorem Kd.extN {v : V} (k : Kd H v) (s : LamX.ExtN H H') : Kd H' v := by
  cases k with
  | non => exact .non
  | bl b => exact .bl b
  | int i => exact .int i
  | str x => exact .str x
  | lst h => exact .lst (s _ _ h (fun _ z => by cases z))
  | tup h => exact .tup (s _ _ h (fun _ z => by cases z))
  | dK h => exact .dK (s _ _ h (fun _ z => by cases z))
theorem PenAt.extN {p : Addr} {b : Nat} (h : PenAt H p b) (s : LamX.ExtN H H') : PenAt H' p b := by
  obtain ⟨c, ns, i, z, h1, h2, r⟩ := h
  exact ⟨c, ns, i, z, s _ _ h1 (fun _ z => by cases z), s _ _ h2 (fun _ z => by cases z), r⟩
end
end Gh
end
section
set_option Elab.async false
set_option linter.all false
set_option maxRecDepth 100000
set_option maxHeartbeats 4000000
namespace Gh
open PySem PySem.Spec PyProof.Rows L2
section
variable {H H' : Hp} {p a l : Addr} {o u : HO}
theorem nw_upd (n : H p = none) : Nw H (upd H p o) p o := ⟨n, same_new n, upd_same⟩
theorem mu_upd : Mu H (upd H p o) p o := ⟨Keep.refl.put, upd_same⟩
theorem same_up (n : L2.Same H H') (h : H a = some u) : H' a = some u := n _ _ h
theorem keep_up (n : Keep H H' p) (e : a ≠ p) (h : H a = some u) : H' a = some u := n _ _ h e
theorem Nw.ne (n : Nw H H' l o) (h : H a = some u) : l ≠ a := fun e => by
  rw [← e, n.no] at h
  cases h
end
section
variable {H H' : Hp} {p c a l : Addr} {o u : HO} {b k : Nat} {xs : List V} {C dx : Addr} {fs : List (Str × V)}
theorem Pen.le (h : Pen H p c b) (q : k ≤ b) : Pen H p c k := by
  obtain ⟨ns, i, z, h1, h2, h3, h4, h5, h6⟩ := h
  exact ⟨ns, i, z, h1, h2, h3, h4, by omega, h6⟩
theorem Pen.nw (n : Nw H H' l o) (h : Pen H p c b) : Pen H' p c b := h.same n.same
theorem Pen.mu (n : Mu H H' l o) (e1 : l ≠ p) (e2 : l ≠ c) (h : Pen H p c b) : Pen H' p c b := by
  obtain ⟨ns, i, z, h1, h2, h3⟩ := h
  exact ⟨ns, i, z, n.up e1.symm h1, n.up e2.symm h2, h3⟩
theorem nw_pen (n : Nw H H' l o) (h : Pen H p c b) : l ≠ p := by
  obtain ⟨ns, i, z, h1, h2, h3⟩ := h
  exact n.ne h1
theorem nw_cell (n : Nw H H' l o) (h : Pen H p c b) : l ≠ c := by
  obtain ⟨ns, i, z, h1, h2, h3⟩ := h
  exact n.ne h2
theorem tup_pen (n : H a = some (.tup xs)) (h : Pen H p c b) : a ≠ p := by
  obtain ⟨ns, i, z, h1, h2, h3⟩ := h
  exact ne_of n h1 (by intro e; cases e)
theorem tup_cell (n : H a = some (.tup xs)) (h : Pen H p c b) : a ≠ c := by
  obtain ⟨ns, i, z, h1, h2, h3⟩ := h
  exact ne_of n h2 (by intro e; cases e)
theorem ins_pen (n : H a = some (.ins C dx fs)) (h : Pen H p c b) : a ≠ p := by
  obtain ⟨ns, i, z, h1, h2, h3⟩ := h
  exact ne_of n h1 (by intro e; cases e)
theorem ins_cell (n : H a = some (.ins C dx fs)) (h : Pen H p c b) : a ≠ c := by
  obtain ⟨ns, i, z, h1, h2, h3⟩ := h
  exact ne_of n h2 (by intro e; cases e)
end
section
variable {H H' : Hp} {a t l : Addr} {o u : HO} {xs ys : List V} {C dx : Addr} {fs : List (Str × V)}
theorem ins_lst (h : H a = some (.ins C dx fs)) (k : H t = some (.lst xs)) : a ≠ t := ne_of h k (by intro e; cases e)
theorem ins_tup (h : H a = some (.ins C dx fs)) (k : H t = some (.tup xs)) : a ≠ t := ne_of h k (by intro e; cases e)
theorem tup_lst (h : H a = some (.tup ys)) (k : H t = some (.lst xs)) : a ≠ t := ne_of h k (by intro e; cases e)
theorem nw_ne (n : Nw H H' l o) (h : H a = some u) : l ≠ a := n.ne h
end
def spDr : Sp := fun vs H Q _ => ∃ (p c : Addr) (b : Nat) (m : Int), vs = [.ref p, .int m] ∧ 0 < m ∧ m.natAbs.log2 < 9000 ∧ Pen H p c (b + 1) ∧
  ∀ (d : Int) (H' : Hp), 0 ≤ d → d < m → Pen H' p c b → Keep H H' p → Q (.int d) H'
def spPn (K : PySem.W.Frag) : Sp := fun vs H Q _ => ∃ (a : Addr) (ns : List Int), vs = [.ref a] ∧ SqL K H a (ns.map V.int) ∧ ns.length ≤ 63 ∧ ∀ (p c : Addr) (H' : Hp), H p = none → Pen H' p c 1000000 → L2.Same H H' → Q (.ref p) H'
section
variable {H : Hp} {E : XK} {Q : VK} {p c l : Addr} {b : Nat} {m : Int} {xs : List V}
theorem log_of (h0 : 0 < m) (h : m < 10 ^ 100) : m.natAbs.log2 < 9000 := by
  have h2 : m.natAbs < 2 ^ 9000 := Nat.lt_of_lt_of_le (show m.natAbs < 10 ^ 100 by omega) (by decide)
  exact (Nat.log2_lt (by omega)).mpr h2
end
@[irreducible] def rLn (K : PySem.W.Frag) : List V → Hp → VK → Prop := fun xs H Q => ∃ x n, xs = [x] ∧ LenV K x H n ∧ Q (.int n) H
@[irreducible] def rListOf (K : PySem.W.Frag) : List V → Hp → VK → Prop := fun xs H Q => ∃ p ys, xs = [.ref p] ∧ (SqL K H p ys ∨ SqT K H p ys) ∧ ∀ l, H l = none → Q (.ref l) (upd H l (.lst ys))
@[irreducible] def rTupOf (K : PySem.W.Frag) : List V → Hp → VK → Prop := fun xs H Q => ∃ p ys, xs = [.ref p] ∧ ((SqL K H p ys ∧ ∀ l, H l = none → Q (.ref l) (upd H l (.tup ys))) ∨ (SqT K H p ys ∧ Q (.ref p) H))
@[irreducible] def rInt : List V → Hp → VK → Prop := rInt1
@[irreducible] def rAbs : List V → Hp → VK → Prop := fun xs H Q => ∃ i, xs = [.int i] ∧ Q (.int (if i < 0 then -i else i)) H
@[irreducible] def rStrI : List V → Hp → VK → Prop := fun xs H Q => ∃ i, xs = [.int i] ∧ i.natAbs.log2 < 1920 ∧ Q (.str (toString i)) H
@[irreducible] def rIsN : R2 := fun x y H Q => y = .non ∧ Q (.bl (decide (x = .non))) H
@[irreducible] def rNotN : R2 := fun x y H Q => y = .non ∧ Q (.bl (!decide (x = .non))) H
section
variable {X : Cx} {K : PySem.W.Frag}
theorem cr_len (h : X.K = K) : CallR X (.builtin "len") (rLn K) := by unfold rLn; exact h ▸ call_len
theorem cr_listOf (h : X.K = K) : CallR X (.type "list") (rListOf K) := by unfold rListOf; exact h ▸ call_list_of
theorem cr_int : CallR X (.type "int") rInt := by unfold rInt; exact call_int1
theorem cr_abs : CallR X (.builtin "abs") rAbs := by unfold rAbs; exact call_abs
theorem cr_strI : CallR X (.type "str") rStrI := by unfold rStrI; exact call_str_int
theorem or_isN : OpR X (compareOp .Is) rIsN := by unfold rIsN; exact op_isN
theorem or_notN : OpR X (compareOp .IsNot) rNotN := by unfold rNotN; exact op_notN
theorem sl_listK (h : X.K = K) : SlR X (rSlL K) := h ▸ sl_list
theorem op_neDK (h : X.K = K) (hu : X.A.units + 64 < cLine) : OpR X (compareOp .NotEq) (rNeD K) := h ▸ op_neD hu
@[irreducible] def rFld (C : Addr) (f : Str) : V → Hp → VK → Prop := fun x H Q => ∃ a dx fs v, x = .ref a ∧ H a = some (.ins C dx fs) ∧ fs.lookup f = some v ∧ Q v H
theorem pe_f {C : Addr} {e : Expr} {f : Str} {pos : Pos} {ta : TE} (he : PE X e ta) (c : Cls X.K C) (n : NoAttr X.K C f) (hb : attributeBase e f X.env (eval e X.env) = eval e X.env := by rfl) : PE X (.Attribute e f pos) (tUn (rFld C f) ta) := by
  refine ⟨fun pins s σ H Q I h => ?_⟩
  refine attr_of hb (thn (he.run pins s σ H _ I h) fun u s1 ⟨x, H1, I1, rx, q0⟩ => ?_)
  unfold rFld at q0
  obtain ⟨a, dx, fs, v, ex, ea, l, q⟩ := q0
  subst ex
  obtain rfl : u = Value.ref a := rx
  exact getattr_ok I1 ea c n l fun u' s2 I2 ru => ⟨v, H1, I2, ru, q⟩
@[irreducible] def sF (C : Addr) (ta tv : TE) (f : Str) : TS := fun D σ H => tv σ H fun y H1 => ta σ H1 fun x H2 => ∃ a dx fs, x = .ref a ∧ H2 a = some (.ins C dx fs) ∧ fs.length < 1000 ∧ D.nx σ (upd H2 a (.ins C dx (putF f y fs)))
theorem ps_f {C : Addr} {o value : Expr} {f : Str} {pos pos' : Pos} {ta tv : TE} (ha : PE X o ta) (hv : PE X value tv) (c : Cls X.K C) (n : NoAttr X.K C f) (hs : swapsWith value (some (.Attribute o f pos')) pos.line X.env = pure false := by rfl) : PS X (.Assign [.Attribute o f pos'] value pos) (sF C ta tv f) := by
  refine ⟨fun pins s σ H D I h => ?_⟩
  unfold sF at h
  refine plainObj_wpAny_Assign_Attribute (thn (hv.run pins s σ H _ I h) fun u s1 ⟨y, H1, I1, ry, q⟩ => thn (ha.run pins s1 σ H1 _ I1 q) fun ov s2 ⟨x, H2, I2, rx, a, dx, fs, ex, ea, l, q2⟩ => ?_) hs
  subst ex
  obtain rfl : ov = Value.ref a := rx
  exact setattr_ok I2 ea c n l ry fun s3 I3 => ⟨σ, _, I3, q2⟩
@[irreducible] def rConst (C : Addr) (f : Str) (v : V) : V → Hp → VK → Prop := fun x H Q => ∃ a dx fs, x = .ref a ∧ H a = some (.ins C dx fs) ∧ fs.lookup f = none ∧ Q v H
end
theorem len_ok {n : Nat} (h : n ≤ 100000) : n ≤ sizeLine := Nat.le_trans h (by decide)
@[irreducible] def rPowK (r : Int) : R2 := fun x y H Q => ∃ i j, x = .int i ∧ y = .int j ∧ CPow i j ∧ i ^ j.toNat = r ∧ Q (.int r) H
theorem op_powK {X : Cx} (r : Int) : OpR X (binaryOp .Pow) (rPowK r) := by
  intro pins s σ H x y v u Q I rx ry h
  unfold rPowK at h
  obtain ⟨i, j, h1, h2, h3, h4, q⟩ := h
  exact op_pow pins s σ H x y v u Q I rx ry ⟨i, j, h1, h2, h3, by show Q (.int (i ^ j.toNat)) H; rw [h4]; exact q⟩
section
variable {K : PySem.W.Frag} {H : Hp} {σ : L2.St} {Q : VK} {D : Ends} {i j n : Int} {x y v : V} {ta tb tc te tf : TE} {t u : TS} {c d : TT} {k : Bool} {a l p C dx : Addr} {xs ys : List V} {A B : Prop}
theorem st_seq (h : t { D with nx := u D } σ H) : tSeq t u D σ H := h
theorem st_nx (h : D.nx σ H) : tNext D σ H := h
theorem st_asg {g : TG} (h : te σ H fun x H1 => g x σ H1 D.nx) : tAsg te g D σ H := h
theorem st_name {m : Nat} {Q : L2.St → Hp → Prop} (h : Q (σ.set m (some v)) H) : gName m v σ H Q := h
theorem st_drop (h : te σ H fun _ H1 => D.nx σ H1) : tDrop te D σ H := h
theorem st_ret (h : te σ H D.rt) : tRet te D σ H := h
theorem st_retN (h : D.rt .non H) : tRetN D σ H := h
theorem st_ifS (h : c σ H fun b H1 => if b = true then t D σ H1 else u D σ H1) : tIfS c t u D σ H := h
theorem st_brk (h : D.bk σ H) : tBreak D σ H := h
theorem st_cnt (h : D.ct σ H) : tCont D σ H := h
theorem st_par {m m' : Nat} {t : TA} (h : t σ H fun vs H1 => ∃ v w, vs = [v, w] ∧ D.nx ((σ.set m (some v)).set m' (some w)) H1) : tPar m m' t D σ H := h
theorem st_par2 {P : V → V → Prop} (h : P x y) : ∃ v w, [x, y] = [v, w] ∧ P v w := ⟨x, y, rfl, h⟩
theorem st_aug {m : Nat} {ti : TIp} (e : σ[m]? = some (some x)) (h : te σ H fun y H1 => ti x y H1 fun z H2 => D.nx (σ.set m (some z)) H2) : tAug m te ti D σ H := ⟨x, e, h⟩
theorem st_var {m : Nat} (e : σ[m]? = some (some v)) (h : Q v H) : tVar m σ H Q := ⟨v, e, h⟩
theorem st_c (h : Q v H) : tC v σ H Q := h
theorem st_op {r : R2} (h : ta σ H fun x H1 => tb σ H1 fun y H2 => r x y H2 Q) : tOp r ta tb σ H Q := h
theorem st_un {r : V → Hp → VK → Prop} (h : ta σ H fun x H1 => r x H1 Q) : tUn r ta σ H Q := h
theorem st_rI0 {g : Int → Int → V} (h : Q (g i j) H) : rI0 g (.int i) (.int j) H Q := ⟨i, j, rfl, rfl, h⟩
theorem st_rI {g : Int → Int → V} {R : Int → Int → Prop} (hc : R i j) (h : Q (g i j) H) : rI R g (.int i) (.int j) H Q := ⟨i, j, rfl, rfl, hc, h⟩
theorem st_rU {g : Int → V} (h : Q (g i) H) : rU g (.int i) H Q := ⟨i, rfl, h⟩
theorem st_rAdd (h : Q (.int (i + j)) H) : rAdd (.int i) (.int j) H Q := ⟨i, j, rfl, rfl, h⟩
theorem st_rSub (h : Q (.int (i - j)) H) : rSub (.int i) (.int j) H Q := ⟨i, j, rfl, rfl, h⟩
theorem st_eq (e : scal x y = true) (h : Q (.bl (decide (x = y))) H) : rEq x y H Q := ⟨e, h⟩
theorem st_ne (e : scal x y = true) (h : Q (.bl (!decide (x = y))) H) : rNe x y H Q := ⟨e, h⟩
theorem st_isN (h : Q (.bl (decide (x = .non))) H) : rIsN x .non H Q := by unfold rIsN; exact ⟨rfl, h⟩
theorem st_notN (h : Q (.bl (!decide (x = .non))) H) : rNotN x .non H Q := by unfold rNotN; exact ⟨rfl, h⟩
theorem st_test {Q : Bool → Hp → Prop} (h : te σ H fun x H' => ∃ k, x = .bl k ∧ Q k H') : tTest te σ H Q := h
theorem st_tB {Q : Bool → Hp → Prop} (h : te σ H fun x H' => ∃ k, x = .bl k ∧ Q k H') : tB te σ H Q := h
theorem st_ebl {P : Bool → Prop} (h : P k) : ∃ k', V.bl k = .bl k' ∧ P k' := ⟨k, rfl, h⟩
theorem st_eint {P : Int → Prop} (h : P i) : ∃ k', V.int i = .int k' ∧ P k' := ⟨i, rfl, h⟩
theorem st_and {Q : Bool → Hp → Prop} (h : c σ H fun k H1 => if k = true then d σ H1 Q else Q false H1) : tAnd c d σ H Q := h
theorem st_or {Q : Bool → Hp → Prop} (h : c σ H fun k H1 => if k = true then Q true H1 else d σ H1 Q) : tOr c d σ H Q := h
theorem st_not {Q : Bool → Hp → Prop} (h : c σ H fun k H1 => Q (!k) H1) : tNot c σ H Q := h
theorem st_andV (h : ta σ H fun x H1 => ∃ c, x = .bl c ∧ if c = true then tb σ H1 Q else Q (.bl false) H1) : tAndV ta tb σ H Q := h
theorem st_orV (h : ta σ H fun x H1 => ∃ c, x = .bl c ∧ if c = true then Q (.bl true) H1 else tb σ H1 Q) : tOrV ta tb σ H Q := h
theorem st_notV (h : ta σ H fun x H1 => ∃ c, x = .bl c ∧ Q (.bl (!c)) H1) : tNotV ta σ H Q := h
theorem st_ifE (h : c σ H fun k H1 => if k = true then ta σ H1 Q else tb σ H1 Q) : tIf c ta tb σ H Q := h
theorem st_chain {r r' : R2} (h : ta σ H fun x H1 => tb σ H1 fun y H2 => r x y H2 fun z H3 => ∃ k, z = .bl k ∧ if k = true then tc σ H3 fun w H4 => r' y w H4 Q else Q (.bl false) H3) : tChain r r' ta tb tc σ H Q := h
theorem st_if1 (e : k = true) (h : A) : if k = true then A else B := by rw [if_pos e]; exact h
theorem st_if0 (e : k = false) (h : B) : if k = true then A else B := by rw [e, if_neg (by decide)]; exact h
theorem st_nil {Q : List V → Hp → Prop} (h : Q [] H) : tNil σ H Q := h
theorem st_cons {t : TA} {Q : List V → Hp → Prop} (h : ta σ H fun x H1 => t σ H1 fun xs H2 => Q (x :: xs) H2) : tCons ta t σ H Q := h
theorem st_cl {r : List V → Hp → VK → Prop} {t : TA} (h : t σ H fun vs H1 => r vs H1 Q) : tCl r t σ H Q := h
theorem st_cb {r : List V → Hp → VK → Prop} {t : TA} (h : t σ H fun vs H1 => r vs H1 Q) : tCB r t σ H Q := h
theorem st_mt {m : Str} {r : List V → Hp → VK → Prop} {t : TA} (h : ta σ H fun x H1 => ∃ a dx fs, x = .ref a ∧ H1 a = some (.ins C dx fs) ∧ fs.lookup m = none ∧ t σ H1 fun vs H2 => r (x :: vs) H2 Q) : tMt C m r ta t σ H Q := h
theorem st_emt {m : Str} {fs : List (Str × V)} {P : Prop} (h : H a = some (.ins C dx fs)) (e : fs.lookup m = none) (q : P) : ∃ a' dx fs, V.ref a = .ref a' ∧ H a' = some (.ins C dx fs) ∧ fs.lookup m = none ∧ P := ⟨a, dx, fs, rfl, h, e, q⟩
theorem st_pr {sp : Sp} {dvs : List V} {E : XK} (h : ta σ H fun x H1 => ∃ a dx fs, x = .ref a ∧ H1 a = some (.ins C dx fs) ∧ sp (.ref a :: dvs) H1 Q E) : tPr C sp dvs E ta σ H Q := h
theorem st_epr {fs : List (Str × V)} {sp : Sp} {dvs : List V} {E : XK} (h : H a = some (.ins C dx fs)) (q : rSp sp dvs E [.ref a] H Q) : ∃ a' dx fs, V.ref a = .ref a' ∧ H a' = some (.ins C dx fs) ∧ sp (.ref a' :: dvs) H Q E := ⟨a, dx, fs, rfl, h, q⟩
theorem st_fld {f : Str} {fs : List (Str × V)} (h : H a = some (.ins C dx fs)) (e : fs.lookup f = some v) (q : Q v H) : rFld C f (.ref a) H Q := by unfold rFld; exact ⟨a, dx, fs, v, rfl, h, e, q⟩
theorem st_const {f : Str} {fs : List (Str × V)} (h : H a = some (.ins C dx fs)) (e : fs.lookup f = none) (q : Q v H) : rConst C f v (.ref a) H Q := by unfold rConst; exact ⟨a, dx, fs, rfl, h, e, q⟩
def rSetF (C : Addr) (f : Str) (y x : V) (H : Hp) (P : Hp → Prop) : Prop := ∃ a dx fs, x = .ref a ∧ H a = some (.ins C dx fs) ∧ fs.length < 1000 ∧ P (upd H a (.ins C dx (putF f y fs)))
theorem st_sF {f : Str} (h : te σ H fun y H1 => ta σ H1 fun x H2 => rSetF C f y x H2 fun H3 => D.nx σ H3) : sF C ta te f D σ H := by unfold sF; exact h
theorem st_setF {f : Str} {fs : List (Str × V)} {P : Hp → Prop} (h : H a = some (.ins C dx fs)) (e : fs.length < 1000) (q : ∀ H', Mu H H' a (.ins C dx (putF f y fs)) → P H') : rSetF C f y (.ref a) H P := ⟨a, dx, fs, rfl, h, e, q _ mu_upd⟩
theorem st_powK {r : Int} (h1 : CPow i j) (h2 : i ^ j.toNat = r) (q : Q (.int r) H) : rPowK r (.int i) (.int j) H Q := by unfold rPowK; exact ⟨i, j, rfl, rfl, h1, h2, q⟩
def rNewL (xs : List V) (H : Hp) (Q : VK) : Prop := xs.length ≤ sizeLine ∧ ∀ p, H p = none → Q (.ref p) (upd H p (.lst xs))
def rNewT (xs : List V) (H : Hp) (Q : VK) : Prop := xs.length ≤ sizeLine ∧ ∀ p, H p = none → Q (.ref p) (upd H p (.tup xs))
theorem st_lst {t : TA} (h : t σ H fun xs H1 => rNewL xs H1 Q) : tLst t σ H Q := h
theorem st_tup {t : TA} (h : t σ H fun xs H1 => rNewT xs H1 Q) : tTup t σ H Q := h
theorem st_newL (e : xs.length ≤ sizeLine) (h : ∀ p H', Nw H H' p (.lst xs) → Q (.ref p) H') : rNewL xs H Q := ⟨e, fun p np => h p _ (nw_upd np)⟩
theorem st_newT (e : xs.length ≤ sizeLine) (h : ∀ p H', Nw H H' p (.tup xs) → Q (.ref p) H') : rNewT xs H Q := ⟨e, fun p np => h p _ (nw_upd np)⟩
theorem new_of {o : HO} (h : ∀ p H', Nw H H' p o → Q (.ref p) H') : ∀ p, H p = none → Q (.ref p) (upd H p o) := fun p np => h p _ (nw_upd np)
theorem st_ixL (h : H p = some (.lst xs)) (e : atI xs i = some v) (q : Q v H) : rIxL K (.ref p) (.int i) H Q := ⟨p, xs, i, v, rfl, rfl, SqL.of h, e, q⟩
theorem st_ixLs (h : SqL K H p xs) (e : atI xs i = some v) (q : Q v H) : rIxL K (.ref p) (.int i) H Q := ⟨p, xs, i, v, rfl, rfl, h, e, q⟩
theorem st_ixT (h : H p = some (.tup xs)) (e : atI xs i = some v) (q : Q v H) : rIxT K (.ref p) (.int i) H Q := ⟨p, xs, i, v, rfl, rfl, SqT.of h, e, q⟩
theorem st_ixTs (h : SqT K H p xs) (e : atI xs i = some v) (q : Q v H) : rIxT K (.ref p) (.int i) H Q := ⟨p, xs, i, v, rfl, rfl, h, e, q⟩
theorem st_lenL (h : H p = some (.lst xs)) (q : Q (.int xs.length) H) : rLn K [.ref p] H Q := by unfold rLn; exact ⟨_, _, rfl, .inl ⟨xs, SqL.of h, rfl⟩, q⟩
theorem st_lenT (h : H p = some (.tup xs)) (q : Q (.int xs.length) H) : rLn K [.ref p] H Q := by unfold rLn; exact ⟨_, _, rfl, .inr ⟨xs, SqT.of h, rfl⟩, q⟩
theorem st_lenS {z : Str} (e : z.length ≤ sizeLine) (q : Q (.int z.length) H) : rLn K [.str z] H Q := by unfold rLn; exact ⟨_, _, rfl, ⟨e, rfl⟩, q⟩
theorem st_listL (h : H p = some (.lst xs)) (q : ∀ l H', Nw H H' l (.lst xs) → Q (.ref l) H') : rListOf K [.ref p] H Q := by unfold rListOf; exact ⟨p, xs, rfl, .inl (SqL.of h), new_of q⟩
theorem st_listT (h : H p = some (.tup xs)) (q : ∀ l H', Nw H H' l (.lst xs) → Q (.ref l) H') : rListOf K [.ref p] H Q := by unfold rListOf; exact ⟨p, xs, rfl, .inr (SqT.of h), new_of q⟩
theorem st_tupL (h : H p = some (.lst xs)) (q : ∀ l H', Nw H H' l (.tup xs) → Q (.ref l) H') : rTupOf K [.ref p] H Q := by unfold rTupOf; exact ⟨p, xs, rfl, .inl ⟨SqL.of h, new_of q⟩⟩
theorem st_tupT (h : H p = some (.tup xs)) (q : Q (.ref p) H) : rTupOf K [.ref p] H Q := by unfold rTupOf; exact ⟨p, xs, rfl, .inr ⟨SqT.of h, q⟩⟩
theorem st_int (q : Q (.int i) H) : rInt [.int i] H Q := by unfold rInt; exact .inl ⟨i, rfl, q⟩
theorem st_intB (q : Q (.int (if k = true then 1 else 0)) H) : rInt [.bl k] H Q := by unfold rInt; exact .inr ⟨k, rfl, q⟩
theorem st_abs (q : Q (.int (if i < 0 then -i else i)) H) : rAbs [.int i] H Q := by unfold rAbs; exact ⟨i, rfl, q⟩
theorem st_strI (e : i.natAbs.log2 < 1920) (q : Q (.str (toString i)) H) : rStrI [.int i] H Q := by unfold rStrI; exact ⟨i, rfl, e, q⟩
theorem st_sl {r : V → Option Int → Option Int → Hp → VK → Prop} {tl th : TO} (h : te σ H fun x H1 => tl σ H1 fun l H2 => th σ H2 fun u H3 => r x l u H3 Q) : tSl r te tl th σ H Q := h
theorem st_part {Q : Option Int → Hp → Prop} (h : te σ H fun x H1 => ∃ i, x = .int i ∧ Q (some i) H1) : tPart te σ H Q := h
theorem st_nopart {Q : Option Int → Hp → Prop} (h : Q none H) : tNoPart σ H Q := h
theorem st_slL {lo hi : Option Int} (h : H p = some (.lst xs)) (q : ∀ l H', Nw H H' l (.lst (cutV xs lo hi)) → Q (.ref l) H') : rSlL K (.ref p) lo hi H Q := ⟨p, xs, rfl, SqL.of h, new_of q⟩
theorem st_slLs {lo hi : Option Int} (h : SqL K H p xs) (q : ∀ l H', Nw H H' l (.lst (cutV xs lo hi)) → Q (.ref l) H') : rSlL K (.ref p) lo hi H Q := ⟨p, xs, rfl, h, new_of q⟩
theorem st_cat (h : H l = some (.lst xs)) (h' : H p = some (.lst ys)) (e : xs.length + ys.length ≤ sizeLine) (q : ∀ a H', Nw H H' a (.lst (xs ++ ys)) → Q (.ref a) H') : rCat (.ref l) (.ref p) H Q := ⟨l, p, xs, ys, rfl, rfl, h, h', e, new_of q⟩
theorem st_bm {T : String} {r : V → List V → Hp → VK → Prop} {t : TA} (h : te σ H fun x H1 => tyV K T x H1 ∧ t σ H1 fun xs H2 => r x xs H2 Q) : tBM K T r te t σ H Q := h
theorem st_bm0 {T : String} {r : V → List V → Hp → VK → Prop} (h : te σ H fun x H1 => tyV K T x H1 ∧ r x [] H1 Q) : tBM0 K T r te σ H Q := h
theorem st_tyL {P : Prop} (h : H p = some (.lst xs)) (q : P) : tyV K "list" (.ref p) H ∧ P := ⟨.inl ⟨rfl, xs, SqL.of h⟩, q⟩
theorem st_tyS {z : Str} {P : Prop} (q : P) : tyV K "str" (.str z) H ∧ P := ⟨rfl, q⟩
theorem st_gsub {to ti : TE} {ts : TSet} {Q : L2.St → Hp → Prop} (h : to σ H fun o H1 => ti σ H1 fun i H2 => ts o i v H2 fun H3 => Q σ H3) : gSub to ti ts v σ H Q := h
theorem st_setL {m : Nat} {Q : Hp → Prop} (h : H p = some (.lst xs)) (e : ixN xs.length i = some m) (q : ∀ H', Mu H H' p (.lst (xs.set m v)) → Q H') : rSetL (.ref p) (.int i) v H Q := ⟨p, xs, i, m, rfl, rfl, h, e, q _ mu_upd⟩
theorem st_neD {d e : PyData} (h1 : Dp K H x d) (h2 : Dp K H y e) (h3 : SeqAt.shaped d = true) (h4 : SeqAt.shaped e = true) (q : Q (.bl (!PyData.eqv d e)) H) : rNeD K x y H Q := ⟨d, e, h1, h2, h3, h4, q⟩
theorem st_gtup {m : Nat} {g : TGs} {Q : L2.St → Hp → Prop} (h : H a = some (.tup xs)) (e : xs.length = m) (q : g xs σ H Q) : gTup K m g (.ref a) σ H Q := ⟨a, xs, rfl, SqT.of h, e, q⟩
theorem st_gcons {g : TG} {gs : TGs} {Q : L2.St → Hp → Prop} (h : g v σ H fun σ' H' => gs xs σ' H' Q) : gCons g gs (v :: xs) σ H Q := ⟨v, xs, rfl, h⟩
theorem st_gnil {Q : L2.St → Hp → Prop} (h : Q σ H) : gNil [] σ H Q := ⟨rfl, h⟩
theorem st_list {R : It → Hp → Prop} (h : te σ H fun x H1 => ∃ a, x = .ref a ∧ (∃ xs, SqL K H1 a xs) ∧ R (Itl K a) H1) : iList K te σ H R := h
theorem st_elist {P : Addr → Prop} (h : H a = some (.lst xs)) (q : P a) : ∃ a', V.ref a = .ref a' ∧ (∃ xs, SqL K H a' xs) ∧ P a' := ⟨a, rfl, ⟨xs, SqL.of h⟩, q⟩
theorem st_itup {R : It → Hp → Prop} (h : te σ H fun x H1 => ∃ a, x = .ref a ∧ (∃ xs, SqT K H1 a xs) ∧ R (Itt K a) H1) : iTup K te σ H R := h
theorem st_eitup {P : Addr → Prop} (h : H a = some (.tup xs)) (q : P a) : ∃ a', V.ref a = .ref a' ∧ (∃ xs, SqT K H a' xs) ∧ P a' := ⟨a, rfl, ⟨xs, SqT.of h⟩, q⟩
end
end Gh
end
section
set_option Elab.async false
set_option linter.all false
set_option maxRecDepth 100000
set_option maxHeartbeats 4000000
namespace Gh
open PySem PySem.Spec PyProof.Rows L2
section
variable {X : Cx} {a b c d : Expr} {ta tb tc td : TE} {pos : Pos}
def tChain3 (r r' r2 : R2) (ta tb tc td : TE) : TE := fun σ H Q => ta σ H fun x H1 => tb σ H1 fun y H2 => r x y H2 fun z H3 => ∃ k, z = .bl k ∧
  (if k = true then tc σ H3 fun w H4 => r' y w H4 fun z' H5 => ∃ k', z' = .bl k' ∧ (if k' = true then td σ H5 fun v H6 => r2 w v H6 Q else Q (.bl false) H5) else Q (.bl false) H3)
theorem st_chain3 {σ : L2.St} {H : Hp} {Q : VK} {r r' r2 : R2} (h : ta σ H fun x H1 => tb σ H1 fun y H2 => r x y H2 fun z H3 => ∃ k, z = .bl k ∧
  (if k = true then tc σ H3 fun w H4 => r' y w H4 fun z' H5 => ∃ k', z' = .bl k' ∧ (if k' = true then td σ H5 fun v H6 => r2 w v H6 Q else Q (.bl false) H5) else Q (.bl false) H3)) : tChain3 r r' r2 ta tb tc td σ H Q := h
def gSl (to tl th : TE) : TG := fun v σ H Q => to σ H fun x H1 => tl σ H1 fun lo H2 => th σ H2 fun hi H3 => ∃ (l m : Addr) (i j : Int) (xs ys : List V), x = .ref l ∧ v = .ref m ∧ lo = .int i ∧ hi = .int j ∧ H3 l = some (.lst xs) ∧ H3 m = some (.lst ys) ∧ l ≠ m ∧ 0 ≤ i ∧ i ≤ j ∧ j ≤ xs.length ∧ xs.length + ys.length ≤ sizeLine ∧
  Q σ (upd H3 l (.lst (xs.take i.toNat ++ ys ++ xs.drop j.toNat)))
def rSlS (v x lo hi : V) (H : Hp) (P : Hp → Prop) : Prop := ∃ (l m : Addr) (i j : Int) (xs ys : List V), x = .ref l ∧ v = .ref m ∧ lo = .int i ∧ hi = .int j ∧ H l = some (.lst xs) ∧ H m = some (.lst ys) ∧ l ≠ m ∧ 0 ≤ i ∧ i ≤ j ∧ j ≤ xs.length ∧ xs.length + ys.length ≤ sizeLine ∧ P (upd H l (.lst (xs.take i.toNat ++ ys ++ xs.drop j.toNat)))
theorem st_gsl {σ : L2.St} {H : Hp} {v : V} {Q : L2.St → Hp → Prop} {to tl th : TE} (h : to σ H fun x H1 => tl σ H1 fun lo H2 => th σ H2 fun hi H3 => rSlS v x lo hi H3 fun H4 => Q σ H4) : gSl to tl th v σ H Q := h
end
def picks {α : Type} (l : List (Nat ⊕ Nat)) (its ws : List α) : List α := l.filterMap fun z => match z with
  | .inl i => ws[i]?
  | .inr j => its[j]?
theorem Vals.getO {zs : List V} {ws : List Value} (r : Vals zs ws) (i : Nat) : (zs[i]? = none ∧ ws[i]? = none) ∨ ∃ x v, zs[i]? = some x ∧ ws[i]? = some v ∧ RelV x v := by
  induction r generalizing i with
  | nil => exact .inl ⟨rfl, rfl⟩
  | cons h t ih =>
    cases i with
    | zero => exact .inr ⟨_, _, rfl, rfl, h⟩
    | succ i => exact ih i
theorem picks_rel (l : List (Nat ⊕ Nat)) {ds zs : List V} {its ws : List Value} (r1 : Vals ds its) (r2 : Vals zs ws) : Vals (picks l ds zs) (picks l its ws) := by
  induction l with
  | nil => exact .nil
  | cons z r ih =>
    unfold picks at ih ⊢
    rw [List.filterMap_cons, List.filterMap_cons]
    cases z with
    | inl i =>
      rcases Vals.getO r2 i with ⟨e1, e2⟩ | ⟨x, v, e1, e2, rv⟩
      · simp only [e1, e2]
        exact ih
      · simp only [e1, e2]
        exact .cons rv ih
    | inr j =>
      rcases Vals.getO r1 j with ⟨e1, e2⟩ | ⟨x, v, e1, e2, rv⟩
      · simp only [e1, e2]
        exact ih
      · simp only [e1, e2]
        exact .cons rv ih
section
variable {K : PySem.W.Frag} {x qual : Str} {params : Arguments} {body : List Stmt} {scope : Scope} {dvs : List V} {kws : List (Str × V)} {f : Addr} {fd : FuncData} {ps : List Str}
end
section
variable {X : Cx} {CX : CXT} {k n : Nat} {f C : Addr} {ks : List Str} {sp : Sp} {E : XK} {x m : Str} {p pos apos : Pos} {e o : Expr} {es : List Expr} {kws : List Keyword} {t tk : TA} {ta : TE} {gV : List V → List V → List V} {r : List V → List V → Hp → VK → Prop}
def rMkK (C : Addr) (n m : Nat) (gV : List V → List V → List V) (sp : Sp) (E : XK) : List V → List V → Hp → VK → Prop := fun vs zs H Q => vs.length = n ∧ zs.length = m ∧ rMk C (fun us H Q E => sp us H Q E) [] E (gV vs zs) H Q
theorem PromK.make (M : Mk X.K C f) (F : PromK X.prog X.w X.K X.mg X.base CX k f (n + 1) ks (fun vs zs => vs ++ gV [] zs) sp) (hr : Room (k + 1) X.A) (hx : Passes CX X E) : CallK X (.ref C) ks (rMkK C n ks.length (fun vs zs => vs ++ gV [] zs) sp E) := by
  intro pins s σ H vs zs us ws Q I rv rz ⟨l1, l2, h⟩
  obtain ⟨fd, ps, g, G, b⟩ := F
  refine run_makeN M G hr b hx I rv rz l1 l2 fun x dx nx ndx ne => ?_
  unfold rMk at h
  have z := h x dx nx ndx ne
  rw [List.append_nil] at z
  exact z
def tClK (r : List V → List V → Hp → VK → Prop) (t tk : TA) : TE := fun σ H Q => t σ H fun vs H1 => tk σ H1 fun zs H2 => r vs zs H2 Q
def tMtK (C : Addr) (m : Str) (r : List V → List V → Hp → VK → Prop) (ta : TE) (t tk : TA) : TE := fun σ H Q => ta σ H fun x H1 => ∃ a dx fs, x = .ref a ∧ H1 a = some (.ins C dx fs) ∧ fs.lookup m = none ∧ t σ H1 fun vs H2 => tk σ H2 fun zs H3 => r (x :: vs) zs H3 Q
end
section
variable {H : Hp} {σ : L2.St} {Q : VK} {ta : TE} {t tk : TA} {r : List V → List V → Hp → VK → Prop} {C : Addr} {m : Str} {n k : Nat} {gV : List V → List V → List V} {sp : Sp} {E : XK} {vs zs : List V}
theorem st_clK (h : t σ H fun vs H1 => tk σ H1 fun zs H2 => r vs zs H2 Q) : tClK r t tk σ H Q := h
theorem st_mtK (h : ta σ H fun x H1 => ∃ a dx fs, x = .ref a ∧ H1 a = some (.ins C dx fs) ∧ fs.lookup m = none ∧ t σ H1 fun vs H2 => tk σ H2 fun zs H3 => r (x :: vs) zs H3 Q) : tMtK C m r ta t tk σ H Q := h
theorem st_spK (h1 : vs.length = n) (h2 : zs.length = k) (h : rSp sp [] E (gV vs zs) H Q) : rSpK n k gV sp E vs zs H Q := ⟨h1, h2, by
  unfold rSp at h
  rw [List.append_nil] at h
  exact h⟩
end
end Gh
end
section
set_option Elab.async false
set_option linter.all false
set_option maxRecDepth 100000
set_option maxHeartbeats 4000000
namespace Gh
open PySem PySem.Spec PyProof.Rows L2
theorem Fn.le {d : PyData} {n b n' b' : Nat} (h : Fn d n b) (h1 : n ≤ n') (h2 : b ≤ b') : Fn d n' b' := ⟨h.cl, h.sh, h.nd, h.ls, Nat.le_trans h.dp h1, Nat.le_trans h.bk h2⟩
theorem Fn.shaped {d : PyData} {n b : Nat} (h : Fn d n b) (hn : n ≤ 64) : SeqAt.shaped d = true := by
  unfold SeqAt.shaped
  rw [h.cl, decide_eq_true (Nat.le_trans h.dp hn)] <;> rfl
theorem Fn.eqv {d : PyData} {n b : Nat} (h : Fn d n b) : PyData.eqv d d = true := SeqAt.eqv_refl d h.cl
section
variable {K : PySem.W.Frag} {H : Hp} {a : Addr} {ns : List Int}
end
section
variable {H H' : Hp} {a l p c : Addr} {u : HO} {b : Nat}
theorem none_ne (n : H l = none) (h : H a = some u) : l ≠ a := fun e => by
  rw [← e, n] at h
  cases h
theorem none_pen (n : H l = none) (h : Pen H p c b) : l ≠ p := by
  obtain ⟨ns, i, z, h1, h2, h3⟩ := h
  exact none_ne n h1
theorem none_cell (n : H l = none) (h : Pen H p c b) : l ≠ c := by
  obtain ⟨ns, i, z, h1, h2, h3⟩ := h
  exact none_ne n h2
def Keep2 (H H' : Hp) (p t : Addr) : Prop := ∀ a o, H a = some o → a ≠ p → a ≠ t → H' a = some o
theorem keep2_up {t : Addr} (n : Keep2 H H' p t) (e : a ≠ p) (e' : a ≠ t) (h : H a = some u) : H' a = some u := n _ _ h e e'
theorem st_setO {C dx : Addr} {fs : List (Str × V)} {r : List V → Hp → VK → Prop} {i v : V} {Q : Hp → Prop} (h : H a = some (.ins C dx fs)) (q : r [.ref a, i, v] H fun _ H' => Q H') : rSetO C r (.ref a) i v H Q := by
  unfold rSetO
  exact ⟨a, dx, fs, rfl, h, q⟩
theorem st_ixO {C dx : Addr} {fs : List (Str × V)} {sp : Sp} {E : XK} {y : V} {Q : VK} (h : H a = some (.ins C dx fs)) (q : rSp sp [] E [.ref a, y] H Q) : rIxO C sp E (.ref a) y H Q := by
  unfold rIxO
  exact ⟨a, dx, fs, rfl, h, q⟩
end
section
variable {K : PySem.W.Frag} {H : Hp} {σ : L2.St} {Q : VK} {m : Nat} {tt : TT} {te tl : TE} {vs : List Nat} {t : TA} {a : Addr} {xs : List V}
def rLc (J : It) (m : Nat) (tt : TT) (te : TE) (vs : List Nat) (σ : L2.St) (H : Hp) (Q : VK) : Prop := ∀ D, H D = none → ∃ W : Nat → Nat → Hp → Prop, (∃ k, W 0 k (upd H D (.lst []))) ∧ ∀ i k H, W i k H →
  (J.stop i H ∧ Q (.ref D) H) ∨ (J.go i H ∧ ∃ Nx : Hp → Prop, (∀ H', Nx H' → ∃ k', k' < k ∧ W (i + 1) k' H') ∧ ∀ x H', J.yld i H x H' → gName m x (wipe σ vs) H' fun σ2 H2 => wipe σ2 vs = wipe σ vs ∧ tt σ2 H2 fun b H3 =>
    if b = true then te σ2 H3 fun y H4 => ∃ acc, H4 D = some (.lst acc) ∧ acc.length < sizeLine ∧ Nx (upd H4 D (.lst (acc ++ [y]))) else Nx H3)
theorem st_lcR1 (h : t σ H fun us H1 => ∃ j : Int, us = [.int j] ∧ -(2 ^ 62) ≤ j ∧ j < 2 ^ 62 ∧ rLc (Itr 0 j.toNat) m tt te vs σ H1 Q) : tLc (iRng1 t) (gName m) tt te vs σ H Q := h
theorem st_lcR2 (h : t σ H fun us H1 => ∃ i j : Int, us = [.int i, .int j] ∧ (-(2 ^ 62) ≤ i ∧ i < 2 ^ 62 ∧ -(2 ^ 62) ≤ j ∧ j < 2 ^ 62) ∧ rLc (Itr i (j - i).toNat) m tt te vs σ H1 Q) : tLc (iRng2 t) (gName m) tt te vs σ H Q := h
theorem st_lcL (h : tl σ H fun x H1 => ∃ a, x = .ref a ∧ (∃ xs, SqL K H1 a xs) ∧ rLc (Itl K a) m tt te vs σ H1 Q) : tLc (iList K tl) (gName m) tt te vs σ H Q := h
theorem st_lcT (h : tl σ H fun x H1 => ∃ a, x = .ref a ∧ (∃ xs, SqT K H1 a xs) ∧ rLc (Itt K a) m tt te vs σ H1 Q) : tLc (iTup K tl) (gName m) tt te vs σ H Q := h
theorem st_eR1 {j : Int} {P : Int → Prop} (h0 : -(2 ^ 62) ≤ j) (h1 : j < 2 ^ 62) (h : P j) : ∃ j', [V.int j] = [.int j'] ∧ -(2 ^ 62) ≤ j' ∧ j' < 2 ^ 62 ∧ P j' := ⟨j, rfl, h0, h1, h⟩
theorem st_eR2 {i j : Int} {P : Int → Int → Prop} (h0 : -(2 ^ 62) ≤ i ∧ i < 2 ^ 62 ∧ -(2 ^ 62) ≤ j ∧ j < 2 ^ 62) (h : P i j) : ∃ i' j', [V.int i, V.int j] = [.int i', .int j'] ∧ (-(2 ^ 62) ≤ i' ∧ i' < 2 ^ 62 ∧ -(2 ^ 62) ≤ j' ∧ j' < 2 ^ 62) ∧ P i' j' := ⟨i, j, rfl, h0, h⟩
theorem st_yes {Q : Bool → Hp → Prop} (h : Q true H) : tYes σ H Q := h
end
section
variable {H H' : Hp} {a l p c : Addr} {u : HO} {b : Nat}
theorem nw_pen' {H0 : Hp} {b0 : Nat} {o : HO} (_ : Pen H0 p c b0) (n : Nw H H' l o) (h : Pen H p c b) : l ≠ p := nw_pen n h
theorem nw_cell' {H0 : Hp} {b0 : Nat} {o : HO} (_ : Pen H0 p c b0) (n : Nw H H' l o) (h : Pen H p c b) : l ≠ c := nw_cell n h
theorem none_pen' {H0 : Hp} {b0 : Nat} (_ : Pen H0 p c b0) (n : H l = none) (h : Pen H p c b) : l ≠ p := none_pen n h
theorem none_cell' {H0 : Hp} {b0 : Nat} (_ : Pen H0 p c b0) (n : H l = none) (h : Pen H p c b) : l ≠ c := none_cell n h
theorem tup_pen' {H0 : Hp} {b0 : Nat} {xs : List V} (_ : Pen H0 p c b0) (n : H l = some (.tup xs)) (h : Pen H p c b) : l ≠ p := tup_pen n h
theorem tup_cell' {H0 : Hp} {b0 : Nat} {xs : List V} (_ : Pen H0 p c b0) (n : H l = some (.tup xs)) (h : Pen H p c b) : l ≠ c := tup_cell n h
theorem ins_pen' {H0 : Hp} {b0 : Nat} {C dx : Addr} {fs : List (Str × V)} (_ : Pen H0 p c b0) (n : H l = some (.ins C dx fs)) (h : Pen H p c b) : l ≠ p := ins_pen n h
theorem ins_cell' {H0 : Hp} {b0 : Nat} {C dx : Addr} {fs : List (Str × V)} (_ : Pen H0 p c b0) (n : H l = some (.ins C dx fs)) (h : Pen H p c b) : l ≠ c := ins_cell n h
end
section
variable {K : PySem.W.Frag} {H : Hp} {σ : L2.St} {D : Ends} {m : Nat} {g : TG} {tb : TS} {tl : TE} {t : TA} {a : Addr} {xs : List V}
def rFor (J : It) (g : TG) (tb : TS) (D : Ends) (σ : L2.St) (H : Hp) : Prop := ∃ W : Nat → Nat → L2.St → Hp → Prop, (∃ m, W 0 m σ H) ∧ ∀ i m σ H, W i m σ H →
  (J.stop i H ∧ D.nx σ H) ∨ (J.go i H ∧ ∃ N : L2.St → Hp → Prop, (∀ σ' H', N σ' H' → ∃ m', m' < m ∧ W (i + 1) m' σ' H') ∧ ∀ x H', J.yld i H x H' → g x σ H' fun σ2 H2 => tb { D with nx := N, ct := N, bk := D.nx } σ2 H2)
theorem st_forR1 (h : t σ H fun us H1 => ∃ j : Int, us = [.int j] ∧ -(2 ^ 62) ≤ j ∧ j < 2 ^ 62 ∧ rFor (Itr 0 j.toNat) g tb D σ H1) : tFor (iRng1 t) g tb D σ H := h
theorem st_forR2 (h : t σ H fun us H1 => ∃ i j : Int, us = [.int i, .int j] ∧ (-(2 ^ 62) ≤ i ∧ i < 2 ^ 62 ∧ -(2 ^ 62) ≤ j ∧ j < 2 ^ 62) ∧ rFor (Itr i (j - i).toNat) g tb D σ H1) : tFor (iRng2 t) g tb D σ H := h
theorem st_forL (h : tl σ H fun x H1 => ∃ a, x = .ref a ∧ (∃ xs, SqL K H1 a xs) ∧ rFor (Itl K a) g tb D σ H1) : tFor (iList K tl) g tb D σ H := h
theorem st_forT (h : tl σ H fun x H1 => ∃ a, x = .ref a ∧ (∃ xs, SqT K H1 a xs) ∧ rFor (Itt K a) g tb D σ H1) : tFor (iTup K tl) g tb D σ H := h
theorem st_forE (h : t σ H fun us H1 => ∃ a xs, us = [.ref a] ∧ SqL K H1 a xs ∧ rFor (Ite K a) g tb D σ H1) : tFor (iEnum K t) g tb D σ H := h
theorem st_eE {P : Addr → Prop} (h : H a = some (.lst xs)) (q : P a) : ∃ a' xs, [V.ref a] = [.ref a'] ∧ SqL K H a' xs ∧ P a' := ⟨a, xs, rfl, SqL.of h, q⟩
end
section
end
end Gh
end
section
set_option Elab.async false
set_option linter.all false
set_option maxRecDepth 100000
set_option maxHeartbeats 4000000
namespace Gh
open PySem PySem.Spec PyProof.Rows L2
section
variable {H H' : Hp} {a l p c t : Addr} {o u : HO} {b : Nat} {xs : List V} {T : List (Addr × Str)} {C dx : Addr} {fs : List (Str × V)}
theorem Pen.extN (n : LamX.ExtN H H') (h : Pen H p c b) : Pen H' p c b := by
  obtain ⟨ns, i, z, h1, h2, h3⟩ := h
  exact ⟨ns, i, z, n _ _ h1 (fun _ z => by cases z), n _ _ h2 (fun _ z => by cases z), h3⟩
theorem tabs_of (h : LamX.Tabs T H) (k1 : ∀ a ps, H a = some (.tbl ps) → H' a = some (.tbl ps)) (k2 : ∀ a c q, H a = some (LamX.CodeO c q) → H' a = some (LamX.CodeO c q)) : LamX.Tabs T H' := fun q hq => by
  obtain ⟨ps, h1, h2, h3⟩ := h q hq
  refine ⟨ps, k1 _ _ h1, h2, fun pos cv hc => ?_⟩
  obtain ⟨c', e1, e2⟩ := h3 pos cv hc
  exact ⟨c', e1, k2 _ _ _ e2⟩
theorem tabs_keepL (n : Keep H H' l) (e : H l = some (.lst xs)) (h : LamX.Tabs T H) : LamX.Tabs T H' :=
  tabs_of h (fun a ps q => n _ _ q (ne_of q e (by intro z; cases z))) (fun a c q z => n _ _ z (ne_of z e (by intro y; unfold LamX.CodeO at y; cases y)))
theorem tabs_keepP (n : Keep H H' p) (pn : Pen H p c b) (h : LamX.Tabs T H) : LamX.Tabs T H' := by
  obtain ⟨ns, i, z, h1, h2, h3⟩ := pn
  exact tabs_keepL n h1 h
theorem tabs_muI (n : Mu H H' l o) (e : H l = some (.ins C dx fs)) (h : LamX.Tabs T H) : LamX.Tabs T H' :=
  tabs_of h (fun a ps q => n.up (ne_of q e (by intro z; cases z)) q) (fun a c q z => n.up (ne_of z e (by intro y; unfold LamX.CodeO at y; cases y)) z)
theorem keep_fr (n : Keep H H' p) : Fr H H' p := fun a o h e _ => n a o h e
theorem ext_fr (n : LamX.ExtN H H') : Fr H H' p := fun a o h _ z => n a o h z
end
section
variable {X : Cx} {H : Hp} {σ : L2.St} {Q : VK} {T : List (Addr × Str)} {TT : (XK → Hp → VK → Prop) → Hp → VK → Prop} {t : XK → TE}
def tAct (f c' : Addr) (q : Str) (tl : Hp → VK → Prop) : TE := fun σ H Q => σ[0]? = some (some (.ref f)) ∧ H c' = some (LamX.CodeO c' q) ∧ tl H Q
theorem takes_len {W : WX} (t : Takes X W) : Takes X (fun c d σ H => σ.length = X.N.length → W c d σ H) := fun u s' ⟨a, B, sI, pins, σ, H, cls, d, e, I, nb, up, sky, na, os, ag, w⟩ =>
  t u s' ⟨a, B, sI, pins, σ, H, cls, d, e, I, nb, up, sky, na, os, ag, w I.len⟩
def tTry (n : Nat) (body : XK → TS) : WX → TS := fun W D σ H => ∃ E : XK, (∀ cls d σ' H', E cls d H' → σ'.length = n → W cls d σ' H') ∧ body E D σ H
theorem try_act {W : WX} {st : List Stmt} {body : XK → TS} (n : Nat) (hn : X.N.length = n) (tk : Takes X W) (h : ∀ E : XK, (∃ W' : WX, Takes X W' ∧ ∀ cls d σ' H', E cls d H' → W' cls d σ' H') → PSs X st (body E)) : PSs X st (tTry n body W) := by
  refine ⟨fun pins s σ H D I h' => ?_⟩
  obtain ⟨E, hW, h1⟩ := h'
  refine (h E ⟨_, takes_len tk, fun cls d σ' H' e l => hW cls d σ' H' e (l.trans hn)⟩).run pins s σ H D I h1
end
end Gh
end
section
set_option Elab.async false
set_option linter.all false
set_option maxRecDepth 100000
set_option maxHeartbeats 4000000
namespace Gh
open PySem PySem.Spec PyProof.Rows L2
section
variable {X : Cx} {CX : CXT} {k : Nat} {C f : Addr} {sp : Sp} {E : XK} {r : List V → Hp → VK → Prop}
theorem promO_in1 {pins : List (Addr × Obj)} {s : Shared} {σ : L2.St} {H : Hp} {vs : List V} {us : List Value} {Q : VK} (F : PromOX X CX k f [] sp) (hr : Room (k + 1) X.A) (hx : Passes CX X E) (I : Inv X pins σ H s) (rv : Vals vs us) (h : sp vs H Q E) :
    wpAny (model X.prog X.w) X.A.in1 (call (.ref f) us) (EP X pins σ Q) X.xe s := by
  refine wpAny_call (codeAny_mono ((PromO.raw F) X.A.in1 X.stack s H us vs Q E hr.in1 I.env0.in1 rv h) fun r s' hq => ?_)
  cases r with
  | error e => exact hx pins σ H s e s' I hq
  | ok fl =>
    cases fl with
    | ret u => exact I.after hq
    | next => exact False.elim hq
    | brk => exact False.elim hq
    | cont => exact False.elim hq
@[irreducible] def rStrO (C : Addr) (sp : Sp) (E : XK) : List V → Hp → VK → Prop := fun xs H Q => ∃ a dx fs, xs = [.ref a] ∧ H a = some (.ins C dx fs) ∧ sp [.ref a] H (fun v H' => ∃ z, v = .str z ∧ Q (.str z) H') E
theorem cr_strO (hm : Meth X.K C "__str__" f) (F : PromOX X CX k f [] sp) (hr : Room (k + 2) X.A) (hx : Passes CX X E) : CallR X (.type "str") (rStrO C sp E) := by
  intro pins s σ H xs us Q I rv h
  unfold rStrO at h
  obtain ⟨a, dx, fs, rfl, ha, q⟩ := h
  obtain ⟨u, rfl, ru⟩ := vals1 rv
  cases (show u = Value.ref a from ru)
  obtain ⟨ox, od, J⟩ := ins_look I ha
  have hu : X.A.in1.in1.units < cLine := (hr.in1.in1).units0
  refine PySem.W.kso_call hu I.kIn J hm.at_ hm.fn ?_
  refine wpAny_call (codeAny_mono ((PromO.raw F) X.A.in1.in1 X.stack s H [.ref a] [.ref a] _ E hr.in1.in1 I.env0.in1.in1 (.cons rfl .nil) q) fun r s' hq => ?_)
  cases r with
  | error e => exact hx pins σ H s e s' I hq
  | ok fl =>
    cases fl with
    | ret u =>
      obtain ⟨v, H', I', rv', z, rfl, q'⟩ := I.after hq
      obtain ⟨t, rfl⟩ := rv'
      exact ⟨.str z, H', I', ⟨t, rfl⟩, q'⟩
    | next => exact False.elim hq
    | brk => exact False.elim hq
    | cont => exact False.elim hq
@[irreducible] def rEqO (K : PySem.W.Frag) (C : Addr) (r : List V → Hp → VK → Prop) : R2 := fun x y H Q => ∃ a dx fs tb, x = .ref a ∧ H a = some (.ins C dx fs) ∧ TyX K H y tb ∧ PySem.W.notFirst K C tb = true ∧ r [x, y] H Q
theorem op_eqO {K : PySem.W.Frag} (hK : X.K = K) (hm : Meth X.K C "__eq__" f) (hu : X.A.units < cLine) (R : CallR X (.ref f) r) : OpR X (compareOp .Eq) (rEqO K C r) := by
  subst hK
  intro pins s σ H x y v u Q I rx ry h
  unfold rEqO at h
  obtain ⟨a, dx, fs, tb, rfl, ha, ty, hn, q⟩ := h
  cases (show v = Value.ref a from rx)
  obtain ⟨ox, od, J⟩ := ins_look I ha
  obtain ⟨m, hF⟩ := I.fr
  obtain ⟨P, Z, p, hx⟩ := kit_of I ry ty
  refine PySem.W.cmp_K (op := .Eq) (tb := tb) hu hF I.ok.mod.kin J (Z.ty _ _ I.kIn p) hn hm.at_ hm.fn ?_
  exact wpAny_mono (R pins s σ H [.ref a, y] [.ref a, u] Q I (.cons rfl (.cons ry .nil)) q) (fun w s' z => cmp_back z) fun _ _ x => x
structure NfT (K : PySem.W.Frag) (C : Addr) : Prop where
  ok : ∀ n ∈ (["NoneType", "bool", "int", "str", "list", "tuple", "dict"] : List String), PySem.W.notFirst K C (.type n) = true
  me : PySem.W.notFirst K C (.ref C) = true
theorem nfB_ok {x : Str} {K : PySem.W.Frag} (h : nfB x K = true) : NfT K (gd x K) := ⟨fun n hn => List.all_eq_true.mp h n hn, by
  unfold PySem.W.notFirst
  simp⟩
end
end Gh
end
section
set_option Elab.async false
set_option linter.all false
set_option maxRecDepth 100000
set_option maxHeartbeats 4000000
namespace Gh
open PySem PySem.Spec PyProof.Rows L2
section
variable {prog : Program} {w : World} {A : Around} {E : Value → Shared → Prop} {s : Shared} {K : PySem.W.Frag} {x C f L : Addr} {h₀ : Heap} {m : Str → Option Value} {ox : Obj} {od : Option Obj} {b tb : Value}
open PySem.W in
theorem ifBoundB_K {M : Model} {name : Str} {id : String} {args : List Value} {Q : Option Value → Shared → Prop} (X : K.In s.heap) (I : InstAt s.heap x ox C od) (hs : findIn K (.ref C) name = some (some (.builtin id))) (hb : ∀ self, bindSpecial (.builtin id) self = pure (.builtin id, [self]))
    (h : wpAny M A (call (.builtin id) (.ref x :: args)) (fun v => Q (some v)) E s) : wpAny M A (callSpecialIfBound? (.ref x) name args) Q E s := by
  simp only [callSpecialIfBound?, bindSpecialIfBound?]
  refine wpAny_holding (wpAny_bind (wpAny_bind (wpAny_bind (I.type.here ((looks_findIn X hs).here ?_)))))
  refine wpAny_bind (wpAny_askSetting (wpAny_ite ?_))
  have fin : wpAny M A (call (.builtin id) ([.ref x] ++ args) >>= fun v => pure (some v)) Q E s := wpAny_bind (wpAny_mono h (fun v s' h' => wpAny_pure h') fun _ _ h' => h')
  simp only [hb]
  split
  · exact wpAny_bind (wpAny_pure (wpAny_pure fin))
  · exact wpAny_tryCatch (wpAny_bind (wpAny_pure (wpAny_pure fin)))
open PySem.W in
theorem ne_K {Q : Value → Shared → Prop} (hu : A.units + 1 < cLine) (F : PyProof.Rows.Fr h₀ L s.heap m) (X₀ : K.In h₀) (I : InstAt s.heap x ox C od) (hb : Looks (model prog w) s.heap (typeOf b) tb) (hn : notFirst K C tb = true)
    (h1 : findIn K (.ref C) "__ne__" = some (some (.builtin "object.__ne__"))) (ho : subIn K (.ref C) (.type "object") = some true) (h2 : findIn K (.ref C) "__eq__" = some (some (.ref f))) (hf : isFn K (.ref f) = true)
    (h : wpAny (model prog w) A.in1 (call (.ref f) [.ref x, b]) (fun v s' => ∃ k, v = .bool k ∧ Q (.bool (!k)) s') E s) : wpAny (model prog w) A (richCompare .NotEq (.ref x) b) Q E s := by
  have X := X₀.keeps F.keep
  have one : wpAny (model prog w) A (tryCompare (.ref x) "__ne__" b) (fun r s' => ∃ v, r = some v ∧ Q v s') E s := by
    simp only [tryCompare]
    refine wpAny_bind (ifBoundB_K X I h1 (fun _ => rfl) (wpAny_call (codeAny_call_builtin (by decide +kernel) PySem.F.cmpEntry_ne
      (@check_slot (model prog w) _ _ s "object.__ne__" "object" "__ne__" (.ref x) [b] [] _ PySem.F.cmpKind_ne PySem.F.cmpSplit_ne (I.type.andThen (looks_subIn X ho)) (PySem.F.cmpArgs_ne _ _) ?_))))
    unfold Builtin.«object.__ne__»
    refine wpAny_bind (m := slotArgs "__ne__" 1 _) (wpAny_pure ?_)
    refine wpAny_bind (wpAny_cRoomFor (show A.in1.units < cLine by show A.units + 1 < cLine; exact hu) ?_)
    refine wpAny_bind (ifBound_K X I h2 hf (wpAny_mono h (fun v s' hv => ?_) fun _ _ e => e))
    obtain ⟨k, rfl, hq⟩ := hv
    exact wpAny_bind (wpAny_truthy_bool (wpAny_pure (wpAny_pure ⟨_, rfl, hq⟩)))
  unfold richCompare
  simp only [oneThing_ref]
  refine wpAny_holding (wpAny_bind (wpAny_cRoomFor (Nat.lt_of_succ_lt hu) ?_))
  refine wpAny_bind (I.type.here (wpAny_bind (hb.here ?_)))
  split
  · rename_i q
    have e : subIn K tb (.ref C) = some false := by
      rcases Bool.or_eq_true_iff.mp hn with e | e
      · rw [beq_iff_eq.mp e] at q; simp at q
      · exact beq_iff_eq.mp e
    refine wpAny_bind ((looks_subIn X e).here ?_)
    simp only [Bool.false_eq_true, if_false]
    refine wpAny_bind (wpAny_mono one (fun r s' z => ?_) fun _ _ e => e)
    obtain ⟨v, rfl, hq⟩ := z
    exact wpAny_pure hq
  · refine wpAny_bind (wpAny_pure ?_)
    simp only [Bool.false_eq_true, if_false]
    refine wpAny_bind (wpAny_mono one (fun r s' z => ?_) fun _ _ e => e)
    obtain ⟨v, rfl, hq⟩ := z
    exact wpAny_pure hq
end
section
variable {X : Cx} {CX : CXT} {k : Nat} {C f : Addr} {sp : Sp} {E : XK}
structure NeT (K : PySem.W.Frag) (C : Addr) : Prop where
  ne : PySem.W.findIn K (.ref C) "__ne__" = some (some (.builtin "object.__ne__"))
  ob : PySem.W.subIn K (.ref C) (.type "object") = some true
theorem neB_ok {x : Str} {K : PySem.W.Frag} (h : neB x K = true) : NeT K (gd x K) := by
  obtain ⟨h1, h2⟩ := He.ba h
  exact ⟨He.eqO_ok h1, of_decide_eq_true h2⟩
@[irreducible] def rNeO (K : PySem.W.Frag) (C : Addr) (sp : Sp) (E : XK) : R2 := fun x y H Q => ∃ a dx fs tb, x = .ref a ∧ H a = some (.ins C dx fs) ∧ TyX K H y tb ∧ PySem.W.notFirst K C tb = true ∧ sp [x, y] H (fun v H' => ∃ b, v = .bl b ∧ Q (.bl (!b)) H') E
theorem op_neO {K : PySem.W.Frag} (hK : X.K = K) (hm : Meth X.K C "__eq__" f) (hn : NeT X.K C) (F : PromOX X CX k f [] sp) (hr : Room (k + 1) X.A) (hx : Passes CX X E) : OpR X (compareOp .NotEq) (rNeO K C sp E) := by
  subst hK
  intro pins s σ H x y v u Q I rx ry h
  unfold rNeO at h
  obtain ⟨a, dx, fs, tb, rfl, ha, ty, nf, q⟩ := h
  cases (show v = Value.ref a from rx)
  obtain ⟨ox, od, J⟩ := ins_look I ha
  obtain ⟨m, hF⟩ := I.fr
  obtain ⟨P, Z, p, hx'⟩ := kit_of I ry ty
  refine ne_K (b := u) (tb := tb) (by have := hr.un; omega) hF I.ok.mod.kin J (Z.ty _ _ I.kIn p) nf hn.ne hn.ob hm.at_ hm.fn (wpAny_mono (promO_in1 (vs := [.ref a, y]) F hr hx I (.cons rfl (.cons ry .nil)) q) (fun w s' z => ?_) fun _ _ x => x)
  obtain ⟨v', H', I', rv', b, rfl, q'⟩ := z
  cases (show w = Value.bool b from rv')
  exact ⟨b, rfl, .bl (!b), H', I', rfl, q'⟩
end
end Gh
end
section
set_option Elab.async false
set_option linter.all false
set_option maxRecDepth 100000
set_option maxHeartbeats 4000000
namespace Gh
open PySem PySem.Spec PyProof.Rows L2
section
variable {K : PySem.W.Frag} {H : Hp} {Q : VK} {a C dx : Addr} {fs : List (Str × V)} {sp : Sp} {E : XK} {r : List V → Hp → VK → Prop} {x y : V} {tb : Value}
theorem st_strO (h : H a = some (.ins C dx fs)) (q : rSp sp [] E [.ref a] H (fun v H' => ∃ z, v = .str z ∧ Q (.str z) H')) : rStrO C sp E [.ref a] H Q := by
  unfold rStrO
  exact ⟨a, dx, fs, rfl, h, q⟩
theorem st_eqO (h : H a = some (.ins C dx fs)) (ty : TyX K H y tb) (nf : PySem.W.notFirst K C tb = true) (q : r [.ref a, y] H Q) : rEqO K C r (.ref a) y H Q := by
  unfold rEqO
  exact ⟨a, dx, fs, tb, rfl, h, ty, nf, q⟩
theorem st_neO (h : H a = some (.ins C dx fs)) (ty : TyX K H y tb) (nf : PySem.W.notFirst K C tb = true) (q : rSp sp [] E [.ref a, y] H (fun v H' => ∃ b, v = .bl b ∧ Q (.bl (!b)) H')) : rNeO K C sp E (.ref a) y H Q := by
  unfold rNeO
  exact ⟨a, dx, fs, tb, rfl, h, ty, nf, q⟩
end
end Gh
end
section
set_option Elab.async false
set_option linter.all false
set_option maxRecDepth 100000
set_option maxHeartbeats 4000000
namespace Gp
open PySem PySem.Spec PyProof.Rows L2 Gh
section
variable {α β γ : Type}
def nox : Tr α → Tr α
  | .ok a => .ok a
  | .ex _ _ => .bad
  | .bad => .bad
  | .draw m f => .draw m fun d => nox (f d)
theorem bd_bd (m : Tr α) (k : α → Tr β) (l : β → Tr γ) : bd (bd m k) l = bd m fun a => bd (k a) l := by
  induction m with
  | draw m f ih =>
    show Tr.draw m _ = Tr.draw m _
    congr 1
    funext d
    exact ih d
  | _ => rfl
theorem al_bd {P : β → Nat → Prop} {E : Str → Fs → Nat → Prop} {m : Tr α} {k : α → Tr β} {b : Nat} : Al P E (bd m k) b ↔ Al (fun a b1 => Al P E (k a) b1) E m b := by
  induction m generalizing b with
  | draw m f ih =>
    constructor
    · rintro ⟨b', e, h1, h2, h3⟩
      exact ⟨b', e, h1, h2, fun d d0 d1 => (ih d).mp (h3 d d0 d1)⟩
    · rintro ⟨b', e, h1, h2, h3⟩
      exact ⟨b', e, h1, h2, fun d d0 d1 => (ih d).mpr (h3 d d0 d1)⟩
  | _ => exact Iff.rfl
theorem al_nox {P : α → Nat → Prop} {E E' : Str → Fs → Nat → Prop} {m : Tr α} {b : Nat} (h : Al P E (nox m) b) : Al P E' m b := by
  induction m generalizing b with
  | ok a => exact h
  | ex c fs => exact h.elim
  | bad => exact h
  | draw m f ih =>
    obtain ⟨b', e, h1, h2, h3⟩ := h
    exact ⟨b', e, h1, h2, fun d d0 d1 => ih d (h3 d d0 d1)⟩
end
section
variable {g : Gw} {U U' : Addr → Prop} {H H' : Hp}
theorem DenL.take : ∀ {vs : List V} {ds : List D} (n : Nat), DenL g U H vs ds → DenL g U H (vs.take n) (ds.take n)
  | _, _, 0, _ => .nil
  | _, _, _ + 1, .nil => .nil
  | _, _, n + 1, .cons a r => .cons a (DenL.take n r)
theorem DenL.drop : ∀ {vs : List V} {ds : List D} (n : Nat), DenL g U H vs ds → DenL g U H (vs.drop n) (ds.drop n)
  | _, _, 0, r => r
  | _, _, _ + 1, .nil => .nil
  | _, _, n + 1, .cons a r => DenL.drop n r
theorem DenF.look0 : ∀ {vs : List (Str × V)} {ds : List (Str × D)} {n : Str}, DenF g U H vs ds → ds.lookup n = none → vs.lookup n = none
  | _, _, _, .nil, _ => rfl
  | _, _, n, .cons (n := m) a r, e => by
    simp only [List.lookup] at e ⊢
    cases q : (n == m) with
    | true => rw [q] at e; cases e
    | false => rw [q] at e; exact DenF.look0 r e
def putD (f : Str) (v : D) : List (Str × D) → List (Str × D)
  | [] => [(f, v)]
  | (g, x) :: r => if g = f then (g, v) :: r else (g, x) :: putD f v r
theorem DenF.put {f : Str} {v : V} {d : D} (h : Den g U H v d) : ∀ {vs : List (Str × V)} {ds : List (Str × D)}, DenF g U H vs ds → DenF g U H (putF f v vs) (putD f d ds)
  | _, _, .nil => .cons h .nil
  | _, _, .cons (n := m) a r => by
    unfold putF putD
    split
    · exact .cons h r
    · exact .cons a (DenF.put h r)
end
section
variable {g : Gw} {U U' : Addr → Prop} {H H' H1 H2 : Hp} {b : Nat}
theorem fr_same (s : L2.Same H H') {p : Addr} : Fr H H' p := fun a o h _ _ => s a o h
theorem UOk.new (u : UOk g U H) {a : Addr} (h : H a = none) : ¬ U a := fun z => by
  obtain ⟨o, e, _⟩ := u.al a z
  rw [h] at e
  cases e
end
instance : Coe (List D) Ow := ⟨.l⟩
section
variable {g : Gw} {U U' : Addr → Prop} {H H' H1 H2 : Hp} {b : Nat} {σ : L2.St} {ε : Env}
mutual
theorem Den.grow {x : Addr} (n : H x = none) : ∀ {v : V} {d : D}, Den g U H v d → Den g (fun a => U a ∨ a = x) H v d
  | _, _, .non => .non
  | _, _, .bl b => .bl b
  | _, _, .int i => .int i
  | _, _, .str x h => .str x h
  | _, _, .tup h k l r => .tup h (fun z => z.elim k (ne_of_none h n)) l (DenL.grow n r)
  | _, _, .tupW h l r nk => .tupW h l (DenL.grow n r) nk
  | _, _, .lst h k l r => .lst h (fun z => z.elim k (ne_of_none h n)) l (DenL.grow n r)
  | _, _, .obj h k r => .obj h (fun z => z.elim k (ne_of_none h n)) (DenF.grow n r)
  | _, _, .err h k h2 k2 r => .err h (fun z => z.elim k (ne_of_none h n)) h2 (fun z => z.elim k2 (ne_of_none h2 n)) (DenF.grow n r)
  | _, _, .pen => .pen
  | _, _, .cls c => .cls c
  | _, _, .dct h k => .dct h (fun z => z.elim k (ne_of_none h n))
  | _, _, .dic h k l r => .dic h (fun z => z.elim k (ne_of_none h n)) l (DenL.grow n r)
  | _, _, .dit h k l r => .dit h (fun z => z.elim k (ne_of_none h n)) l (DenL.grow n r)
  | _, _, .dik h k l r => .dik h (fun z => z.elim k (ne_of_none h n)) l (DenL.grow n r)
theorem DenL.grow {x : Addr} (n : H x = none) : ∀ {vs : List V} {ds : List D}, DenL g U H vs ds → DenL g (fun a => U a ∨ a = x) H vs ds
  | _, _, .nil => .nil
  | _, _, .cons a r => .cons (Den.grow n a) (DenL.grow n r)
theorem DenF.grow {x : Addr} (n : H x = none) : ∀ {vs : List (Str × V)} {ds : List (Str × D)}, DenF g U H vs ds → DenF g (fun a => U a ∨ a = x) H vs ds
  | _, _, .nil => .nil
  | _, _, .cons a r => .cons (Den.grow n a) (DenF.grow n r)
end
theorem SlR.grow {x : Addr} (n : H x = none) {o : Option V} : ∀ {s : Sl}, SlR g U H o s → SlR g (fun a => U a ∨ a = x) H o s
  | .no, _ => trivial
  | .fz d, ⟨v, e, h⟩ => ⟨v, e, h.grow n⟩
  | .ow ds, ⟨a, vs, e, h, k, ua, n1, n2⟩ => ⟨a, vs, e, h, k.map (fun q => q.grow n), .inl ua, n1, n2⟩
  | .oi c fs, ⟨a, dx, fvs, e, h, k, ua, n1, n2⟩ => ⟨a, dx, fvs, e, h, k.grow n, .inl ua, n1, n2⟩
theorem Rel.grow {x : Addr} (r : Rel g U H σ ε) (n : H x = none) : Rel g (fun a => U a ∨ a = x) H σ ε := ⟨r.len, fun i s e => by
  obtain ⟨o, h1, h2⟩ := r.at_ i s e
  exact ⟨o, h1, h2.grow n⟩, r.apart⟩
def okL (g : Gw) (U : Addr → Prop) (H : Hp) (Q : List V → Hp → Prop) : List D → Nat → Prop := fun d b => ∀ v H', DenL g U H' v d → Wd g H' b → Fr H H' g.p → Q v H'
def okB (g : Gw) (U : Addr → Prop) (H : Hp) (Q : Bool → Hp → Prop) : Bool → Nat → Prop := fun d b => ∀ H', Wd g H' b → Fr H H' g.p → Q d H'
def SE (g : Gw) (E : XK) (ε : Env) (t : TE) (m : Tr D) : Prop := ∀ U σ H b Q, Rel g U H σ ε → Wd g H b → UOk g U H → Al (okP g U H Q) (exP g U E H) m b → t σ H Q
def SA (g : Gw) (E : XK) (ε : Env) (t : TA) (m : Tr (List D)) : Prop := ∀ U σ H b Q, Rel g U H σ ε → Wd g H b → UOk g U H → Al (okL g U H Q) (exP g U E H) m b → t σ H Q
def ST (g : Gw) (E : XK) (ε : Env) (t : TT) (m : Tr Bool) : Prop := ∀ U σ H b Q, Rel g U H σ ε → Wd g H b → UOk g U H → Al (okB g U H Q) (exP g U E H) m b → t σ H Q
def SR1 (g : Gw) (E : XK) (r : V → Hp → VK → Prop) (f : D → Tr D) : Prop := ∀ U H b x dx Q, Den g U H x dx → Wd g H b → UOk g U H → Al (okP g U H Q) (exP g U E H) (f dx) b → r x H Q
def SR2 (g : Gw) (E : XK) (r : R2) (f : D → D → Tr D) : Prop := ∀ U H b x y dx dy Q, Den g U H x dx → Den g U H y dy → Wd g H b → UOk g U H → Al (okP g U H Q) (exP g U E H) (f dx dy) b → r x y H Q
def SRL (g : Gw) (E : XK) (r : List V → Hp → VK → Prop) (f : List D → Tr D) : Prop := ∀ U H b xs dxs Q, DenL g U H xs dxs → Wd g H b → UOk g U H → Al (okP g U H Q) (exP g U E H) (f dxs) b → r xs H Q
theorem al_frX {α : Type} {E : XK} {P : α → Nat → Prop} {m : Tr α} (f : Fr H H1 g.p) (h : Al P (exP g U E H) m b) : Al P (exP g U E H1) m b := h.mono (fun _ _ h => h) (fun _ _ _ h => h.fr f)
variable {E : XK} {ta tb tc : TE} {ma mb : Tr D}
theorem SE.step {α : Type} {k : D → Tr α} {P : α → Nat → Prop} {Q : VK} (ha : SE g E ε ta ma) (R : Rel g U H σ ε) (W : Wd g H b) (u : UOk g U H) (h : Al P (exP g U E H) (bd ma k) b)
    (hk : ∀ v d H1 b1, Den g U H1 v d → Wd g H1 b1 → Fr H H1 g.p → Rel g U H1 σ ε → UOk g U H1 → Al P (exP g U E H1) (k d) b1 → Q v H1) : ta σ H Q :=
  ha U σ H b Q R W u ((al_bd.mp h).mono (fun d b1 h1 v H1 d1 w1 f1 => hk v d H1 b1 d1 w1 f1 (R.fr u f1) (u.fr f1 w1) (al_frX f1 h1)) (fun _ _ _ h => h))
theorem SA.step {α : Type} {t : TA} {m : Tr (List D)} {k : List D → Tr α} {P : α → Nat → Prop} {Q : List V → Hp → Prop} (ha : SA g E ε t m) (R : Rel g U H σ ε) (W : Wd g H b) (u : UOk g U H) (h : Al P (exP g U E H) (bd m k) b)
    (hk : ∀ v d H1 b1, DenL g U H1 v d → Wd g H1 b1 → Fr H H1 g.p → Rel g U H1 σ ε → UOk g U H1 → Al P (exP g U E H1) (k d) b1 → Q v H1) : t σ H Q :=
  ha U σ H b Q R W u ((al_bd.mp h).mono (fun d b1 h1 v H1 d1 w1 f1 => hk v d H1 b1 d1 w1 f1 (R.fr u f1) (u.fr f1 w1) (al_frX f1 h1)) (fun _ _ _ h => h))
theorem ST.step {α : Type} {t : TT} {m : Tr Bool} {k : Bool → Tr α} {P : α → Nat → Prop} {Q : Bool → Hp → Prop} (ha : ST g E ε t m) (R : Rel g U H σ ε) (W : Wd g H b) (u : UOk g U H) (h : Al P (exP g U E H) (bd m k) b)
    (hk : ∀ d H1 b1, Wd g H1 b1 → Fr H H1 g.p → Rel g U H1 σ ε → UOk g U H1 → Al P (exP g U E H1) (k d) b1 → Q d H1) : t σ H Q :=
  ha U σ H b Q R W u ((al_bd.mp h).mono (fun d b1 h1 H1 w1 f1 => hk d H1 b1 w1 f1 (R.fr u f1) (u.fr f1 w1) (al_frX f1 h1)) (fun _ _ _ h => h))
theorem se_var {i : Nat} {d : D} (h : ε[i]? = some (.fz d) := by rfl) : SE g E ε (tVar i) (.ok d) := fun U σ H b Q R W u q => by
  obtain ⟨o, e, v, rfl, dn⟩ := R.at_ i _ h
  exact ⟨v, e, okP.here q W dn⟩
theorem se_c {v : V} {d : D} (h : ∀ U H, Den g U H v d) : SE g E ε (tC v) (.ok d) := fun U σ H b Q R W u q => okP.here q W (h U H)
theorem se_int {i : Int} : SE g E ε (tC (.int i)) (.ok (.int i)) := se_c fun _ _ => .int i
theorem se_bl {i : Bool} : SE g E ε (tC (.bl i)) (.ok (.bl i)) := se_c fun _ _ => .bl i
theorem se_non : SE g E ε (tC .non) (.ok .non) := se_c fun _ _ => .non
theorem se_str {x : Str} (h : x.length ≤ sizeLine) : SE g E ε (tC (.str x)) (.ok (.str x)) := se_c fun _ _ => .str x h
theorem se_op {r : R2} {f : D → D → Tr D} (hr : SR2 g E r f) (ha : SE g E ε ta ma) (hb : SE g E ε tb mb) : SE g E ε (tOp r ta tb) (bd ma fun x => bd mb fun y => f x y) := fun U σ H b Q R W u q =>
  ha.step R W u q fun v d H1 b1 d1 w1 f1 R1 u1 q1 => hb.step R1 w1 u1 q1 fun v2 e H2 b2 d2 w2 f2 R2 u2 q2 => hr U H2 b2 v v2 d e Q (d1.fr u1 f2) d2 w2 u2 (q2.mono (fun _ _ h => h.fr (f1.trans f2)) (fun _ _ _ h => h))
theorem se_un {r : V → Hp → VK → Prop} {f : D → Tr D} (hr : SR1 g E r f) (ha : SE g E ε ta ma) : SE g E ε (tUn r ta) (bd ma f) := fun U σ H b Q R W u q =>
  ha.step R W u q fun v d H1 b1 d1 w1 f1 R1 u1 q1 => hr U H1 b1 v d Q d1 w1 u1 (q1.mono (fun _ _ h => h.fr f1) (fun _ _ _ h => h))
theorem sa_nil : SA g E ε tNil (.ok []) := fun U σ H b Q R W u q => q [] H .nil W Fr.refl
theorem sa_cons {t : TA} {m : Tr (List D)} (ha : SE g E ε ta ma) (hb : SA g E ε t m) : SA g E ε (tCons ta t) (bd ma fun x => bd m fun xs => .ok (x :: xs)) := fun U σ H b Q R W u q =>
  ha.step R W u q fun v d H1 b1 d1 w1 f1 R1 u1 q1 => hb.step R1 w1 u1 q1 fun v2 e H2 b2 d2 w2 f2 R2 u2 q2 => q2 (v :: v2) H2 (.cons (d1.fr u1 f2) d2) w2 (f1.trans f2)
theorem se_cl {r : List V → Hp → VK → Prop} {f : List D → Tr D} {t : TA} {m : Tr (List D)} (hr : SRL g E r f) (ha : SA g E ε t m) : SE g E ε (tCl r t) (bd m f) := fun U σ H b Q R W u q =>
  ha.step R W u q fun v d H1 b1 d1 w1 f1 R1 u1 q1 => hr U H1 b1 v d Q d1 w1 u1 (q1.mono (fun _ _ h => h.fr f1) (fun _ _ _ h => h))
theorem se_cb {r : List V → Hp → VK → Prop} {f : List D → Tr D} {t : TA} {m : Tr (List D)} (hr : SRL g E r f) (ha : SA g E ε t m) : SE g E ε (tCB r t) (bd m f) := se_cl hr ha
def asB : D → Tr Bool
  | .bl b => .ok b
  | _ => .bad
theorem al_asB {P : Bool → Nat → Prop} {X : Str → Fs → Nat → Prop} {d : D} (h : Al P X (asB d) b) : ∃ k, d = .bl k ∧ P k b := by
  cases d with
  | bl k => exact ⟨k, rfl, h⟩
  | _ => exact h.elim
theorem al_asBk {α : Type} {P : α → Nat → Prop} {X : Str → Fs → Nat → Prop} {d : D} {k : Bool → Tr α} (h : Al P X (bd (asB d) k) b) : ∃ c, d = .bl c ∧ Al P X (k c) b := al_asB (al_bd.mp h)
theorem den_bl {v : V} {k : Bool} (h : Den g U H v (.bl k)) : v = .bl k := by cases h; rfl
theorem sb_tst (ha : SE g E ε ta ma) : ST g E ε (tTest ta) (bd ma asB) := fun U σ H b Q R W u q =>
  ha.step R W u q fun v d H1 b1 d1 w1 f1 R1 u1 q1 => by
    obtain ⟨k, rfl, q2⟩ := al_asB q1
    exact ⟨k, den_bl d1, q2 H1 w1 f1⟩
theorem sb_tb (ha : SE g E ε ta ma) : ST g E ε (tB ta) (bd ma asB) := sb_tst ha
theorem sb_and {c d : TT} {m n : Tr Bool} (ha : ST g E ε c m) (hb : ST g E ε d n) : ST g E ε (tAnd c d) (bd m fun k => if k = true then n else .ok false) := fun U σ H b Q R W u q =>
  ha.step R W u q fun k H1 b1 w1 f1 R1 u1 q1 => by
    cases k with
    | true => exact hb U σ H1 b1 Q R1 w1 u1 (q1.mono (fun _ _ h H' w f => h H' w (f1.trans f)) (fun _ _ _ h => h))
    | false => exact q1 H1 w1 f1
theorem sb_or {c d : TT} {m n : Tr Bool} (ha : ST g E ε c m) (hb : ST g E ε d n) : ST g E ε (tOr c d) (bd m fun k => if k = true then .ok true else n) := fun U σ H b Q R W u q =>
  ha.step R W u q fun k H1 b1 w1 f1 R1 u1 q1 => by
    cases k with
    | false => exact hb U σ H1 b1 Q R1 w1 u1 (q1.mono (fun _ _ h H' w f => h H' w (f1.trans f)) (fun _ _ _ h => h))
    | true => exact q1 H1 w1 f1
theorem sb_not {c : TT} {m : Tr Bool} (ha : ST g E ε c m) : ST g E ε (tNot c) (bd m fun k => .ok (!k)) := fun U σ H b Q R W u q =>
  ha.step R W u q fun k H1 b1 w1 f1 R1 u1 q1 => q1 H1 w1 f1
theorem se_if {c : TT} {m : Tr Bool} (hc : ST g E ε c m) (ha : SE g E ε ta ma) (hb : SE g E ε tb mb) : SE g E ε (tIf c ta tb) (bd m fun k => if k = true then ma else mb) := fun U σ H b Q R W u q =>
  hc.step R W u q fun k H1 b1 w1 f1 R1 u1 q1 => by
    have q2 := q1.mono (P' := okP g U H1 Q) (fun _ _ h => okP.fr f1 h) (fun _ _ _ h => h)
    cases k with
    | true => exact ha U σ H1 b1 Q R1 w1 u1 q2
    | false => exact hb U σ H1 b1 Q R1 w1 u1 q2
theorem se_andV (ha : SE g E ε ta ma) (hb : SE g E ε tb mb) : SE g E ε (tAndV ta tb) (bd (bd ma asB) fun k => if k = true then mb else .ok (.bl false)) := fun U σ H b Q R W u q => by
  rw [bd_bd] at q
  refine ha.step R W u q fun v d H1 b1 d1 w1 f1 R1 u1 q1 => ?_
  obtain ⟨k, rfl, q2⟩ := al_asBk q1
  refine ⟨k, den_bl d1, ?_⟩
  replace q2 := q2.mono (P' := okP g U H1 Q) (fun _ _ h => okP.fr f1 h) (fun _ _ _ h => h)
  cases k with
  | true => exact hb U σ H1 b1 Q R1 w1 u1 q2
  | false => exact okP.here q2 w1 (.bl false)
theorem se_notV (ha : SE g E ε ta ma) : SE g E ε (tNotV ta) (bd (bd ma asB) fun k => .ok (.bl (!k))) := fun U σ H b Q R W u q => by
  rw [bd_bd] at q
  refine ha.step R W u q fun v d H1 b1 d1 w1 f1 R1 u1 q1 => ?_
  obtain ⟨k, rfl, q2⟩ := al_asBk q1
  exact ⟨k, den_bl d1, q2 _ H1 (.bl (!k)) w1 f1⟩
theorem se_chain {r r' : R2} {f f' : D → D → Tr D} {mc : Tr D} (hr : SR2 g E r f) (hr' : SR2 g E r' f') (ha : SE g E ε ta ma) (hb : SE g E ε tb mb) (hc : SE g E ε tc mc) :
    SE g E ε (tChain r r' ta tb tc) (bd ma fun x => bd mb fun y => bd (bd (f x y) asB) fun k => if k = true then bd mc fun z => f' y z else .ok (.bl false)) := fun U σ H b Q R W u q =>
  ha.step R W u q fun v d H1 b1 d1 w1 f1 R1 u1 q1 => hb.step R1 w1 u1 q1 fun v2 e H2 b2 d2 w2 f2 R2 u2 q2 => by
    rw [bd_bd] at q2
    refine hr U H2 b2 v v2 d e _ (d1.fr u1 f2) d2 w2 u2 ((al_bd.mp q2).mono (fun z b3 h3 v3 H3 d3 w3 f3 => ?_) (fun _ _ _ h => h))
    obtain ⟨k, rfl, q3⟩ := al_asBk h3
    refine ⟨k, den_bl d3, ?_⟩
    have q4 := q3.mono (P' := okP g U H3 Q) (E' := exP g U E H3) (fun _ _ h => okP.fr ((f1.trans f2).trans f3) h) (fun _ _ _ h => h.fr f3)
    cases k with
    | false => exact okP.here q4 w3 (.bl false)
    | true =>
      refine hc.step (R2.fr u2 f3) w3 (u2.fr f3 w3) q4 fun v4 z H4 b4 d4 w4 f4 R4 u4 q5 => ?_
      exact hr' U H4 b4 v2 v4 e z Q (d2.fr u2 (f3.trans f4)) d4 w4 u4 (q5.mono (fun _ _ h => h.fr f4) (fun _ _ _ h => h))
theorem se_lst {t : TA} {m : Tr (List D)} (ha : SA g E ε t m) : SE g E ε (tLst t) (bd m fun ds => if ds.length ≤ sizeLine then .ok (.lst ds) else .bad) := fun U σ H b Q R W u q =>
  ha.step R W u q fun v d H1 b1 d1 w1 f1 R1 u1 q1 => by
    by_cases hl : d.length ≤ sizeLine
    · rw [if_pos hl] at q1
      have hl' : v.length ≤ sizeLine := by rw [d1.length]; exact hl
      refine ⟨hl', fun p np => ?_⟩
      have s := same_new (o := .lst v) np
      exact q1 _ _ (.lst upd_same (u1.new np) hl' (d1.ext (u1.extU (fr_same s)))) (w1.same s) (f1.trans (fr_same s))
    · rw [if_neg hl] at q1
      exact q1.elim
theorem se_tup {t : TA} {m : Tr (List D)} (ha : SA g E ε t m) : SE g E ε (tTup t) (bd m fun ds => if ds.length ≤ sizeLine then .ok (.tup ds) else .bad) := fun U σ H b Q R W u q =>
  ha.step R W u q fun v d H1 b1 d1 w1 f1 R1 u1 q1 => by
    by_cases hl : d.length ≤ sizeLine
    · rw [if_pos hl] at q1
      have hl' : v.length ≤ sizeLine := by rw [d1.length]; exact hl
      refine ⟨hl', fun p np => ?_⟩
      have s := same_new (o := .tup v) np
      exact q1 _ _ (.tup upd_same (u1.new np) hl' (d1.ext (u1.extU (fr_same s)))) (w1.same s) (f1.trans (fr_same s))
    · rw [if_neg hl] at q1
      exact q1.elim
theorem se_nox (ha : SE g (fun _ _ _ => False) ε ta ma) : SE g E ε ta (nox ma) := fun U σ H b Q R W u q => ha U σ H b Q R W u (al_nox q)
end
end Gp
end
section
set_option Elab.async false
set_option linter.all false
set_option maxRecDepth 100000
set_option maxHeartbeats 4000000
namespace Gp
open PySem PySem.Spec PyProof.Rows L2 Gh
section
variable {g : Gw} {Mt U0 U U' : Addr → Prop} {H0 H H' H1 H2 : Hp} {b b1 : Nat} {σ : L2.St} {ε ε' : Env} {E : XK} {W L W' : Type}
theorem UOk.ev (u : UOk g U H) (f : Fr H H' g.p) : Ev U H U H' := ⟨fun a o e n t => f a o e (fun z => n (z ▸ u.p)) t, fun _ _ _ n _ => n⟩
mutual
theorem Den.ev (e : Ev U H U' H') : ∀ {v : V} {d : D}, Den g U H v d → Den g U' H' v d
  | _, _, .non => .non
  | _, _, .bl b => .bl b
  | _, _, .int i => .int i
  | _, _, .str x h => .str x h
  | _, _, .tup h n l k => .tup (e.keep _ _ h n (fun _ z => by cases z)) (e.out _ _ h n (fun _ z => by cases z)) l (DenL.ev e k)
  | _, _, .tupW h l k nk => .tupW h l (DenL.ev e k) nk
  | _, _, .lst h n l k => .lst (e.keep _ _ h n (fun _ z => by cases z)) (e.out _ _ h n (fun _ z => by cases z)) l (DenL.ev e k)
  | _, _, .obj h n k => .obj (e.keep _ _ h n (fun _ z => by cases z)) (e.out _ _ h n (fun _ z => by cases z)) (DenF.ev e k)
  | _, _, .err h n h2 n2 k => .err (e.keep _ _ h n (fun _ z => by unfold exk at z; cases z)) (e.out _ _ h n (fun _ z => by unfold exk at z; cases z)) (e.keep _ _ h2 n2 (fun _ z => by cases z)) (e.out _ _ h2 n2 (fun _ z => by cases z)) (DenF.ev e k)
  | _, _, .pen => .pen
  | _, _, .cls c => .cls c
  | _, _, .dct h n => .dct (e.keep _ _ h n (fun _ z => by cases z)) (e.out _ _ h n (fun _ z => by cases z))
  | _, _, .dic h n l k => .dic (e.keep _ _ h n (fun _ z => by cases z)) (e.out _ _ h n (fun _ z => by cases z)) l (DenL.ev e k)
  | _, _, .dit h n l k => .dit (e.keep _ _ h n (fun _ z => by cases z)) (e.out _ _ h n (fun _ z => by cases z)) l (DenL.ev e k)
  | _, _, .dik h n l k => .dik (e.keep _ _ h n (fun _ z => by cases z)) (e.out _ _ h n (fun _ z => by cases z)) l (DenL.ev e k)
theorem DenL.ev (e : Ev U H U' H') : ∀ {vs : List V} {ds : List D}, DenL g U H vs ds → DenL g U' H' vs ds
  | _, _, .nil => .nil
  | _, _, .cons a r => .cons (Den.ev e a) (DenL.ev e r)
theorem DenF.ev (e : Ev U H U' H') : ∀ {vs : List (Str × V)} {ds : List (Str × D)}, DenF g U H vs ds → DenF g U' H' vs ds
  | _, _, .nil => .nil
  | _, _, .cons a r => .cons (Den.ev e a) (DenF.ev e r)
end
theorem flP.ev {U1 : Addr → Prop} {H1 : Hp} {D : Ends} {env : W → Env} {envL : L → Env} (e : Ev U H U1 H1) : ∀ {f : Fl W L}, flP g Mt U0 H0 U H D env envL f b → flP g Mt U0 H0 U1 H1 D env envL f b
  | .nx w, h => fun U' σ' H' e1 => h U' σ' H' (e.trans e1)
  | .rt d, h => h
  | .bk w, h => fun U' σ' H' e1 => h U' σ' H' (e.trans e1)
  | .ct w, h => fun U' σ' H' e1 => h U' σ' H' (e.trans e1)
def SS (g : Gw) (E : XK) (ε : Env) (t : TS) (env : W → Env) (envL : L → Env) (m : Tr (Fl W L)) : Prop := ∀ Mt U0 H0 U D σ H b, Stt g Mt U0 H0 U σ H b ε → Al (flP g Mt U0 H0 U H D env envL) (exS g Mt U0 H0 E) m b → t D σ H
theorem SE.sstep {t : TE} {m : Tr D} {k : D → Tr (Fl W L)} {Ds : Ends} {env : W → Env} {envL : L → Env} {Q : VK} (he : SE g E ε t m) (s : Stt g Mt U0 H0 U σ H b ε) (h : Al (flP g Mt U0 H0 U H Ds env envL) (exS g Mt U0 H0 E) (bd m k) b)
    (hk : ∀ v d H1 b1, Den g U H1 v d → Stt g Mt U0 H0 U σ H1 b1 ε → Al (flP g Mt U0 H0 U H1 Ds env envL) (exS g Mt U0 H0 E) (k d) b1 → Q v H1) : t σ H Q :=
  he U σ H b Q s.rel s.wd s.uok ((al_bd.mp h).mono (fun d b1 h1 v H1 d1 w1 f1 => hk v d H1 b1 d1 (s.fr f1 w1) (h1.mono (fun _ _ z => z.ev (s.uok.ev f1)) (fun _ _ _ z => z))) (fun _ _ _ h => exS.exP s h))
theorem SA.sstep {t : TA} {m : Tr (List D)} {k : (List D) → Tr (Fl W L)} {Ds : Ends} {env : W → Env} {envL : L → Env} {Q : List V → Hp → Prop} (he : SA g E ε t m) (s : Stt g Mt U0 H0 U σ H b ε) (h : Al (flP g Mt U0 H0 U H Ds env envL) (exS g Mt U0 H0 E) (bd m k) b)
    (hk : ∀ v d H1 b1, DenL g U H1 v d → Stt g Mt U0 H0 U σ H1 b1 ε → Al (flP g Mt U0 H0 U H1 Ds env envL) (exS g Mt U0 H0 E) (k d) b1 → Q v H1) : t σ H Q :=
  he U σ H b Q s.rel s.wd s.uok ((al_bd.mp h).mono (fun d b1 h1 v H1 d1 w1 f1 => hk v d H1 b1 d1 (s.fr f1 w1) (h1.mono (fun _ _ z => z.ev (s.uok.ev f1)) (fun _ _ _ z => z))) (fun _ _ _ h => exS.exP s h))
theorem ST.sstep {t : TT} {m : Tr Bool} {k : Bool → Tr (Fl W L)} {Ds : Ends} {env : W → Env} {envL : L → Env} {Q : Bool → Hp → Prop} (he : ST g E ε t m) (s : Stt g Mt U0 H0 U σ H b ε) (h : Al (flP g Mt U0 H0 U H Ds env envL) (exS g Mt U0 H0 E) (bd m k) b)
    (hk : ∀ d H1 b1,  Stt g Mt U0 H0 U σ H1 b1 ε → Al (flP g Mt U0 H0 U H1 Ds env envL) (exS g Mt U0 H0 E) (k d) b1 → Q d H1) : t σ H Q :=
  he U σ H b Q s.rel s.wd s.uok ((al_bd.mp h).mono (fun d b1 h1 H1 w1 f1 => hk d H1 b1 (s.fr f1 w1) (h1.mono (fun _ _ z => z.ev (s.uok.ev f1)) (fun _ _ _ z => z))) (fun _ _ _ h => exS.exP s h))
theorem ownAt_le (l : Le ε' ε) {i : Nat} {a : Addr} (h : OwnAt σ ε' i a) : OwnAt σ ε i a := by
  obtain ⟨h1, h2⟩ := h
  refine ⟨h1, ?_⟩
  rcases h2 with ⟨ds, h2⟩ | ⟨c, fs, h2⟩
  · rcases l.get h2 with ⟨z, _⟩ | z
    · cases z
    · exact .inl ⟨ds, z⟩
  · rcases l.get h2 with ⟨z, _⟩ | z
    · cases z
    · exact .inr ⟨c, fs, z⟩
theorem Stt.le (s : Stt g Mt U0 H0 U σ H b ε) (l : Le ε' ε) : Stt g Mt U0 H0 U σ H b ε' :=
  ⟨⟨s.rel.len.trans l.len.symm, fun i x e => by
    rcases l.get e with ⟨rfl, z, h⟩ | h
    · obtain ⟨o, h1, _⟩ := s.rel.at_ i z h
      exact ⟨o, h1, trivial⟩
    · exact s.rel.at_ i x h, fun i j a n h1 h2 => s.rel.apart i j a n (ownAt_le l h1) (ownAt_le l h2)⟩, s.wd, s.uok, s.sub, fun i a o => s.own i a (ownAt_le l o), s.ext, fun i ds a e1 e2 => (by
    rcases l.get e1 with ⟨z, _⟩ | z
    · cases z
    · exact s.nu0 i ds a z e2), fun i c fs a j0 e1 e2 => by
    rcases l.get e1 with ⟨z, _⟩ | z
    · cases z
    · exact s.oim i c fs a j0 z e2⟩
variable {env : W → Env} {envL : L → Env} {env' : W' → Env} {u ta tb : TS} {te : TE} {me : Tr D}
theorem ss_nx {w : W} (l : Le (env w) ε) : SS g E ε tNext env envL (.ok (.nx w)) := fun Mt U0 H0 U D σ H b s q => q U σ H Ev.refl (s.le l)
theorem ss_asg {i : Nat} {k : D → Tr (Fl W L)} (he : SE g E ε te me) (hk : ∀ d, SS g E (ε.set i (.fz d)) u env envL (k d)) : SS g E ε (tSeq (tAsg te (gName i)) u) env envL (bd me k) := fun Mt U0 H0 U D σ H b s q =>
  he.sstep s q fun v d H1 b1 d1 s1 q1 => hk d Mt U0 H0 U D _ H1 b1 (s1.set i d1) q1
theorem ss_ret (he : SE g E ε te me) : SS g E ε (tSeq (tRet te) u) env envL (bd me fun d => .ok (.rt d)) := fun Mt U0 H0 U D σ H b s q =>
  he.sstep s q fun v d H1 b1 d1 s1 q1 => q1 v H1 (d1.sub fun a _ z => s1.sub a z) s1.wd s1.ext
def ul0 {α : Type} (k : Tr α) (ds : List D) : Tr α := match ds with
  | [] => k
  | _ => .bad
def ul1 {α : Type} (k : D → Tr α) (ds : List D) : Tr α := match ds with
  | [x] => k x
  | _ => .bad
def ul2 {α : Type} (k : D → D → Tr α) (ds : List D) : Tr α := match ds with
  | [x, y] => k x y
  | _ => .bad
def ul3 {α : Type} (k : D → D → D → Tr α) (ds : List D) : Tr α := match ds with
  | [x, y, z] => k x y z
  | _ => .bad
def ul4 {α : Type} (k : D → D → D → D → Tr α) (ds : List D) : Tr α := match ds with
  | [x, y, z, w] => k x y z w
  | _ => .bad
section
variable {α : Type} {P : α → Nat → Prop} {X : Str → Fs → Nat → Prop} {ds : List D}
theorem al_ul1 {k : D → Tr α} (h : Al P X (ul1 k ds) b) : ∃ x, ds = [x] ∧ Al P X (k x) b := by
  unfold ul1 at h; split at h
  · exact ⟨_, rfl, h⟩
  · exact h.elim
theorem al_ul2 {k : D → D → Tr α} (h : Al P X (ul2 k ds) b) : ∃ x y, ds = [x, y] ∧ Al P X (k x y) b := by
  unfold ul2 at h; split at h
  · exact ⟨_, _, rfl, h⟩
  · exact h.elim
theorem al_ul3 {k : D → D → D → Tr α} (h : Al P X (ul3 k ds) b) : ∃ x y z, ds = [x, y, z] ∧ Al P X (k x y z) b := by
  unfold ul3 at h; split at h
  · exact ⟨_, _, _, rfl, h⟩
  · exact h.elim
end
theorem denL_nil {vs : List V} (h : DenL g U H vs []) : vs = [] := by cases h; rfl
theorem denL_cons {vs : List V} {d : D} {ds : List D} (h : DenL g U H vs (d :: ds)) : ∃ v r, vs = v :: r ∧ Den g U H v d ∧ DenL g U H r ds := by
  cases h with
  | cons a r => exact ⟨_, _, rfl, a, r⟩
theorem denL_1 {vs : List V} {x : D} (h : DenL g U H vs [x]) : ∃ v, vs = [v] ∧ Den g U H v x := by
  obtain ⟨v, r, rfl, h1, h2⟩ := denL_cons h
  cases denL_nil h2
  exact ⟨v, rfl, h1⟩
theorem denL_2 {vs : List V} {x y : D} (h : DenL g U H vs [x, y]) : ∃ v w, vs = [v, w] ∧ Den g U H v x ∧ Den g U H w y := by
  obtain ⟨v, r, rfl, h1, h2⟩ := denL_cons h
  obtain ⟨w, rfl, h3⟩ := denL_1 h2
  exact ⟨v, w, rfl, h1, h3⟩
theorem denL_3 {vs : List V} {x y z : D} (h : DenL g U H vs [x, y, z]) : ∃ v w t, vs = [v, w, t] ∧ Den g U H v x ∧ Den g U H w y ∧ Den g U H t z := by
  obtain ⟨v, r, rfl, h1, h2⟩ := denL_cons h
  obtain ⟨w, t, rfl, h3, h4⟩ := denL_2 h2
  exact ⟨v, w, t, rfl, h1, h3, h4⟩
theorem ss_par {i j : Nat} {t : TA} {m : Tr (List D)} {k : D → D → Tr (Fl W L)} (he : SA g E ε t m) (hk : ∀ x y, SS g E ((ε.set i (.fz x)).set j (.fz y)) u env envL (k x y)) :
    SS g E ε (tSeq (tPar i j t) u) env envL (bd m (ul2 k)) := fun Mt U0 H0 U D σ H b s q =>
  he.sstep s q fun v d H1 b1 d1 s1 q1 => by
    obtain ⟨x, y, rfl, q2⟩ := al_ul2 q1
    obtain ⟨v1, v2, rfl, e1, e2⟩ := denL_2 d1
    exact ⟨v1, v2, rfl, hk x y Mt U0 H0 U D _ H1 b1 ((s1.set i e1).set j e2) q2⟩
def bdF (m : Tr (Fl W' L)) (k : W' → Tr (Fl W L)) : Tr (Fl W L) := bd m fun f => match f with
  | .nx w => k w
  | .rt d => .ok (.rt d)
  | .bk l => .ok (.bk l)
  | .ct l => .ok (.ct l)
theorem SS.seq {m : Tr (Fl W' L)} {k : W' → Tr (Fl W L)} (h1 : SS g E ε ta env' envL m) (h2 : ∀ w, SS g E (env' w) u env envL (k w)) : SS g E ε (tSeq ta u) env envL (bdF m k) := fun Mt U0 H0 U D σ H b s q => by
  refine h1 Mt U0 H0 U { D with nx := u D } σ H b s ((al_bd.mp q).mono (fun f b1 h => ?_) (fun _ _ _ h => h))
  cases f with
  | nx w => exact fun U1 σ1 H1 e1 s1 => h2 w Mt U0 H0 U1 D σ1 H1 b1 s1 (Al.mono (fun _ _ z => z.ev e1) (fun _ _ _ z => z) h)
  | rt d => exact h
  | bk l => exact h
  | ct l => exact h
theorem ss_if0 {c : TT} {mc : Tr Bool} {m n : Tr (Fl W' L)} (hc : ST g E ε c mc) (ha : SS g E ε ta env' envL m) (hb : SS g E ε tb env' envL n) : SS g E ε (tIfS c ta tb) env' envL (bd mc fun k => if k = true then m else n) := fun Mt U0 H0 U D σ H b s q =>
  hc.sstep s q fun k H1 b1 s1 q1 => by
    cases k with
    | true => exact ha Mt U0 H0 U D σ H1 b1 s1 q1
    | false => exact hb Mt U0 H0 U D σ H1 b1 s1 q1
theorem ss_if {c : TT} {mc : Tr Bool} {m n : Tr (Fl W' L)} {k : W' → Tr (Fl W L)} (env' : W' → Env) (hc : ST g E ε c mc) (ha : SS g E ε ta env' envL m) (hb : SS g E ε tb env' envL n) (hk : ∀ w, SS g E (env' w) u env envL (k w)) :
    SS g E ε (tSeq (tIfS c ta tb) u) env envL (bdF (bd mc fun k => if k = true then m else n) k) := (ss_if0 hc ha hb).seq hk
theorem sx_name {i : Nat} {d : D} {m : Tr (Fl W L)} (h : SS g E (ε.set i (.fz d)) tb env envL m) : SX g E ε d (gName i) tb env envL m := fun Mt U0 H0 U D σ H b v s dn q => h Mt U0 H0 U D _ H b (s.set i dn) q
def un2 {α : Type} (d : D) (k : D → D → Tr α) : Tr α := match d with
  | .tup [x, y] => k x y
  | _ => .bad
def un3 {α : Type} (d : D) (k : D → D → D → Tr α) : Tr α := match d with
  | .tup [x, y, z] => k x y z
  | _ => .bad
theorem den_tup {v : V} {ds : List D} (h : Den g U H v (.tup ds)) : ∃ a vs, v = .ref a ∧ SqT g.K H a vs ∧ vs.length ≤ sizeLine ∧ DenL g U H vs ds := by
  cases h with
  | tup h n l k => exact ⟨_, _, rfl, SqT.of h, l, k⟩
  | tupW h l k _ => exact ⟨_, _, rfl, h H, l, k⟩
theorem al_un2 {α : Type} {P : α → Nat → Prop} {X : Str → Fs → Nat → Prop} {d : D} {k : D → D → Tr α} (h : Al P X (un2 d k) b) : ∃ x y, d = .tup [x, y] ∧ Al P X (k x y) b := by
  unfold un2 at h
  split at h
  · exact ⟨_, _, rfl, h⟩
  · exact h.elim
theorem al_un3 {α : Type} {P : α → Nat → Prop} {X : Str → Fs → Nat → Prop} {d : D} {k : D → D → D → Tr α} (h : Al P X (un3 d k) b) : ∃ x y z, d = .tup [x, y, z] ∧ Al P X (k x y z) b := by
  unfold un3 at h
  split at h
  · exact ⟨_, _, _, rfl, h⟩
  · exact h.elim
theorem sx_tup2 {i j : Nat} {d : D} {m : D → D → Tr (Fl W L)} (h : ∀ x y, SS g E ((ε.set i (.fz x)).set j (.fz y)) tb env envL (m x y)) : SX g E ε d (gTup g.K 2 (gCons (gName i) (gCons (gName j) gNil))) tb env envL (un2 d m) := fun Mt U0 H0 U D σ H b v s dn q => by
  obtain ⟨x, y, rfl, q1⟩ := al_un2 q
  obtain ⟨a, vs, rfl, sq, _, k⟩ := den_tup dn
  obtain ⟨v1, v2, rfl, e1, e2⟩ := denL_2 k
  exact ⟨a, [v1, v2], rfl, sq, rfl, v1, [v2], rfl, v2, [], rfl, rfl, h x y Mt U0 H0 U D _ H b ((s.set i e1).set j e2) q1⟩
theorem sx_tup3 {i j l : Nat} {d : D} {m : D → D → D → Tr (Fl W L)} (h : ∀ x y z, SS g E (((ε.set i (.fz x)).set j (.fz y)).set l (.fz z)) tb env envL (m x y z)) : SX g E ε d (gTup g.K 3 (gCons (gName i) (gCons (gName j) (gCons (gName l) gNil)))) tb env envL (un3 d m) := fun Mt U0 H0 U D σ H b v s dn q => by
  obtain ⟨x, y, z, rfl, q1⟩ := al_un3 q
  obtain ⟨a, vs, rfl, sq, _, k⟩ := den_tup dn
  obtain ⟨v1, v2, v3, rfl, e1, e2, e3⟩ := denL_3 k
  exact ⟨a, [v1, v2, v3], rfl, sq, rfl, v1, [v2, v3], rfl, v2, [v3], rfl, v3, [], rfl, rfl, h x y z Mt U0 H0 U D _ H b (((s.set i e1).set j e2).set l e3) q1⟩
theorem ss_unp {gt : TG} {k : D → Tr (Fl W L)} (he : SE g E ε te me) (hk : ∀ d, SX g E ε d gt u env envL (k d)) : SS g E ε (tSeq (tAsg te gt) u) env envL (bd me k) := fun Mt U0 H0 U D σ H b s q =>
  he.sstep s q fun v d H1 b1 d1 s1 q1 => hk d Mt U0 H0 U D σ H1 b1 v s1 d1 q1
def ItD (g : Gw) (U : Addr → Prop) (H : Hp) (J : It) (ds : List D) : Prop := ∀ i U1 H1 b, Ev U H U1 H1 → Wd g H1 b → UOk g U1 H1 →
  (∀ d, ds[i]? = some d → J.go i H1 ∧ ∀ x H2, J.yld i H1 x H2 → Den g U1 H2 x d ∧ L2.Same H1 H2) ∧ (ds.length = i → J.stop i H1)
def okI (g : Gw) (U : Addr → Prop) (H : Hp) (R : It → Hp → Prop) : List D → Nat → Prop := fun ds b => ∀ J H', ds.length ≤ sizeLine → ItD g U H' J ds → Wd g H' b → Fr H H' g.p → R J H'
def SI (g : Gw) (E : XK) (ε : Env) (wi : TI) (m : Tr (List D)) : Prop := ∀ U σ H b R, Rel g U H σ ε → Wd g H b → UOk g U H → Al (okI g U H R) (exP g U E H) m b → wi σ H R
def forF (f : D → W → Tr (Fl W W)) : List D → W → Tr (Fl W L)
  | [], w => .ok (.nx w)
  | x :: xs, w => bd (f x w) fun r => match r with
    | .nx w' => forF f xs w'
    | .ct w' => forF f xs w'
    | .bk w' => .ok (.nx w')
    | .rt d => .ok (.rt d)
theorem forF_cons (f : D → W → Tr (Fl W W)) (x : D) (xs : List D) (w : W) : forF (L := L) f (x :: xs) w = bd (f x w) fun r => match r with
    | .nx w' => forF f xs w'
    | .ct w' => forF f xs w'
    | .bk w' => .ok (.nx w')
    | .rt d => .ok (.rt d) := rfl
theorem ss_for0 {wi : TI} {gt : TG} {mi : Tr (List D)} {f : D → W → Tr (Fl W W)} {w0 : W} {tb : TS} (hi : SI g E ε wi mi) (l : Le (env w0) ε) (hb : ∀ d w, SX g E (env w) d gt tb env env (f d w)) : SS g E ε (tFor wi gt tb) env envL (bd mi fun ds => forF f ds w0) := fun Mt U0 H0 U D σ H b s q => by
  refine hi U σ H b _ s.rel s.wd s.uok ((al_bd.mp q).mono (fun ds b1 h1 J H1 hsz it w1 f1 => ?_) (fun _ _ _ h => exS.exP s h))
  refine ⟨fun i m σ' H' => ∃ b' w U', m = ds.length - i ∧ i ≤ ds.length ∧ Stt g Mt U0 H0 U' σ' H' b' (env w) ∧ Ev U H1 U' H' ∧ Al (flP g Mt U0 H0 U' H' D env envL) (exS g Mt U0 H0 E) (forF f (ds.drop i) w) b',
    ⟨ds.length, b1, w0, U, by simp, Nat.zero_le _, (s.fr f1 w1).le l, Ev.refl, Al.mono (fun _ _ z => z.ev (s.uok.ev f1)) (fun _ _ _ z => z) h1⟩, ?_⟩
  rintro i m σ' H' ⟨b', w, U', rfl, hle, s', e', q'⟩
  obtain ⟨it1, it2⟩ := it i U' H' b' e' s'.wd s'.uok
  by_cases hlt : i < ds.length
  · have ei : ds[i]? = some ds[i] := List.getElem?_eq_getElem hlt
    obtain ⟨go, y⟩ := it1 _ ei
    rw [List.drop_eq_getElem_cons hlt, forF_cons] at q'
    refine .inr ⟨go, fun σ2 H2 => ∃ b' w U2, Stt g Mt U0 H0 U2 σ2 H2 b' (env w) ∧ Ev U H1 U2 H2 ∧ Al (flP g Mt U0 H0 U2 H2 D env envL) (exS g Mt U0 H0 E) (forF f (ds.drop (i + 1)) w) b', ?_, ?_⟩
    · rintro σ2 H2 ⟨b2, w2, U2, s2, e2, q2⟩
      exact ⟨ds.length - (i + 1), by omega, b2, w2, U2, rfl, hlt, s2, e2, q2⟩
    · intro x H2 hy
      obtain ⟨dn, sm⟩ := y x H2 hy
      have s2 := s'.fr (fr_same sm) (s'.wd.same sm)
      have ev2 : Ev U' H' U' H2 := s'.uok.ev (fr_same sm)
      refine hb _ w Mt U0 H0 U' _ σ' H2 b' x s2 dn ((al_bd.mp q').mono (fun r b2 h2 => ?_) (fun _ _ _ z => z))
      cases r with
      | nx w' => exact fun U3 σ3 H3 e3 s3 => ⟨b2, w', U3, s3, e'.trans (ev2.trans e3), Al.mono (fun _ _ z => z.ev (ev2.trans e3)) (fun _ _ _ z => z) h2⟩
      | ct w' => exact fun U3 σ3 H3 e3 s3 => ⟨b2, w', U3, s3, e'.trans (ev2.trans e3), Al.mono (fun _ _ z => z.ev (ev2.trans e3)) (fun _ _ _ z => z) h2⟩
      | bk w' => exact fun U3 σ3 H3 e3 s3 => h2 U3 σ3 H3 (ev2.trans e3) s3
      | rt d => exact h2
  · have e : i = ds.length := by omega
    subst e
    rw [List.drop_length] at q'
    exact .inl ⟨it2 (rfl), q' U' σ' H' Ev.refl s'⟩
end
end Gp
end
section
set_option Elab.async false
set_option linter.all false
set_option maxRecDepth 100000
set_option maxHeartbeats 4000000
namespace Gp
open PySem PySem.Spec PyProof.Rows L2 Gh
section
variable {g : Gw} {Mt U0 U U' : Addr → Prop} {H0 H H' H1 H2 : Hp} {b b1 : Nat} {σ : L2.St} {ε ε' : Env} {E : XK} {W L W' : Type}
variable {env : W → Env} {envL : L → Env} {env' : W' → Env} {u ta tb : TS} {te : TE} {me : Tr D}
theorem ss_for {wi : TI} {gt : TG} {mi : Tr (List D)} {f : D → W' → Tr (Fl W' W')} {w0 : W'} {tb : TS} {k : W' → Tr (Fl W L)} (env' : W' → Env) (hi : SI g E ε wi mi) (l : Le (env' w0) ε) (hb : ∀ d w, SX g E (env' w) d gt tb env' env' (f d w)) (hk : ∀ w, SS g E (env' w) u env envL (k w)) :
    SS g E ε (tSeq (tFor wi gt tb) u) env envL (bdF (bd mi fun ds => forF f ds w0) k) := (ss_for0 hi l hb).seq hk
def itD : D → Tr (List D)
  | .lst ds => .ok ds
  | .tup ds => .ok ds
  | .str x => .ok (x.cps.toList.map fun c => .str ⟨#[c]⟩)
  | _ => .bad
theorem itD_str (x : Str) : itD (.str x) = .ok (x.cps.toList.map fun c => .str ⟨#[c]⟩) := rfl
theorem den_lst {v : V} {ds : List D} (h : Den g U H v (.lst ds)) : ∃ a vs, v = .ref a ∧ H a = some (.lst vs) ∧ ¬ U a ∧ vs.length ≤ sizeLine ∧ DenL g U H vs ds := by
  cases h with
  | lst h n l k => exact ⟨_, _, rfl, h, n, l, k⟩
theorem den_str {v : V} {x : Str} (h : Den g U H v (.str x)) : v = .str x ∧ x.length ≤ sizeLine := by
  cases h with
  | str x h => exact ⟨rfl, h⟩
theorem den_int {v : V} {i : Int} (h : Den g U H v (.int i)) : v = .int i := by cases h; rfl
theorem den1 {c : Nat} : Den g U H (.str ⟨#[c]⟩) (.str ⟨#[c]⟩) := .str _ (by show 1 ≤ sizeLine; decide)
theorem itd_lst {a : Addr} {vs : List V} {ds : List D} (h : H a = some (.lst vs)) (n : ¬ U a) (k : DenL g U H vs ds) : ItD g U H (Itl g.K a) ds := fun i U1 H1 b e w u => by
  have h1 : H1 a = some (.lst vs) := e.keep _ _ h n (fun _ z => by cases z)
  refine ⟨fun d hd => ?_, fun hl => ⟨vs, SqL.of h1, by rw [k.length]; exact Nat.le_of_eq hl⟩⟩
  obtain ⟨v, hv, dn⟩ := k.getD hd
  refine ⟨⟨vs, v, SqL.of h1, hv⟩, ?_⟩
  rintro x H2 ⟨rfl, hx⟩
  have e2 := hx vs (SqL.of h1)
  rw [hv] at e2
  cases e2
  exact ⟨dn.ev e, fun _ _ z => z⟩
theorem itd_tup {a : Addr} {vs : List V} {ds : List D} (h : ∀ U1 H1, Ev U H U1 H1 → SqT g.K H1 a vs) (k : DenL g U H vs ds) : ItD g U H (Itt g.K a) ds := fun i U1 H1 b e w u => by
  have h1 := h U1 H1 e
  refine ⟨fun d hd => ?_, fun hl => ⟨vs, h1, by rw [k.length]; exact Nat.le_of_eq hl⟩⟩
  obtain ⟨v, hv, dn⟩ := k.getD hd
  refine ⟨⟨vs, v, h1, hv⟩, ?_⟩
  rintro x H2 ⟨rfl, hx⟩
  have e2 := hx vs h1
  rw [hv] at e2
  cases e2
  exact ⟨dn.ev e, fun _ _ z => z⟩
theorem den_tupE {v : V} {ds : List D} (h : Den g U H v (.tup ds)) : ∃ a vs, v = .ref a ∧ (∀ U1 H1, Ev U H U1 H1 → SqT g.K H1 a vs) ∧ vs.length ≤ sizeLine ∧ DenL g U H vs ds := by
  cases h with
  | tup h n l k => exact ⟨_, _, rfl, fun U1 H1 e => SqT.of (e.keep _ _ h n (fun _ z => by cases z)), l, k⟩
  | tupW h l k _ => exact ⟨_, _, rfl, fun U1 H1 e => h H1, l, k⟩
theorem itd_str (x : Str) : ItD g U H (Its x) (x.cps.toList.map fun c => .str ⟨#[c]⟩) := fun i U1 H1 b e w u => by
  refine ⟨fun d hd => ?_, fun hl => by rw [List.length_map, Array.length_toList] at hl; exact Nat.le_of_eq hl⟩
  rw [List.getElem?_map] at hd
  cases q : x.cps.toList[i]? with
  | none => rw [q] at hd; cases hd
  | some c =>
    rw [q] at hd
    cases hd
    have hi : i < x.cps.size := by
      have := (List.getElem?_eq_some_iff.mp q).1
      rw [Array.length_toList] at this
      exact this
    refine ⟨hi, ?_⟩
    rintro y H2 ⟨rfl, c', hc, rfl⟩
    rw [Array.getElem?_toList] at q
    rw [q] at hc
    cases hc
    exact ⟨den1, fun _ _ z => z⟩
def iSeq (K : PySem.W.Frag) (te : TE) : TI := fun σ H R => te σ H fun x H1 => (∃ a, x = .ref a ∧ (∃ xs, SqL K H1 a xs) ∧ R (Itl K a) H1) ∨ (∃ a, x = .ref a ∧ (∃ xs, SqT K H1 a xs) ∧ R (Itt K a) H1) ∨ ∃ z, x = .str z ∧ R (Its z) H1
theorem pi_seq {X : Cx} {K : PySem.W.Frag} {tg e : Expr} {te : TE} (hK : X.K = K) (he : PE X e te) : PI X tg e (iSeq K te) := by
  subst hK
  refine ⟨fun pins s σ H R I h => ?_⟩
  refine thn (he.run pins s σ H _ I h) fun v s1 ⟨x, H1, I1, r1, q1⟩ => ?_
  rcases q1 with ⟨a, e, ⟨xs, hq⟩, q⟩ | ⟨a, e, ⟨xs, hq⟩, q⟩ | ⟨z, ex, q⟩
  · subst e
    cases r1
    obtain ⟨its, rv, p, hz⟩ := I1.list hq
    refine wpAny_pyIter_list p.isList ?_
    refine ⟨s1.heap.objs.size, [s1.heap.objs.size], _, _, H1, rfl, I1.kept (t' := s1.toks) fun b o e => Heap.get?_push_of_some _ e, turn_list a _, ⟨_, Heap.get?_push_size _ rfl, rfl, rfl⟩, fun b hb => ?_, q⟩
    have e : b = s1.heap.objs.size := by simpa using hb
    subst e
    exact I1.fpOk (Nat.le_refl _) (I1.hok.fresh (Nat.le_refl _))
  · subst e
    cases r1
    obtain ⟨its, rv, p, hz⟩ := I1.tuple hq
    refine wpAny_pyIter_tuple (show s1.heap.IsTuple a its.toArray from p) ?_
    refine ⟨s1.heap.objs.size, [s1.heap.objs.size], _, _, H1, rfl, I1.kept (t' := s1.toks) fun b o e => Heap.get?_push_of_some _ e, turn_tuple a _, ⟨_, Heap.get?_push_size _ rfl, rfl, rfl⟩, fun b hb => ?_, q⟩
    have e : b = s1.heap.objs.size := by simpa using hb
    subst e
    exact I1.fpOk (Nat.le_refl _) (I1.hok.fresh (Nat.le_refl _))
  · subst ex
    obtain ⟨t, rfl⟩ := r1
    cases ha : z.cps.all (· < 128)
    · exact wpAny_pyIter_wide ha (pi_one (tk := s1.toks) I1 _ (turn_str _ z t "str_iterator" (.inr rfl)) ⟨_, Heap.get?_push_size _ rfl, rfl, rfl⟩ q)
    · exact wpAny_pyIter_ascii ha (pi_one (tk := s1.toks) I1 _ (turn_str _ z t "str_ascii_iterator" (.inl rfl)) ⟨_, Heap.get?_push_size _ rfl, rfl, rfl⟩ q)
theorem si_seq (he : SE g E ε te me) : SI g E ε (iSeq g.K te) (bd me itD) := fun U σ H b R rl wd u q =>
  he.step rl wd u q fun v d H1 b1 d1 w1 f1 R1 u1 q1 => by
    cases d with
    | lst ds =>
      obtain ⟨a, vs, rfl, h, n, l, k⟩ := den_lst d1
      exact .inl ⟨a, rfl, ⟨vs, SqL.of h⟩, q1 _ H1 (by rw [← k.length]; exact l) (itd_lst h n k) w1 f1⟩
    | tup ds =>
      obtain ⟨a, vs, rfl, h, l, k⟩ := den_tupE d1
      exact .inr (.inl ⟨a, rfl, ⟨vs, h U H1 Ev.refl⟩, q1 _ H1 (by rw [← k.length]; exact l) (itd_tup h k) w1 f1⟩)
    | str x =>
      obtain ⟨rfl, l⟩ := den_str d1
      exact .inr (.inr ⟨x, rfl, q1 _ H1 (by rw [List.length_map, Array.length_toList]; exact l) (itd_str x) w1 f1⟩)
    | _ => exact q1.elim
def rgD (lo : Int) (n : Nat) : List D := (List.range n).map fun i => .int (lo + (i : Nat))
theorem itd_rg (lo : Int) (n : Nat) : ItD g U H (Itr lo n) (rgD lo n) := fun i U1 H1 b e w u => by
  refine ⟨fun d hd => ?_, fun hl => by unfold rgD at hl; rw [List.length_map, List.length_range] at hl; exact Nat.le_of_eq hl⟩
  unfold rgD at hd
  rw [List.getElem?_map] at hd
  have hi : i < n := by
    cases q : (List.range n)[i]? with
    | none => rw [q] at hd; cases hd
    | some c =>
      have := (List.getElem?_eq_some_iff.mp q).1
      rwa [List.length_range] at this
  rw [List.getElem?_range hi] at hd
  cases hd
  refine ⟨hi, ?_⟩
  rintro y H2 ⟨rfl, rfl⟩
  exact ⟨.int _, fun _ _ z => z⟩
def rg1 (x : D) : Tr (List D) := match x with
  | .int j => if -(2 ^ 62) ≤ j ∧ j ≤ 16777216 then .ok (rgD 0 j.toNat) else .bad
  | _ => .bad
theorem si_rg1 {t : TA} {m : Tr (List D)} (ha : SA g E ε t m) : SI g E ε (iRng1 t) (bd m (ul1 rg1)) := fun U σ H b R rl wd u q =>
  ha.step rl wd u q fun v d H1 b1 d1 w1 f1 R1 u1 q1 => by
    obtain ⟨x, rfl, q2⟩ := al_ul1 q1
    obtain ⟨v, rfl, e1⟩ := denL_1 d1
    cases x with
    | int j =>
      cases den_int e1
      unfold rg1 at q2
      dsimp only at q2
      split at q2
      · rename_i hj
        exact ⟨j, rfl, hj.1, by omega, q2 _ H1 (by unfold rgD; rw [List.length_map, List.length_range, sizeLine_eq]; omega) (itd_rg 0 _) w1 f1⟩
      · exact q2.elim
    | _ => exact q2.elim
def lcF (f : D → Tr (Option D)) : List D → Tr (List D)
  | [] => .ok []
  | x :: xs => bd (f x) fun o => bd (lcF f xs) fun r => .ok (match o with | some y => y :: r | none => r)
theorem lcF_nil (f : D → Tr (Option D)) : lcF f [] = .ok [] := rfl
theorem lcF_cons (f : D → Tr (Option D)) (x : D) (xs : List D) : lcF f (x :: xs) = bd (f x) fun o => bd (lcF f xs) fun r => .ok (match o with | some y => y :: r | none => r) := rfl
def okO (g : Gw) (U : Addr → Prop) (H : Hp) (Q : Option V → Hp → Prop) : Option D → Nat → Prop
  | some y, b => ∀ w H', Den g U H' w y → Wd g H' b → Fr H H' g.p → Q (some w) H'
  | none, b => ∀ H', Wd g H' b → Fr H H' g.p → Q none H'
def SC (g : Gw) (ε : Env) (d : D) (gt : TG) (tt : TT) (te : TE) (vs : List Nat) (m : Tr (Option D)) : Prop := ∀ U σ H b v (Q : Option V → Hp → Prop), Rel g U H σ ε → Wd g H b → UOk g U H → Den g U H v d → Al (okO g U H Q) (fun _ _ _ => False) m b →
  gt v (wipe σ vs) H fun σ2 H2 => wipe σ2 vs = wipe σ vs ∧ tt σ2 H2 fun k H3 => if k = true then te σ2 H3 (fun y H4 => Q (some y) H4) else Q none H3
theorem al_noX {α : Type} {P : α → Nat → Prop} {X : Str → Fs → Nat → Prop} {m : Tr α} (h : Al P X (nox m) b) : Al P (fun _ _ _ => False) m b := al_nox h
theorem se_lc {wi : TI} {gt : TG} {tt : TT} {vs : List Nat} {mi : Tr (List D)} {f : D → Tr (Option D)} (hi : SI g E ε wi mi) (hf : ∀ d, SC g ε d gt tt te vs (f d)) : SE g E ε (tLc wi gt tt te vs) (bd mi fun ds => bd (lcF (fun d => nox (f d)) ds) fun r => .ok (.lst r)) := fun U σ H b Q rl wd u q => by
  refine hi U σ H b _ rl wd u ((al_bd.mp q).mono (fun ds b1 h1 J H1 hsz it w1 f1 => ?_) (fun _ _ _ h => h))
  intro A nA
  have u1 := u.fr f1 w1
  have nUA : ¬ U A := u1.new nA
  have hp : A ≠ g.p := fun z => nUA (z ▸ u.p)
  have hc : A ≠ g.c := fun z => nUA (z ▸ u.c)
  have rl1 := (rl.fr u f1).grow nA
  generalize hV : (fun a => U a ∨ a = A) = V at rl1
  have VA : V A := by rw [← hV]; exact .inr rfl
  have VU : ∀ a, U a → V a := fun a z => by rw [← hV]; exact .inl z
  have VO : ∀ a o, H1 a = some o → ¬ U a → ¬ V a := fun a o e n => by
    rw [← hV]
    rintro (z | z)
    · exact n z
    · exact ne_of_none e nA z
  have uv : ∀ {H' : Hp} {b : Nat} {o : List L2.V}, Fr H1 H' g.p → Wd g H' b → H' A = some (.lst o) → UOk g V H' := fun f w h => ⟨VU _ u.p, VU _ u.c, fun a ha => by
    rw [← hV] at ha
    rcases ha with ha | rfl
    · exact (u1.fr f w).al a ha
    · exact ⟨_, h, (fun _ z => by cases z), (fun _ z => by cases z)⟩⟩
  refine ⟨fun i m H' => ∃ b' accV accD, m = ds.length - i ∧ i ≤ ds.length ∧ accV.length ≤ i ∧ H' A = some (.lst accV) ∧ DenL g V H' accV accD ∧ Wd g H' b' ∧ Fr H1 H' g.p ∧ Al (fun r b => okP g U H Q (.lst (accD ++ r)) b) (exP g U E H) (lcF (fun d => nox (f d)) (ds.drop i)) b', ?_, ?_⟩
  · refine ⟨ds.length, b1, [], [], by simp, Nat.zero_le _, Nat.zero_le _, upd_same, .nil, w1.same (same_new nA), fr_same (same_new nA), ?_⟩
    exact (al_bd.mp h1).mono (fun r b h => h) (fun _ _ _ h => h)
  · rintro i m H' ⟨b', accV, accD, rfl, hle, hla, hA, dA, w', f', q'⟩
    have u' := uv f' w' hA
    have ev' : Ev U H1 V H' := ⟨fun a o e n t => f' a o e (fun z => n (z ▸ u.p)) t, fun a o e n _ => VO a o e n⟩
    obtain ⟨it1, it2⟩ := it i V H' b' ev' w' u'
    by_cases hlt : i < ds.length
    · have ei : ds[i]? = some ds[i] := List.getElem?_eq_getElem hlt
      obtain ⟨go, y⟩ := it1 _ ei
      rw [List.drop_eq_getElem_cons hlt, lcF_cons] at q'
      refine .inr ⟨go, fun H' => ∃ b' accV accD, accV.length ≤ i + 1 ∧ H' A = some (.lst accV) ∧ DenL g V H' accV accD ∧ Wd g H' b' ∧ Fr H1 H' g.p ∧ Al (fun r b => okP g U H Q (.lst (accD ++ r)) b) (exP g U E H) (lcF (fun d => nox (f d)) (ds.drop (i + 1))) b', ?_, ?_⟩
      · rintro H2 ⟨b2, av, ad, h1, h2⟩
        exact ⟨ds.length - (i + 1), by omega, b2, av, ad, rfl, hlt, h1, h2⟩
      · intro x H2 hy
        obtain ⟨dn, sm⟩ := y x H2 hy
        have w2 := w'.same sm
        have f2 : Fr H1 H2 g.p := f'.trans (fr_same sm)
        have hA2 := sm _ _ hA
        refine hf ds[i] V σ H2 b' x (fun o H4 => match o with
          | some y => ∃ acc, H4 A = some (.lst acc) ∧ acc.length < sizeLine ∧ ∃ b' accV accD, accV.length ≤ i + 1 ∧ (upd H4 A (.lst (acc ++ [y]))) A = some (.lst accV) ∧ DenL g V (upd H4 A (.lst (acc ++ [y]))) accV accD ∧ Wd g (upd H4 A (.lst (acc ++ [y]))) b' ∧ Fr H1 (upd H4 A (.lst (acc ++ [y]))) g.p ∧ Al (fun r b => okP g U H Q (.lst (accD ++ r)) b) (exP g U E H) (lcF (fun d => nox (f d)) (ds.drop (i + 1))) b'
          | none => ∃ b' accV accD, accV.length ≤ i + 1 ∧ H4 A = some (.lst accV) ∧ DenL g V H4 accV accD ∧ Wd g H4 b' ∧ Fr H1 H4 g.p ∧ Al (fun r b => okP g U H Q (.lst (accD ++ r)) b) (exP g U E H) (lcF (fun d => nox (f d)) (ds.drop (i + 1))) b')
          (rl1.frp (VU _ u.p) f2) w2 (uv f2 w2 hA2) dn ((al_noX (al_bd.mp q')).mono (fun o b2 h2 => ?_) (fun _ _ _ z => z))
        have h3 := al_bd.mp h2
        cases o with
        | some y =>
          intro w H4 dw w4 f4
          have hA4 := f4 _ _ hA2 hp (fun _ z => by cases z)
          have e4 : ExtU V H4 (upd H4 A (.lst (accV ++ [w]))) := fun a o e n _ => by
            rw [upd_ne (fun z => n (by rw [z]; exact VA))]
            exact e
          have k4 : Keep H4 (upd H4 A (.lst (accV ++ [w]))) A := fun a o e n => by rw [upd_ne n]; exact e
          refine ⟨accV, hA4, Nat.lt_of_le_of_lt hla (Nat.lt_of_lt_of_le hlt hsz), b2, accV ++ [w], accD ++ [y], ?_, upd_same, ?_, ?_, ?_, ?_⟩
          · rw [List.length_append]
            exact Nat.add_le_add_right hla 1
          · exact DenL.append ((dA.ext (extU_of (VU _ u.p) ((fr_same sm).trans f4))).ext e4) (.cons (dw.ext e4) .nil)
          · exact ⟨w4.pen.keep k4 hp hc, tabs_keepL k4 hA4 w4.tabs⟩
          · intro a o e n t
            rw [upd_ne (ne_of_none e nA)]
            exact f4 _ _ (f2 a o e n t) n t
          · exact h3.mono (fun r b h => by
              have : okP g U H Q (.lst (accD ++ (y :: r))) b := h
              rw [List.append_cons] at this
              exact this) (fun _ _ _ z => z)
        | none =>
          intro H4 w4 f4
          exact ⟨b2, accV, accD, Nat.le_succ_of_le hla, f4 _ _ hA2 hp (fun _ z => by cases z), dA.ext (extU_of (VU _ u.p) ((fr_same sm).trans f4)), w4, f2.trans f4, h3.mono (fun r b h => h) (fun _ _ _ z => z)⟩
    · have e : i = ds.length := by omega
      subst e
      rw [List.drop_length, lcF_nil] at q'
      refine .inl ⟨it2 (rfl), ?_⟩
      have q2 : okP g U H Q (.lst (accD ++ [])) b' := q'
      rw [List.append_nil] at q2
      exact q2 _ H' (.lst hA nUA (Nat.le_trans hla hsz) (dA.sub fun a _ z => VU a z)) w' (f1.trans f')
end
end Gp
end
section
set_option Elab.async false
set_option linter.all false
set_option maxRecDepth 100000
set_option maxHeartbeats 4000000
namespace Gp
open PySem PySem.Spec PyProof.Rows L2 Gh
section
variable {g : Gw} {Mt U0 U U' : Addr → Prop} {H0 H H' H1 H2 : Hp} {b b1 : Nat} {σ : L2.St} {ε ε' : Env} {E : XK} {W L W' : Type}
variable {env : W → Env} {envL : L → Env} {env' : W' → Env} {u ta tb : TS} {te : TE} {me : Tr D}
theorem sc_map {i : Nat} {d : D} (he : SE g EF (ε.set i (.fz d)) te me) : SC g ε d (gName i) tYes te [i] (bd me fun y => .ok (some y)) := fun U σ H b v Q rl wd u dn q => by
  have e1 : wipe σ [i] = σ.set i none := rfl
  rw [e1]
  show wipe ((σ.set i none).set i (some v)) [i] = _ ∧ _
  rw [List.set_set]
  refine ⟨?_, ?_⟩
  · show (σ.set i (some v)).set i none = _
    rw [List.set_set]
  · show te (σ.set i (some v)) H fun y H4 => Q (some y) H4
    refine he.step (rl.set i dn) wd u (q.mono (fun _ _ z => z) (fun _ _ _ z => exP.F z)) fun y e H2 b2 d2 w2 f2 R2 u2 q2 => ?_
    exact q2 y H2 d2 w2 f2
theorem ownAt_setO {i j : Nat} {v : V} {ds : Ow} {a : Addr} (h : OwnAt (σ.set i (some v)) (ε.set i (.ow ds)) j a) : (i = j ∧ v = .ref a) ∨ (i ≠ j ∧ OwnAt σ ε j a) := by
  obtain ⟨h1, h2⟩ := h
  by_cases e : i = j
  · subst e
    rw [List.getElem?_set_self'] at h1
    cases q : σ[i]? with
    | none => rw [q] at h1; cases h1
    | some z => rw [q] at h1; cases h1; exact .inl ⟨rfl, rfl⟩
  · rw [List.getElem?_set_ne e] at h1 h2
    exact .inr ⟨e, h1, h2⟩
theorem own_new {A : Addr} {vs : List V} {ds : List D} {i : Nat} (s : Stt g Mt U0 H0 U σ H b ε) (n : H A = none) (l : vs.length ≤ sizeLine) (dn : DenL g U H vs ds) (hA : A ≠ 0 ∨ True := .inr trivial) :
    Stt g Mt U0 H0 (fun a => U a ∨ a = A) (σ.set i (some (.ref A))) (upd H A (.lst vs)) b (ε.set i (.ow ds)) ∧ Ev U H (fun a => U a ∨ a = A) (upd H A (.lst vs)) := by
  have sm := same_new (o := .lst vs) n
  have nU : ¬ U A := s.uok.new n
  have hp : A ≠ g.p := fun z => nU (z ▸ s.uok.p)
  have hc : A ≠ g.c := fun z => nU (z ▸ s.uok.c)
  have r1 : Rel g (fun a => U a ∨ a = A) (upd H A (.lst vs)) σ ε := (s.rel.grow n).frp (.inl s.uok.p) (fr_same sm)
  have sig : ∀ j a, OwnAt σ ε j a → ∃ o, H a = some o := fun j a h => by
    obtain ⟨h1, ⟨ds, h2⟩ | ⟨c, fs, h2⟩⟩ := h
    · obtain ⟨o, e, a', vs, e2, h, _⟩ := s.rel.at_ j _ h2
      rw [h1] at e
      cases e
      cases e2
      exact ⟨_, h⟩
    · obtain ⟨o, e, a', dx, fvs, e2, h, _⟩ := s.rel.at_ j _ h2
      rw [h1] at e
      cases e
      cases e2
      exact ⟨_, h⟩
  refine ⟨⟨⟨by rw [List.length_set, List.length_set]; exact r1.len, fun j x e => ?_, fun j k a ne h1 h2 => ?_⟩, s.wd.same sm, ⟨.inl s.uok.p, .inl s.uok.c, fun a ha => ?_⟩, fun a z => .inl (s.sub a z), fun j a h => ?_, s.ext.trans (fr_same sm), fun j xs a e1 e2 => ?_, fun j c fs a j0 e1 e2 => ?_⟩, fun a o e _ _ => sm a o e, fun a o e n1 _ => ?_⟩
  · by_cases q : i = j
    · subst q
      have hl : i < ε.length := by
        cases z : ε[i]? with
        | none => rw [List.getElem?_set_self', z] at e; cases e
        | some w => exact (List.getElem?_eq_some_iff.mp z).1
      rw [List.getElem?_set_self hl] at e
      cases e
      exact ⟨_, List.getElem?_set_self (by rw [r1.len]; exact hl), A, _, rfl, upd_same, ⟨vs, rfl, l, (dn.grow n).ext (fun a o e _ _ => sm a o e)⟩, .inr rfl, hp, hc⟩
    · rw [List.getElem?_set_ne q] at e ⊢
      exact r1.at_ j x e
  · rcases ownAt_setO h1 with ⟨rfl, z1⟩ | ⟨n1, z1⟩ <;> rcases ownAt_setO h2 with ⟨rfl, z2⟩ | ⟨n2, z2⟩
    · exact ne rfl
    · cases z1
      obtain ⟨o, e⟩ := sig _ _ z2
      rw [n] at e
      cases e
    · cases z2
      obtain ⟨o, e⟩ := sig _ _ z1
      rw [n] at e
      cases e
    · exact s.rel.apart j k a ne z1 z2
  · rcases ha with ha | rfl
    · obtain ⟨o, e, t⟩ := s.uok.al a ha
      exact ⟨o, sm a o e, t⟩
    · exact ⟨_, upd_same, (fun _ z => by cases z), (fun _ z => by cases z)⟩
  · rcases ownAt_setO h with ⟨rfl, z⟩ | ⟨_, z⟩
    · cases z
      by_cases m : Mt A
      · exact .inl m
      · refine .inr fun o q => ?_
        by_cases t : ∃ ps, o = .tbl ps
        · exact t
        · have := s.ext A o q hp m (fun ps z => t ⟨ps, z⟩)
          rw [n] at this
          cases this
    · exact s.own j a z
  · by_cases q : i = j
    · subst q
      rw [List.getElem?_set_self'] at e2
      cases z : σ[i]? with
      | none => rw [z] at e2; cases e2
      | some w =>
        rw [z] at e2
        cases e2
        exact fun h => nU (s.sub _ h)
    · rw [List.getElem?_set_ne q] at e1 e2
      exact s.nu0 j xs a e1 e2
  · by_cases q : i = j
    · subst q
      cases z : ε[i]? with
      | none => rw [List.getElem?_set_self', z] at e1; cases e1
      | some w => rw [List.getElem?_set_self', z] at e1; cases e1
    · rw [List.getElem?_set_ne q] at e1 e2
      exact s.oim j c fs a j0 e1 e2
  · rintro (z | z)
    · exact n1 z
    · exact ne_of_none e n z
def okN (g : Gw) (U : Addr → Prop) (H : Hp) (Q : VK) : List D → Nat → Prop := fun ds b => ∀ A vs H1, H1 A = none → vs.length ≤ sizeLine → DenL g U H1 vs ds → Wd g H1 b → Fr H H1 g.p → Q (.ref A) (upd H1 A (.lst vs))
def SN (g : Gw) (E : XK) (ε : Env) (t : TE) (m : Tr (List D)) : Prop := ∀ U σ H b Q, Rel g U H σ ε → Wd g H b → UOk g U H → Al (okN g U H Q) (exP g U E H) m b → t σ H Q
theorem sn_lst {t : TA} {m : Tr (List D)} (ha : SA g E ε t m) : SN g E ε (tLst t) (bd m fun ds => if ds.length ≤ sizeLine then .ok ds else .bad) := fun U σ H b Q R W u q =>
  ha.step R W u q fun v d H1 b1 d1 w1 f1 R1 u1 q1 => by
    by_cases hl : d.length ≤ sizeLine
    · rw [if_pos hl] at q1
      have hl' : v.length ≤ sizeLine := by rw [d1.length]; exact hl
      exact ⟨hl', fun p np => q1 p v H1 np hl' d1 w1 f1⟩
    · rw [if_neg hl] at q1
      exact q1.elim
theorem ss_own {i : Nat} {t : TE} {m : Tr (List D)} {k : List D → Tr (Fl W L)} (he : SN g E ε t m) (hk : ∀ ds : List D, SS g E (ε.set i (.ow ds)) u env envL (k ds)) : SS g E ε (tSeq (tAsg t (gName i)) u) env envL (bd m k) := fun Mt U0 H0 U D σ H b s q =>
  he U σ H b _ s.rel s.wd s.uok ((al_bd.mp q).mono (fun ds b1 h1 A vs H1 n l dn w f => by
    obtain ⟨s1, e1⟩ := own_new (i := i) (s.fr f w) n l dn
    exact hk ds Mt U0 H0 _ D _ _ b1 s1 (h1.mono (fun _ _ z => z.ev ((s.uok.ev f).trans e1)) (fun _ _ _ z => z))) (fun _ _ _ h => exS.exP s h))
theorem own_mut {vs' : List V} {ds ds' : List D} {i : Nat} (s : Stt g Mt U0 H0 U σ H b ε) (hi : ε[i]? = some (.ow ds)) : ∃ a vs, σ[i]? = some (some (.ref a)) ∧ H a = some (.lst vs) ∧ vs.length ≤ sizeLine ∧ DenL g U H vs ds ∧ U a ∧ a ≠ g.p ∧ a ≠ g.c ∧
    ∀ (vs' : List V) (ds' : List D), vs'.length ≤ sizeLine → DenL g U H vs' ds' → Stt g Mt U0 H0 U σ (upd H a (.lst vs')) b (ε.set i (.ow ds')) ∧ Ev U H U (upd H a (.lst vs')) := by
  obtain ⟨o, eo, a, u0, rfl, h, ⟨vs, rfl, l, dn⟩, ua, n1, n2⟩ := s.rel.at_ i _ hi
  refine ⟨a, vs, eo, h, l, dn, ua, n1, n2, fun vs' ds' l' dn' => ?_⟩
  have kp : Keep H (upd H a (.lst vs')) a := fun x o e ne => by rw [upd_ne ne]; exact e
  have xt : ExtU U H (upd H a (.lst vs')) := fun x o e ne _ => kp x o e (fun z => ne (z ▸ ua))
  have il : i < ε.length := (List.getElem?_eq_some_iff.mp hi).1
  have ow : ∀ j x, OwnAt σ (ε.set i (.ow ds')) j x → OwnAt σ ε j x := fun j x z => by
    obtain ⟨z1, z2⟩ := z
    by_cases q : i = j
    · subst q
      exact ⟨z1, .inl ⟨ds, hi⟩⟩
    · rw [List.getElem?_set_ne q] at z2
      exact ⟨z1, z2⟩
  have apart : ∀ j x, i ≠ j → OwnAt σ ε j x → x ≠ a := fun j x ne z e => by
    subst e
    exact s.rel.apart i j x ne ⟨eo, .inl ⟨ds, hi⟩⟩ z
  refine ⟨⟨⟨by rw [List.length_set]; exact s.rel.len, fun j x e => ?_, fun j k x ne z1 z2 => s.rel.apart j k x ne (ow _ _ z1) (ow _ _ z2)⟩, ⟨s.wd.pen.keep kp n1 n2, tabs_keepL kp h s.wd.tabs⟩, ⟨s.uok.p, s.uok.c, fun x hx => ?_⟩, s.sub, fun j x z => s.own j x (ow _ _ z), fun x o e m1 m2 m3 => ?_, fun j xs x e1 e2 => ?_, fun j c fs x j0 e1 e2 => ?_⟩, xt, fun _ _ _ n _ => n⟩
  · by_cases q : i = j
    · subst q
      rw [List.getElem?_set_self il] at e
      cases e
      exact ⟨_, eo, a, _, rfl, upd_same, ⟨vs', rfl, l', dn'.ext xt⟩, ua, n1, n2⟩
    · rw [List.getElem?_set_ne q] at e
      obtain ⟨o, e1, e2⟩ := s.rel.at_ j x e
      refine ⟨o, e1, ?_⟩
      cases x with
      | no => trivial
      | fz d =>
        obtain ⟨v, e3, e4⟩ := e2
        exact ⟨v, e3, e4.ext xt⟩
      | ow ds2 =>
        obtain ⟨a2, v2, rfl, h2, d2, u2, m1, m2⟩ := e2
        have ne := apart j a2 q ⟨e1, .inl ⟨ds2, e⟩⟩
        exact ⟨a2, v2, rfl, kp _ _ h2 ne, d2.map (fun q => q.ext xt), u2, m1, m2⟩
      | oi c fs =>
        obtain ⟨a2, dx, v2, rfl, h2, d2, u2, m1, m2⟩ := e2
        have ne := apart j a2 q ⟨e1, .inr ⟨c, fs, e⟩⟩
        exact ⟨a2, dx, v2, rfl, kp _ _ h2 ne, d2.ext xt, u2, m1, m2⟩
  · by_cases q : x = a
    · subst q
      exact ⟨_, upd_same, (fun _ z => by cases z), (fun _ z => by cases z)⟩
    · obtain ⟨o, e, t⟩ := s.uok.al x hx
      exact ⟨o, kp x o e q, t⟩
  · have q : x ≠ a := fun z => by
      subst z
      rcases s.own i x ⟨eo, .inl ⟨ds, hi⟩⟩ with w | w
      · exact m2 w
      · obtain ⟨ps, z⟩ := w o e
        exact m3 ps z
    exact kp x o (s.ext x o e m1 m2 m3) q
  · by_cases q : i = j
    · subst q
      exact s.nu0 i ds x hi e2
    · rw [List.getElem?_set_ne q] at e1
      exact s.nu0 j xs x e1 e2
  · by_cases q : i = j
    · subst q
      rw [List.getElem?_set_self il] at e1
      cases e1
    · rw [List.getElem?_set_ne q] at e1
      exact s.oim j c fs x j0 e1 e2
theorem ss_app {i : Nat} {ds : List D} {k : D → Tr (Fl W L)} (he : SE g E ε te me) (hk : ∀ d, SS g E (ε.set i (.ow (.l (ds ++ [d])))) u env envL (k d)) (hi : ε[i]? = some (.ow ds) := by rfl) :
    SS g E ε (tSeq (tDrop (tBM g.K "list" rAppend (tVar i) (tCons te tNil))) u) env envL (bd me fun d => if ds.length < sizeLine then k d else .bad) := fun Mt U0 H0 U D σ H b s q => by
  obtain ⟨a, vs, e1, h1, l1, d1, ua, n1, n2, _⟩ := own_mut (vs' := []) (ds' := []) s hi
  refine ⟨.ref a, e1, .inl ⟨rfl, vs, SqL.of h1⟩, ?_⟩
  refine he.sstep s q fun v d H1 b1 dv s1 q1 => ?_
  obtain ⟨a', vs', e2, h2, l2, d2, _, _, _, mt⟩ := own_mut (vs' := []) (ds' := []) s1 hi
  rw [e1] at e2
  cases e2
  by_cases hl : ds.length < sizeLine
  · rw [if_pos hl] at q1
    have hl2 : vs'.length < sizeLine := by rw [d2.length]; exact hl
    obtain ⟨s2, ev⟩ := mt (vs' ++ [v]) (ds ++ [d]) (by rw [List.length_append]; exact hl2) (d2.append (.cons dv .nil))
    exact ⟨a, vs', v, rfl, rfl, h2, hl2, hk d Mt U0 H0 U D σ _ b1 s2 (q1.mono (fun _ _ z => z.ev ev) (fun _ _ _ z => z))⟩
  · rw [if_neg hl] at q1
    exact q1.elim
theorem ss_fz {i : Nat} {ds : List D} {m : Tr (Fl W L)} (hi : ε[i]? = some (.ow ds)) (h : SS g E (ε.set i (.fz (.lst ds))) u env envL m) : SS g E ε u env envL m := fun Mt U0 H0 U D σ H b s q => by
  obtain ⟨a, vs, e1, h1, l1, d1, ua, n1, n2, _⟩ := own_mut (vs' := []) (ds' := []) s hi
  have il : i < ε.length := (List.getElem?_eq_some_iff.mp hi).1
  have sub : ∀ x, (∃ o, H x = some o) → (U x ∧ x ≠ a) → U x := fun x _ z => z.1
  have ow : ∀ j x, OwnAt σ (ε.set i (.fz (.lst ds))) j x → i ≠ j ∧ OwnAt σ ε j x := fun j x z => by
    obtain ⟨z1, z2⟩ := z
    by_cases q : i = j
    · subst q
      exfalso
      rcases z2 with ⟨y, z2⟩ | ⟨y1, y2, z2⟩
      · rw [List.getElem?_set_self il] at z2
        cases z2
      · rw [List.getElem?_set_self il] at z2
        cases z2
    · rw [List.getElem?_set_ne q] at z2
      exact ⟨q, z1, z2⟩
  have apart : ∀ j x, i ≠ j → OwnAt σ ε j x → x ≠ a := fun j x ne z e => by
    subst e
    exact s.rel.apart i j x ne ⟨e1, .inl ⟨ds, hi⟩⟩ z
  have ev : Ev U H (fun x => U x ∧ x ≠ a) H := ⟨fun _ _ e _ _ => e, fun _ _ _ n _ z => n z.1⟩
  refine h Mt U0 H0 (fun x => U x ∧ x ≠ a) D σ H b ⟨⟨by rw [List.length_set]; exact s.rel.len, fun j x e => ?_, fun j k x ne z1 z2 => s.rel.apart j k x ne (ow _ _ z1).2 (ow _ _ z2).2⟩, s.wd, ⟨⟨s.uok.p, n1.symm⟩, ⟨s.uok.c, n2.symm⟩, fun x hx => s.uok.al x hx.1⟩, fun x z => ⟨s.sub x z, fun e => s.nu0 i ds x hi (by rw [e1, e]) z⟩, fun j x z => s.own j x (ow _ _ z).2, s.ext, fun j xs x z1 z2 => ?_, fun j c fs x j0 z1 z2 => ?_⟩ (q.mono (fun _ _ z => z.ev ev) (fun _ _ _ z => z))
  · by_cases q : i = j
    · subst q
      rw [List.getElem?_set_self il] at e
      cases e
      exact ⟨_, e1, _, rfl, .lst h1 (fun z => z.2 rfl) l1 (d1.sub sub)⟩
    · rw [List.getElem?_set_ne q] at e
      obtain ⟨o, e3, e2⟩ := s.rel.at_ j x e
      refine ⟨o, e3, ?_⟩
      cases x with
      | no => trivial
      | fz d =>
        obtain ⟨v, e4, e5⟩ := e2
        exact ⟨v, e4, e5.sub sub⟩
      | ow ds2 =>
        obtain ⟨a2, v2, rfl, h2, d2, u2, m1, m2⟩ := e2
        have ne := apart j a2 q ⟨e3, .inl ⟨ds2, e⟩⟩
        exact ⟨a2, v2, rfl, h2, d2.map (fun q => q.sub sub), ⟨u2, ne⟩, m1, m2⟩
      | oi c fs =>
        obtain ⟨a2, dx, v2, rfl, h2, d2, u2, m1, m2⟩ := e2
        have ne := apart j a2 q ⟨e3, .inr ⟨c, fs, e⟩⟩
        exact ⟨a2, dx, v2, rfl, h2, d2.sub sub, ⟨u2, ne⟩, m1, m2⟩
  · obtain ⟨q, _, z3⟩ := ow j x ⟨z2, .inl ⟨xs, z1⟩⟩
    rw [List.getElem?_set_ne q] at z1
    exact s.nu0 j xs x z1 z2
  · by_cases q : i = j
    · subst q
      rw [List.getElem?_set_self il] at z1
      cases z1
    · rw [List.getElem?_set_ne q] at z1
      exact s.oim j c fs x j0 z1 z2
end
end Gp
end
section
set_option Elab.async false
set_option linter.all false
set_option maxRecDepth 100000
set_option maxHeartbeats 4000000
namespace Gp
open PySem PySem.Spec PyProof.Rows L2 Gh
section
variable {g : Gw} {Mt U0 U U' : Addr → Prop} {H0 H H' H1 H2 : Hp} {b b1 : Nat} {σ : L2.St} {ε ε' : Env} {E : XK} {W L W' : Type}
variable {env : W → Env} {envL : L → Env} {env' : W' → Env} {u ta tb : TS} {te : TE} {me : Tr D}
def spF (K : PySem.W.Frag) (T : List (Addr × Str)) (F : List D → Tr D) : Sp := fun vs H Q E => ∃ p c U ds b, DenL ⟨K, T, p, c⟩ U H vs ds ∧ Wd ⟨K, T, p, c⟩ H b ∧ UOk ⟨K, T, p, c⟩ U H ∧ Al (okP ⟨K, T, p, c⟩ U H Q) (exP ⟨K, T, p, c⟩ U E H) (F ds) b
def envE : Empty → Env := fun e => nomatch e
theorem rel_start {N : List Str} {vs : List V} {ds : List D} (h : DenL g U H vs ds) : Rel g U H (L2.start N vs) (ds.map Sl.fz ++ List.replicate (N.length - ds.length) Sl.no) := by
  have no : ∀ i a, ¬ OwnAt (L2.start N vs) (ds.map Sl.fz ++ List.replicate (N.length - ds.length) Sl.no) i a := fun i a ⟨_, z⟩ => by
    have : ∀ s : Sl, (ds.map Sl.fz ++ List.replicate (N.length - ds.length) Sl.no)[i]? = some s → (∃ d, s = .fz d) ∨ s = .no := fun s e => by
      have m := List.mem_of_getElem? e
      rcases List.mem_append.mp m with m | m
      · obtain ⟨d, _, e⟩ := List.mem_map.mp m
        exact .inl ⟨d, e.symm⟩
      · exact .inr (List.mem_replicate.mp m).2
    rcases z with ⟨x, z⟩ | ⟨x, y, z⟩
    · rcases this _ z with ⟨d, e⟩ | e <;> cases e
    · rcases this _ z with ⟨d, e⟩ | e <;> cases e
  have hl := h.length
  refine ⟨?_, fun i s e => ?_, fun i j a _ h1 _ => (no i a h1).elim⟩
  · unfold L2.start
    simp only [List.length_append, List.length_map, List.length_replicate, hl]
  · unfold L2.start
    by_cases q : i < ds.length
    · rw [List.getElem?_append_left (by rw [List.length_map]; exact q), List.getElem?_map] at e
      rw [List.getElem?_append_left (by rw [List.length_map, hl]; exact q), List.getElem?_map]
      cases z : ds[i]? with
      | none => rw [z] at e; cases e
      | some d =>
        rw [z] at e
        cases e
        obtain ⟨v, hv, dn⟩ := h.getD z
        rw [hv]
        exact ⟨some v, rfl, v, rfl, dn⟩
    · rw [List.getElem?_append_right (by rw [List.length_map]; omega), List.length_map] at e
      rw [List.getElem?_append_right (by rw [List.length_map, hl]; omega), List.length_map, hl]
      have m := List.mem_of_getElem? e
      obtain ⟨n0, rfl⟩ := List.mem_replicate.mp m
      have i1 := (List.getElem?_eq_some_iff.mp e).1
      rw [List.length_replicate] at i1
      exact ⟨none, by rw [List.getElem?_replicate, if_pos i1], trivial⟩
theorem fn_of {K : PySem.W.Frag} {T : List (Addr × Str)} {N : List Str} {F : List D → Tr D} {vs : List V} {Q : VK} {t : TS} {envU : Unit → Env} (h : spF K T F vs H Q E)
    (hs : ∀ p c ds, (∃ (P : D → Nat → Prop) (X : Str → Fs → Nat → Prop) (b : Nat), Al P X (F ds) b) → ∃ m, F ds = fin m ∧ SS ⟨K, T, p, c⟩ E (ds.map Sl.fz ++ List.replicate (N.length - ds.length) Sl.no) t envU envE m) : t { nx := fun _ H' => Q .non H', rt := Q } (L2.start N vs) H := by
  obtain ⟨p, c, U, ds, b, dn, wd, u, al⟩ := h
  obtain ⟨m, e, ss⟩ := hs p c ds ⟨_, _, _, al⟩
  rw [e] at al
  have nn : ∀ i a, ¬ OwnAt (L2.start N vs) (ds.map Sl.fz ++ List.replicate (N.length - ds.length) Sl.no) i a := fun i a ⟨_, z⟩ => by
    have : ∀ s : Sl, (ds.map Sl.fz ++ List.replicate (N.length - ds.length) Sl.no)[i]? = some s → (∃ d, s = .fz d) ∨ s = .no := fun s e => by
      have m := List.mem_of_getElem? e
      rcases List.mem_append.mp m with m | m
      · obtain ⟨d, _, e⟩ := List.mem_map.mp m
        exact .inl ⟨d, e.symm⟩
      · exact .inr (List.mem_replicate.mp m).2
    rcases z with ⟨x, z⟩ | ⟨x, y, z⟩
    · rcases this _ z with ⟨d, e⟩ | e <;> cases e
    · rcases this _ z with ⟨d, e⟩ | e <;> cases e
  refine ss (fun _ => False) U H U _ _ H b ⟨rel_start dn, wd, u, fun _ z => z, fun i a z => (nn i a z).elim, fun _ _ z _ _ _ => z, fun i ds' a z1 z2 => (nn i a ⟨z2, .inl ⟨ds', z1⟩⟩).elim, fun i c fs a _ z1 z2 => (nn i a ⟨z2, .inr ⟨c, fs, z1⟩⟩).elim⟩ ((al_bd.mp al).mono (fun f b1 h1 => ?_) (fun c fs b1 h1 => ?_))
  · cases f with
    | nx w => exact fun U' σ' H' e s => h1 .non H' .non s.wd fun a o z1 z2 z3 => s.ext a o z1 z2 (fun z => z) z3
    | rt d => exact fun v H' dn w f => h1 v H' dn w fun a o z1 z2 z3 => f a o z1 z2 (fun z => z) z3
    | bk e => exact nomatch e
    | ct e => exact nomatch e
  · exact fun dd fvs H' z1 z2 z3 z4 z5 => h1 dd fvs H' z1 z2 z3 z4 fun a o y1 y2 y3 => z5 a o y1 y2 (fun z => z) y3
theorem le_no : ∀ (ε : Env) {n : Nat}, ε.length = n → Le (List.replicate n Sl.no) ε
  | [], _, rfl => .nil
  | x :: r, _, rfl => by
    show Le (List.replicate (r.length + 1) Sl.no) (x :: r)
    rw [List.replicate_succ]
    exact .n (le_no r rfl)
theorem fn_of1 {K : PySem.W.Frag} {T : List (Addr × Str)} {N : List Str} {F : D → Tr D} {vs : List V} {Q : VK} {t : TS} {envU : Unit → Env} {m : D → Tr (Fl Unit Empty)} (h : spF K T (ul1 F) vs H Q E) (hF : ∀ x, F x = fin (m x)) (hs : ∀ p c x, SS ⟨K, T, p, c⟩ E ([x].map Sl.fz ++ List.replicate (N.length - 1) Sl.no) t envU envE (m x)) : t { nx := fun _ H' => Q .non H', rt := Q } (L2.start N vs) H :=
  fn_of h fun p c ds ⟨_, _, _, al⟩ => by
    obtain ⟨x, rfl, _⟩ := al_ul1 al
    exact ⟨m x, hF x, hs p c x⟩
theorem fn_of2 {K : PySem.W.Frag} {T : List (Addr × Str)} {N : List Str} {F : D → D → Tr D} {vs : List V} {Q : VK} {t : TS} {envU : Unit → Env} {m : D → D → Tr (Fl Unit Empty)} (h : spF K T (ul2 F) vs H Q E) (hF : ∀ x y, F x y = fin (m x y)) (hs : ∀ p c x y, SS ⟨K, T, p, c⟩ E ([x, y].map Sl.fz ++ List.replicate (N.length - 2) Sl.no) t envU envE (m x y)) : t { nx := fun _ H' => Q .non H', rt := Q } (L2.start N vs) H :=
  fn_of h fun p c ds ⟨_, _, _, al⟩ => by
    obtain ⟨x, y, rfl, _⟩ := al_ul2 al
    exact ⟨m x y, hF x y, hs p c x y⟩
theorem fn_of3 {K : PySem.W.Frag} {T : List (Addr × Str)} {N : List Str} {F : D → D → D → Tr D} {vs : List V} {Q : VK} {t : TS} {envU : Unit → Env} {m : D → D → D → Tr (Fl Unit Empty)} (h : spF K T (ul3 F) vs H Q E) (hF : ∀ x y z, F x y z = fin (m x y z)) (hs : ∀ p c x y z, SS ⟨K, T, p, c⟩ E ([x, y, z].map Sl.fz ++ List.replicate (N.length - 3) Sl.no) t envU envE (m x y z)) : t { nx := fun _ H' => Q .non H', rt := Q } (L2.start N vs) H :=
  fn_of h fun p c ds ⟨_, _, _, al⟩ => by
    obtain ⟨x, y, z, rfl, _⟩ := al_ul3 al
    exact ⟨m x y z, hF x y z, hs p c x y z⟩
theorem spF_len {K : PySem.W.Frag} {T : List (Addr × Str)} {F : List D → Tr D} {n : Nat} (hn : ∀ (P : D → Nat → Prop) (X : Str → Fs → Nat → Prop) ds b, Al P X (F ds) b → ds.length = n) {vs : List V} {Q : VK} (h : spF K T F vs H Q E) : vs.length = n := by
  obtain ⟨p, c, U, ds, b, dn, wd, u, al⟩ := h
  rw [dn.length]
  exact hn _ _ _ _ al
theorem len1 {F : D → Tr D} (P : D → Nat → Prop) (X : Str → Fs → Nat → Prop) (ds : List D) (b : Nat) (h : Al P X (ul1 F ds) b) : ds.length = 1 := by obtain ⟨_, rfl, _⟩ := al_ul1 h; rfl
theorem len2 {F : D → D → Tr D} (P : D → Nat → Prop) (X : Str → Fs → Nat → Prop) (ds : List D) (b : Nat) (h : Al P X (ul2 F ds) b) : ds.length = 2 := by obtain ⟨_, _, rfl, _⟩ := al_ul2 h; rfl
theorem len3 {F : D → D → D → Tr D} (P : D → Nat → Prop) (X : Str → Fs → Nat → Prop) (ds : List D) (b : Nat) (h : Al P X (ul3 F ds) b) : ds.length = 3 := by obtain ⟨_, _, _, rfl, _⟩ := al_ul3 h; rfl
theorem srl_sp {F : List D → Tr D} {dvs : List V} {dds : List D} (hd : ∀ U H, DenL g U H dvs dds) : SRL g E (rSp (spF g.K g.T F) dvs E) (fun ds => F (ds ++ dds)) := fun U H b xs dxs Q dn wd u q =>
  ⟨g.p, g.c, U, _, b, dn.append (hd U H), wd, u, q⟩
theorem srl_sp0 {F : List D → Tr D} : SRL g E (rSp (spF g.K g.T F) [] E) F := fun U H b xs dxs Q dn wd u q =>
  ⟨g.p, g.c, U, dxs, b, by rw [List.append_nil]; exact dn, wd, u, q⟩
theorem al_isO {α : Type} {P : α → Nat → Prop} {X : Str → Fs → Nat → Prop} {c : Str} {o : D} {k : Fs → Tr α} (h : Al P X (isO c o k) b) : ∃ fs, o = .obj c fs ∧ Al P X (k fs) b := by
  unfold isO at h
  split at h
  · split at h
    · rename_i e
      subst e
      exact ⟨_, rfl, h⟩
    · exact h.elim
  · exact h.elim
theorem den_obj {v : V} {c : Str} {fs : Fs} (h : Den g U H v (.obj c fs)) : ∃ a dx fvs, v = .ref a ∧ H a = some (.ins (gd c g.K) dx fvs) ∧ ¬ U a ∧ DenF g U H fvs fs := by
  cases h with
  | obj h n k => exact ⟨_, _, _, rfl, h, n, k⟩
theorem se_mt {c m : Str} {r : List V → Hp → VK → Prop} {f : List D → Tr D} {ta : TE} {ma : Tr D} {t : TA} {mt : Tr (List D)} (hr : SRL g E r f) (ha : SE g E ε ta ma) (ht : SA g E ε t mt) :
    SE g E ε (tMt (gd c g.K) m r ta t) (bd ma fun o => isO c o fun fs => if fs.lookup m = none then bd mt fun ds => f (o :: ds) else .bad) := fun U σ H b Q R W u q =>
  ha.step R W u q fun v d H1 b1 d1 w1 f1 R1 u1 q1 => by
    obtain ⟨fs, rfl, q2⟩ := al_isO q1
    obtain ⟨a, dx, fvs, rfl, ea, na, df⟩ := den_obj d1
    by_cases hl : fs.lookup m = none
    · rw [if_pos hl] at q2
      refine ⟨a, dx, fvs, rfl, ea, df.look0 hl, ?_⟩
      refine ht.step R1 w1 u1 q2 fun vs ds H2 b2 d2 w2 f2 R2 u2 q3 => ?_
      exact hr U H2 b2 _ _ Q (.cons (d1.fr u1 f2) d2) w2 u2 (q3.mono (fun _ _ h => h.fr (f1.trans f2)) (fun _ _ _ h => h))
    · rw [if_neg hl] at q2
      exact q2.elim
def fldD (c f : Str) (o : D) : Tr D := isO c o fun fs => match fs.lookup f with
  | some d => .ok d
  | none => .bad
theorem sr_fld {c f : Str} : SR1 g E (rFld (gd c g.K) f) (fldD c f) := fun U H b x dx Q dn wd u q => by
  obtain ⟨fs, rfl, q2⟩ := al_isO q
  obtain ⟨a, dx, fvs, rfl, ea, na, df⟩ := den_obj dn
  cases e : fs.lookup f with
  | none => rw [e] at q2; exact q2.elim
  | some d =>
    rw [e] at q2
    obtain ⟨v, hv, d1⟩ := df.look e
    exact st_fld ea hv (okP.here q2 wd d1)
def spI (K : PySem.W.Frag) (T : List (Addr × Str)) (cn : Str) (F : Fs → List D → Tr Fs) : Sp := fun vs H Q E => ∃ p c U ds b x dx fvs fs rest, vs = .ref x :: rest ∧ H x = some (.ins (gd cn K) dx fvs) ∧ DenF ⟨K, T, p, c⟩ U H fvs fs ∧ U x ∧ x ≠ p ∧ x ≠ c ∧ DenL ⟨K, T, p, c⟩ U H rest ds ∧
  Wd ⟨K, T, p, c⟩ H b ∧ UOk ⟨K, T, p, c⟩ U H ∧ Al (fun fs' b' => ∀ dx' fvs' H', H' x = some (.ins (gd cn K) dx' fvs') → DenF ⟨K, T, p, c⟩ U H' fvs' fs' → Wd ⟨K, T, p, c⟩ H' b' → FrM ⟨K, T, p, c⟩ (· = x) H H' → Q .non H')
    (fun cn fs b => ∀ dd fvs H', H' dd = some (.xd fvs) → ¬ U dd → DenF ⟨K, T, p, c⟩ U H' fvs fs → Wd ⟨K, T, p, c⟩ H' b → FrM ⟨K, T, p, c⟩ (· = x) H H' → E (.ref (gd cn K)) (some dd) H') (F fs ds) b
theorem srl_mk {cn : Str} {F : Fs → List D → Tr Fs} {dvs : List V} {dds : List D} (hd : ∀ U H, DenL g U H dvs dds) : SRL g E (rMk (gd cn g.K) (spI g.K g.T cn F) dvs E) (fun ds => bd (F [] (ds ++ dds)) fun fs => .ok (.obj cn fs)) := fun U H b xs dxs Q dn wd u q => by
  unfold rMk
  intro x dx nx ndx ne
  have s1 : L2.Same H (upd (upd H dx (.own x)) x (.ins (gd cn g.K) dx [])) := fun a o e => by
    rw [upd_ne (ne_of_none e nx), upd_ne (ne_of_none e ndx)]
    exact e
  have nU : ¬ U x := u.new nx
  have hp : x ≠ g.p := fun z => nU (z ▸ u.p)
  have hc : x ≠ g.c := fun z => nU (z ▸ u.c)
  have sx : ∀ a, (∃ o, H a = some o) → (U a ∨ a = x) → U a := fun a ⟨o, e⟩ z => z.elim (fun z => z) (fun z => (ne_of_none e nx z).elim)
  have k1 : DenL g (fun a => U a ∨ a = x) (upd (upd H dx (.own x)) x (.ins (gd cn g.K) dx [])) (xs ++ dvs) (dxs ++ dds) := ((dn.append (hd U H)).grow nx).ext (fun a o e _ _ => s1 a o e)
  have k2 : UOk g (fun a => U a ∨ a = x) (upd (upd H dx (.own x)) x (.ins (gd cn g.K) dx [])) := ⟨.inl u.p, .inl u.c, fun a ha => by
    rcases ha with ha | rfl
    · obtain ⟨o, e, t⟩ := u.al a ha
      exact ⟨o, s1 a o e, t⟩
    · exact ⟨_, upd_same, (fun _ z => by cases z), (fun _ z => by cases z)⟩⟩
  have fr : ∀ {H' : Hp}, FrM g (· = x) (upd (upd H dx (.own x)) x (.ins (gd cn g.K) dx [])) H' → Fr H H' g.p := fun f1 a o e n t => f1 a o (s1 a o e) n (fun z => ne_of_none e nx z) t
  exact ⟨g.p, g.c, fun a => U a ∨ a = x, dxs ++ dds, b, x, dx, [], [], xs ++ dvs, rfl, upd_same, .nil, .inr rfl, hp, hc, k1, wd.same s1, k2,
    (al_bd.mp q).mono (fun fs b1 h1 dx' fvs' H' e1 d1 w1 f1 => ⟨rfl, h1 _ H' (.obj e1 nU (d1.sub fun a _ z => .inl z)) w1 (fr f1)⟩) (fun c fs b1 h1 dd fvs H' e1 n1 d1 w1 f1 => h1 dd fvs H' e1 (fun z => n1 (.inl z)) (d1.sub fun a _ z => .inl z) w1 (fr f1))⟩
theorem srl_mk0 {cn : Str} {F : Fs → List D → Tr Fs} : SRL g E (rMk (gd cn g.K) (spI g.K g.T cn F) [] E) (fun ds => bd (F [] ds) fun fs => .ok (.obj cn fs)) := by
  have h := srl_mk (g := g) (E := E) (cn := cn) (F := F) (dvs := []) (dds := []) (fun _ _ => .nil)
  intro U H b xs dxs Q dn wd u q
  refine h U H b xs dxs Q dn wd u ?_
  show Al _ _ (bd (F [] (dxs ++ [])) _) b
  rw [List.append_nil]
  exact q
def finI (m : Tr (Fl Fs Empty)) : Tr Fs := bd m fun f => match f with
  | .nx fs => .ok fs
  | .rt _ => .bad
  | .bk e => nomatch e
  | .ct e => nomatch e
theorem ini_of {K : PySem.W.Frag} {T : List (Addr × Str)} {N : List Str} {cn : Str} {F : Fs → List D → Tr Fs} {vs : List V} {Q : VK} {t : TS} {envI : Fs → Env} (h : spI K T cn F vs H Q E)
    (hs : ∀ p c fs ds, (∃ (P : Fs → Nat → Prop) (X : Str → Fs → Nat → Prop) (b : Nat), Al P X (F fs ds) b) → ∃ m, F fs ds = finI m ∧ SS ⟨K, T, p, c⟩ E (.oi cn fs :: (ds.map Sl.fz ++ List.replicate (N.length - (ds.length + 1)) Sl.no)) t envI envE m)
    (he : ∀ fs, (envI fs)[0]? = some (.oi cn fs)) : t { nx := fun _ H' => Q .non H', rt := Q } (L2.start N vs) H := by
  obtain ⟨p, c, U, ds, b, x, dx, fvs, fs, rest, rfl, hx, df, ux, np, nc, dn, wd, u, al⟩ := h
  obtain ⟨m, e, ss⟩ := hs p c fs ds ⟨_, _, _, al⟩
  rw [e] at al
  have st0 : L2.start N (.ref x :: rest) = some (.ref x) :: (rest.map some ++ List.replicate (N.length - (rest.length + 1)) none) := rfl
  have r1 : Rel ⟨K, T, p, c⟩ U H (rest.map some ++ List.replicate (N.length - (rest.length + 1)) none) (ds.map Sl.fz ++ List.replicate (N.length - (ds.length + 1)) Sl.no) := by
    have z := rel_start (g := ⟨K, T, p, c⟩) (N := N.drop 1) dn
    unfold L2.start at z
    rw [List.length_drop, Nat.sub_sub, Nat.sub_sub, Nat.add_comm 1, Nat.add_comm 1] at z
    exact z
  have nn : ∀ i a, ¬ OwnAt (rest.map some ++ List.replicate (N.length - (rest.length + 1)) none) (ds.map Sl.fz ++ List.replicate (N.length - (ds.length + 1)) Sl.no) i a := fun i a ⟨_, z⟩ => by
    have : ∀ s : Sl, (ds.map Sl.fz ++ List.replicate (N.length - (ds.length + 1)) Sl.no)[i]? = some s → (∃ d, s = .fz d) ∨ s = .no := fun s e => by
      have m := List.mem_of_getElem? e
      rcases List.mem_append.mp m with m | m
      · obtain ⟨d, _, e⟩ := List.mem_map.mp m
        exact .inl ⟨d, e.symm⟩
      · exact .inr (List.mem_replicate.mp m).2
    rcases z with ⟨x, z⟩ | ⟨x, y, z⟩
    · rcases this _ z with ⟨d, e⟩ | e <;> cases e
    · rcases this _ z with ⟨d, e⟩ | e <;> cases e
  have own : ∀ i a, OwnAt (L2.start N (.ref x :: rest)) (.oi cn fs :: (ds.map Sl.fz ++ List.replicate (N.length - (ds.length + 1)) Sl.no)) i a → i = 0 ∧ a = x := fun i a z => by
    rw [st0] at z
    obtain ⟨z1, z2⟩ := z
    cases i with
    | zero =>
      rw [List.getElem?_cons_zero] at z1
      cases z1
      exact ⟨rfl, rfl⟩
    | succ i =>
      rw [List.getElem?_cons_succ] at z1
      rw [List.getElem?_cons_succ] at z2
      exact (nn i a ⟨z1, z2⟩).elim
  refine ss (· = x) U H U _ _ H b ⟨⟨?_, fun i s e => ?_, fun i j a ne h1 h2 => ?_⟩, wd, u, fun _ z => z, fun i a z => .inl (own i a z).2, fun _ _ z _ _ _ => z, fun i ds' a z1 z2 => ?_, fun i c' fs' a _ z1 z2 => (own i a ⟨z2, .inr ⟨c', fs', z1⟩⟩).2⟩ ((al_bd.mp al).mono (fun f b1 h1 => ?_) (fun c fs b1 h1 => ?_))
  · rw [st0, List.length_cons, List.length_cons, r1.len]
  · rw [st0]
    cases i with
    | zero =>
      rw [List.getElem?_cons_zero] at e
      cases e
      exact ⟨_, rfl, x, dx, fvs, rfl, hx, df, ux, np, nc⟩
    | succ i =>
      rw [List.getElem?_cons_succ] at e
      rw [List.getElem?_cons_succ]
      exact r1.at_ i s e
  · exact ne ((own _ _ h1).1.trans (own _ _ h2).1.symm)
  · obtain ⟨rfl, _⟩ := own i a ⟨z2, .inl ⟨ds', z1⟩⟩
    cases z1
  · cases f with
    | nx w =>
      intro U' σ' H' ev s
      obtain ⟨o, e1, a, dx', fvs', rfl, ha, da, ua, _, _⟩ := s.rel.at_ 0 _ (he w)
      have ea := s.oim 0 cn w a rfl (he w) e1
      subst ea
      exact h1 dx' fvs' H' ha (da.sub fun z _ y => s.sub z y) s.wd s.ext
    | rt d => exact h1.elim
    | bk e => exact nomatch e
    | ct e => exact nomatch e
  · exact fun dd fvs H' z1 z2 z3 z4 z5 => h1 dd fvs H' z1 z2 z3 z4 z5
end
end Gp
end
section
set_option Elab.async false
set_option linter.all false
set_option maxRecDepth 100000
set_option maxHeartbeats 4000000
namespace Gp
open PySem PySem.Spec PyProof.Rows L2 Gh
section
variable {g : Gw} {U : Addr → Prop} {H H' H1 : Hp} {b : Nat} {E : XK} {Q : VK}
theorem denL_dp {K : PySem.W.Frag} : ∀ {vs : List V} {ds : List D} {es : List PyData}, DenL g U H vs ds → (∀ d ∈ ds, ∀ v e, Den g U H v d → toPy d = some e → Dp g.K H v e) → toPyL ds = some es → DpAll g.K H vs es
  | _, _, _, .nil, _, h => by cases h; exact .nil
  | _, d :: ds, es, .cons a r, ih, h => by
    unfold toPyL at h
    cases e1 : toPy d with
    | none => rw [e1] at h; cases h
    | some e =>
      cases e2 : toPyL ds with
      | none => rw [e1, e2] at h; cases h
      | some es' =>
        rw [e1, e2] at h
        cases h
        exact .cons (ih d List.mem_cons_self _ _ a e1) (denL_dp (K := K) r (fun d hd => ih d (List.mem_cons_of_mem _ hd)) e2)
theorem den_dp : ∀ (d : D) {v : V} {e : PyData}, Den g U H v d → toPy d = some e → Dp g.K H v e
  | .non, _, _, h, z => by cases h; cases z; exact .non
  | .bl b, _, _, h, z => by cases h; cases z; exact .bl b
  | .int i, _, _, h, z => by cases h; cases z; exact .int i
  | .str x, _, _, h, z => by cases h; cases z; exact .str x
  | .tup ds, v, e, h, z => by
    unfold toPy at z
    cases q : toPyL ds with
    | none => rw [q] at z; cases z
    | some es =>
      rw [q] at z
      cases z
      obtain ⟨a, vs, rfl, sq, _, k⟩ := den_tup h
      exact .tup sq (denL_dp (K := g.K) k (fun d hd v e h1 h2 => den_dp d h1 h2) q)
  | .lst ds, v, e, h, z => by
    unfold toPy at z
    cases q : toPyL ds with
    | none => rw [q] at z; cases z
    | some es =>
      rw [q] at z
      cases z
      obtain ⟨a, vs, rfl, hh, _, _, k⟩ := den_lst h
      exact .lst (SqL.of hh) (denL_dp (K := g.K) k (fun d hd v e h1 h2 => den_dp d h1 h2) q)
  | .obj _ _, _, _, _, z => by cases z
  | .err _ _, _, _, _, z => by cases z
  | .pen, _, _, _, z => by cases z
theorem new_lst {vs : List V} {ds : List D} (q : okP g U H Q (.lst ds) b) (w : Wd g H b) (u : UOk g U H) (l : vs.length ≤ sizeLine) (dn : DenL g U H vs ds) : ∀ p, H p = none → Q (.ref p) (upd H p (.lst vs)) := fun p np =>
  q _ _ (.lst upd_same (u.new np) l (dn.ext (fun a o e _ _ => same_new np a o e))) (w.same (same_new np)) (fr_same (same_new np))
theorem new_tup {vs : List V} {ds : List D} (q : okP g U H Q (.tup ds) b) (w : Wd g H b) (u : UOk g U H) (l : vs.length ≤ sizeLine) (dn : DenL g U H vs ds) : ∀ p, H p = none → Q (.ref p) (upd H p (.tup vs)) := fun p np =>
  q _ _ (.tup upd_same (u.new np) l (dn.ext (fun a o e _ _ => same_new np a o e))) (w.same (same_new np)) (fr_same (same_new np))
def iiD (f : Int → Int → D) (x y : D) : Tr D := match x, y with
  | .int i, .int j => .ok (f i j)
  | _, _ => .bad
def iicD (c : Int → Int → Prop) [∀ i j, Decidable (c i j)] (f : Int → Int → D) (x y : D) : Tr D := match x, y with
  | .int i, .int j => if c i j then .ok (f i j) else .bad
  | _, _ => .bad
theorem al_ii {P : D → Nat → Prop} {X : Str → Fs → Nat → Prop} {f : Int → Int → D} {x y : D} (h : Al P X (iiD f x y) b) : ∃ i j, x = .int i ∧ y = .int j ∧ P (f i j) b := by
  unfold iiD at h
  split at h
  · exact ⟨_, _, rfl, rfl, h⟩
  · exact h.elim
theorem sr_ii {f : Int → Int → D} {f' : Int → Int → V} (hf : ∀ i j U H, Den g U H (f' i j) (f i j)) : SR2 g E (rI0 f') (iiD f) := fun U H b x y dx dy Q d1 d2 w u q => by
  obtain ⟨i, j, rfl, rfl, q1⟩ := al_ii q
  cases den_int d1
  cases den_int d2
  exact ⟨i, j, rfl, rfl, okP.here q1 w (hf i j U H)⟩
def ltD : D → D → Tr D := iiD fun i j => .bl (decide (i < j))
def leD : D → D → Tr D := iiD fun i j => .bl (decide (i ≤ j))
def gtD : D → D → Tr D := iiD fun i j => .bl (decide (j < i))
def geD : D → D → Tr D := iiD fun i j => .bl (decide (j ≤ i))
def subD : D → D → Tr D := iiD fun i j => .int (i - j)
def modD : D → D → Tr D := iicD (fun _ j => 0 < j) fun i j => .int (i % j)
def divD : D → D → Tr D := iicD (fun _ j => 0 < j ∧ j < 10 ^ 100) fun i j => .int (i / j)
theorem sr_le : SR2 g E (rI0 fun i j => .bl (decide (i ≤ j))) leD := sr_ii fun _ _ _ _ => .bl _
theorem sr_gt : SR2 g E (rI0 fun i j => .bl (decide (j < i))) gtD := sr_ii fun _ _ _ _ => .bl _
theorem sr_sub : SR2 g E (rI0 fun i j => .int (i - j)) subD := sr_ii fun _ _ _ _ => .int _
def negD (x : D) : Tr D := match x with
  | .int i => .ok (.int (-i))
  | _ => .bad
theorem sr_neg : SR1 g E (rU fun i => .int (-i)) negD := fun U H b x dx Q d1 w u q => by
  cases dx with
  | int i =>
    cases den_int d1
    exact ⟨i, rfl, okP.here q w (.int _)⟩
  | _ => exact q.elim
def addD (x y : D) : Tr D := match x, y with
  | .int i, .int j => .ok (.int (i + j))
  | .str a, .str b => if a.length + b.length ≤ sizeLine then .ok (.str (a ++ b)) else .bad
  | .lst a, .lst b => if a.length + b.length ≤ sizeLine then .ok (.lst (a ++ b)) else .bad
  | .tup a, .tup b => if a.length + b.length ≤ sizeLine then .ok (.tup (a ++ b)) else .bad
  | _, _ => .bad
def rAddA (K : PySem.W.Frag) : R2 := fun x y H Q => rI0 (fun i j => .int (i + j)) x y H Q ∨ (∃ i j, x = .str i ∧ y = .str j ∧ i.length + j.length ≤ sizeLine ∧ Q (.str (i ++ j)) H) ∨ rCat x y H Q ∨ rCatA K x y H Q
theorem op_addA {X : Cx} {K : PySem.W.Frag} (h : X.K = K) : OpR X (binaryOp .Add) (rAddA K) := h ▸ op_add.or (op_add_str.or (op_cat.or op_catA))
theorem str_app_len (a b : Str) : (a ++ b).length = a.length + b.length := by
  show (a.cps ++ b.cps).size = _
  rw [Array.size_append]
  rfl
theorem sr_add : SR2 g E (rAddA g.K) addD := fun U H b x y dx dy Q d1 d2 w u q => by
  unfold addD at q
  split at q
  · rename_i i j
    cases den_int d1
    cases den_int d2
    exact .inl ⟨i, j, rfl, rfl, okP.here q w (.int _)⟩
  · rename_i a c
    split at q
    · rename_i h
      obtain ⟨rfl, l1⟩ := den_str d1
      obtain ⟨rfl, l2⟩ := den_str d2
      exact .inr (.inl ⟨a, c, rfl, rfl, h, okP.here q w (.str _ (by rw [str_app_len]; exact h))⟩)
    · exact q.elim
  · rename_i a c
    split at q
    · rename_i h
      obtain ⟨p1, v1, rfl, h1, n1, l1, k1⟩ := den_lst d1
      obtain ⟨p2, v2, rfl, h2, n2, l2, k2⟩ := den_lst d2
      have hl : v1.length + v2.length ≤ sizeLine := by rw [k1.length, k2.length]; exact h
      exact .inr (.inr (.inl ⟨p1, p2, v1, v2, rfl, rfl, h1, h2, hl, new_lst q w u (by rw [List.length_append]; exact hl) (k1.append k2)⟩))
    · exact q.elim
  · rename_i a c
    split at q
    · rename_i h
      obtain ⟨p1, v1, rfl, h1, l1, k1⟩ := den_tup d1
      obtain ⟨p2, v2, rfl, h2, l2, k2⟩ := den_tup d2
      have hl : v1.length + v2.length ≤ sizeLine := by rw [k1.length, k2.length]; exact h
      refine .inr (.inr (.inr ⟨p1, p2, v1, v2, rfl, rfl, h1, h2, hl, fun e => ?_, fun _ e => ?_, fun _ _ => new_tup q w u (by rw [List.length_append]; exact hl) (k1.append k2)⟩))
      · subst e
        cases k1
        exact okP.here q w d2
      · subst e
        cases k2
        rw [List.append_nil] at q
        exact okP.here q w d1
    · exact q.elim
  · exact q.elim
def mulD (x y : D) : Tr D := match x, y with
  | .int i, .int j => if (-(2 ^ 64) < i ∧ i < 2 ^ 64) ∨ (-(2 ^ 64) < j ∧ j < 2 ^ 64) then .ok (.int (i * j)) else .bad
  | .lst a, .int k => if -(2 ^ 63) ≤ k ∧ k < 2 ^ 63 ∧ a.length * k.toNat ≤ sizeLine then .ok (.lst (List.replicate k.toNat a).flatten) else .bad
  | _, _ => .bad
def rMulA : R2 := fun x y H Q => rI CMul (fun i j => .int (i * j)) x y H Q ∨ rRep x y H Q
theorem op_mulA {X : Cx} : OpR X (binaryOp .Mult) rMulA := op_mul.or op_rep
theorem denL_rep {vs : List V} {ds : List D} (h : DenL g U H vs ds) : ∀ n : Nat, DenL g U H (List.replicate n vs).flatten (List.replicate n ds).flatten
  | 0 => .nil
  | n + 1 => by
    rw [List.replicate_succ, List.replicate_succ, List.flatten_cons, List.flatten_cons]
    exact h.append (denL_rep h n)
theorem sr_mul : SR2 g E rMulA mulD := fun U H b x y dx dy Q d1 d2 w u q => by
  unfold mulD at q
  split at q
  · rename_i i j
    split at q
    · rename_i h
      cases den_int d1
      cases den_int d2
      exact .inl ⟨i, j, rfl, rfl, h, okP.here q w (.int _)⟩
    · exact q.elim
  · rename_i a k
    split at q
    · rename_i h
      obtain ⟨p1, v1, rfl, h1, n1, l1, k1⟩ := den_lst d1
      cases den_int d2
      have e : v1.length * k.toNat ≤ sizeLine := by rw [k1.length]; exact h.2.2
      refine .inr ⟨p1, k, v1, rfl, rfl, h1, h.1, h.2.1, e, new_lst q w u ?_ (denL_rep k1 _)⟩
      rw [(denL_rep k1 k.toNat).length, List.length_flatten, List.map_replicate, List.sum_replicate_nat, Nat.mul_comm]
      exact h.2.2
    · exact q.elim
  · exact q.elim
def eqS : D → D → Option Bool
  | .non, .non => some true | .non, .int _ => some false | .int _, .non => some false | .non, .bl _ => some false | .bl _, .non => some false | .non, .str _ => some false | .str _, .non => some false
  | .int i, .int j => some (decide (i = j)) | .bl a, .bl c => some (decide (a = c)) | .str a, .str c => some (decide (a = c))
  | .int _, .str _ => some false | .str _, .int _ => some false | .bl _, .str _ => some false | .str _, .bl _ => some false
  | _, _ => none
def eqB (x y : D) : Tr Bool := match eqS x y with
  | some b => .ok b
  | none => match toPy x, toPy y with
    | some a, some c => if SeqAt.shaped a = true ∧ SeqAt.shaped c = true then .ok (PyData.eqv a c) else .bad
    | _, _ => .bad
def eqD (x y : D) : Tr D := bd (eqB x y) fun k => .ok (.bl k)
def neD (x y : D) : Tr D := bd (eqB x y) fun k => .ok (.bl (!k))
def rEqA (K : PySem.W.Frag) : R2 := fun x y H Q => rEq x y H Q ∨ rEqD K x y H Q
def rNeA (K : PySem.W.Frag) : R2 := fun x y H Q => rNe x y H Q ∨ rNeD K x y H Q
theorem op_eqA {X : Cx} {K : PySem.W.Frag} (h : X.K = K) (hu : X.A.units + 64 < cLine) : OpR X (compareOp .Eq) (rEqA K) := h ▸ op_eq.or (op_eqD hu)
theorem op_neA {X : Cx} {K : PySem.W.Frag} (h : X.K = K) (hu : X.A.units + 64 < cLine) : OpR X (compareOp .NotEq) (rNeA K) := h ▸ op_ne.or (op_neD hu)
theorem eqS_scal {x y : D} {v w : V} {k : Bool} (h : eqS x y = some k) (d1 : Den g U H v x) (d2 : Den g U H w y) : scal v w = true ∧ decide (v = w) = k := by
  cases x <;> cases y <;> first
    | (cases h; done)
    | (cases d1; cases d2; cases h; exact ⟨rfl, by simp⟩)
theorem al_eqB {P : Bool → Nat → Prop} {X : Str → Fs → Nat → Prop} {x y : D} (h : Al P X (eqB x y) b) : (∃ k, eqS x y = some k ∧ P k b) ∨ ∃ a c, toPy x = some a ∧ toPy y = some c ∧ SeqAt.shaped a = true ∧ SeqAt.shaped c = true ∧ P (PyData.eqv a c) b := by
  unfold eqB at h
  split at h
  · exact .inl ⟨_, by assumption, h⟩
  · split at h
    · split at h
      · rename_i e1 e2 z
        exact .inr ⟨_, _, e1, e2, z.1, z.2, h⟩
      · exact h.elim
    · exact h.elim
theorem sr_eq : SR2 g E (rEqA g.K) eqD := fun U H b x y dx dy Q d1 d2 w u q => by
  rcases al_eqB (al_bd.mp q) with ⟨k, e, q1⟩ | ⟨a, c, e1, e2, s1, s2, q1⟩
  · obtain ⟨h1, h2⟩ := eqS_scal e d1 d2
    refine .inl ⟨h1, ?_⟩
    rw [h2]
    exact okP.here q1 w (.bl _)
  · exact .inr ⟨a, c, den_dp dx d1 e1, den_dp dy d2 e2, s1, s2, okP.here q1 w (.bl _)⟩
theorem sr_ne : SR2 g E (rNeA g.K) neD := fun U H b x y dx dy Q d1 d2 w u q => by
  rcases al_eqB (al_bd.mp q) with ⟨k, e, q1⟩ | ⟨a, c, e1, e2, s1, s2, q1⟩
  · obtain ⟨h1, h2⟩ := eqS_scal e d1 d2
    refine .inl ⟨h1, ?_⟩
    rw [h2]
    exact okP.here q1 w (.bl _)
  · exact .inr ⟨a, c, den_dp dx d1 e1, den_dp dy d2 e2, s1, s2, okP.here q1 w (.bl _)⟩
def isN (x : D) : Bool := match x with
  | .non => true
  | _ => false
theorem den_non {v : V} {d : D} (h : Den g U H v d) : decide (v = .non) = isN d := by
  cases h <;> simp [isN]
theorem sr_isN : SR2 g E rIsN (fun x y => match y with | .non => .ok (.bl (isN x)) | _ => .bad) := fun U H b x y dx dy Q d1 d2 w u q => by
  cases dy with
  | non =>
    cases d2
    refine st_isN ?_
    rw [den_non d1]
    exact okP.here q w (.bl _)
  | _ => exact q.elim
theorem sr_notN : SR2 g E rNotN (fun x y => match y with | .non => .ok (.bl (!isN x)) | _ => .bad) := fun U H b x y dx dy Q d1 d2 w u q => by
  cases dy with
  | non =>
    cases d2
    refine st_notN ?_
    rw [den_non d1]
    exact okP.here q w (.bl _)
  | _ => exact q.elim
def ixD (x y : D) : Tr D := match x, y with
  | .lst ds, .int i => match atI ds i with | some d => .ok d | none => .bad
  | .tup ds, .int i => match atI ds i with | some d => .ok d | none => .bad
  | .str z, .int i => match atI z.cps.toList i with | some c => .ok (.str ⟨#[c]⟩) | none => .bad
  | _, _ => .bad
theorem ix_seqK {X : Cx} {K : PySem.W.Frag} (h : X.K = K) : IxR X (rIx K) := h ▸ ix_seq
theorem denL_at {vs : List V} {ds : List D} {i : Int} {d : D} (h : DenL g U H vs ds) (e : atI ds i = some d) : ∃ v, atI vs i = some v ∧ Den g U H v d := by
  unfold atI at e ⊢
  rw [h.length]
  cases q : ixN ds.length i with
  | none => rw [q] at e; cases e
  | some j =>
    rw [q] at e
    exact h.getD e
theorem sr_ix : SR2 g E (rIx g.K) ixD := fun U H b x y dx dy Q d1 d2 w u q => by
  unfold ixD at q
  split at q
  · rename_i ds i
    split at q
    · rename_i d e
      obtain ⟨p, vs, rfl, h, n, l, k⟩ := den_lst d1
      cases den_int d2
      obtain ⟨v, hv, dv⟩ := denL_at k e
      exact .inl ⟨p, vs, i, v, rfl, rfl, SqL.of h, hv, okP.here q w dv⟩
    · exact q.elim
  · rename_i ds i
    split at q
    · rename_i d e
      obtain ⟨p, vs, rfl, h, l, k⟩ := den_tup d1
      cases den_int d2
      obtain ⟨v, hv, dv⟩ := denL_at k e
      exact .inr (.inl ⟨p, vs, i, v, rfl, rfl, h, hv, okP.here q w dv⟩)
    · exact q.elim
  · rename_i z i
    split at q
    · rename_i c e
      obtain ⟨rfl, l⟩ := den_str d1
      cases den_int d2
      exact .inr (.inr ⟨z, i, c, rfl, rfl, l, e, okP.here q w den1⟩)
    · exact q.elim
  · exact q.elim
def lenD (x : D) : Tr D := match x with
  | .lst ds => .ok (.int ds.length)
  | .tup ds => .ok (.int ds.length)
  | .str z => .ok (.int z.length)
  | _ => .bad
theorem srl_len : SRL g E (rLn g.K) (ul1 lenD) := fun U H b xs dxs Q dn w u q => by
  obtain ⟨x, rfl, q1⟩ := al_ul1 q
  obtain ⟨v, rfl, d1⟩ := denL_1 dn
  cases x with
  | lst ds =>
    obtain ⟨p, vs, rfl, h, n, l, k⟩ := den_lst d1
    refine st_lenL h ?_
    rw [k.length]
    exact okP.here q1 w (.int _)
  | tup ds =>
    obtain ⟨p, vs, rfl, h, l, k⟩ := den_tup d1
    unfold rLn
    exact ⟨_, _, rfl, .inr ⟨vs, h, rfl⟩, by rw [k.length]; exact okP.here q1 w (.int _)⟩
  | str z =>
    obtain ⟨rfl, l⟩ := den_str d1
    exact st_lenS l (okP.here q1 w (.int _))
  | _ => exact q1.elim
def tupD (x : D) : Tr D := match x with
  | .lst ds => .ok (.tup ds)
  | .tup ds => .ok (.tup ds)
  | _ => .bad
def intD (x : D) : Tr D := match x with
  | .int i => .ok (.int i)
  | .bl k => .ok (.int (if k = true then 1 else 0))
  | _ => .bad
theorem srl_int : SRL g E rInt (ul1 intD) := fun U H b xs dxs Q dn w u q => by
  obtain ⟨x, rfl, q1⟩ := al_ul1 q
  obtain ⟨v, rfl, d1⟩ := denL_1 dn
  cases x with
  | int i => cases d1; exact st_int (okP.here q1 w (.int _))
  | bl k => cases d1; exact st_intB (okP.here q1 w (.int _))
  | _ => exact q1.elim
def absD (x : D) : Tr D := match x with
  | .int i => .ok (.int (if i < 0 then -i else i))
  | _ => .bad
end
end Gp
end
section
set_option Elab.async false
set_option linter.all false
set_option maxRecDepth 100000
set_option maxHeartbeats 4000000
namespace Gp
open PySem PySem.Spec PyProof.Rows L2 Gh
section
variable {g : Gw} {Mt U0 U U' : Addr → Prop} {H0 H H' H1 H2 : Hp} {b b1 : Nat} {σ : L2.St} {ε ε' : Env} {E : XK} {Q : VK} {W L W' : Type}
variable {env : W → Env} {envL : L → Env} {env' : W' → Env} {u ta tb : TS} {te : TE} {me : Tr D}
def flatD : D → Bool
  | .non => true
  | .bl _ => true
  | .int _ => true
  | .str _ => true
  | _ => false
def eqF : D → D → Bool
  | .non, .non => true
  | .bl a, .bl b => a == b
  | .bl a, .int b => (if a then 1 else 0) == b
  | .int a, .bl b => a == (if b then 1 else 0)
  | .int a, .int b => a == b
  | .str a, .str b => a == b
  | _, _ => false
theorem flat_den {v : V} {d : D} (h : Den g U H v d) (f : flatD d = true) : flatV v = true := by
  cases h <;> first
    | rfl
    | cases f
theorem eqF_den {v w : V} {d e : D} (h : Den g U H v d) (k : Den g U H w e) : eqF d e = eqV v w := by
  cases h <;> cases k <;> rfl
def inD (x : D) (ds : List D) : Bool := ds.any fun y => eqF y x
theorem inD_den {v : V} {d : D} (h : Den g U H v d) : ∀ {vs : List V} {ds : List D}, DenL g U H vs ds → inD d ds = inV v vs
  | _, _, .nil => rfl
  | _, _, .cons a r => by
    have := inD_den h r
    unfold inD inV at this ⊢
    rw [List.any_cons, List.any_cons, eqF_den a h, this]
theorem flats_den : ∀ {vs : List V} {ds : List D}, DenL g U H vs ds → ds.all flatD = true → vs.all flatV = true
  | _, _, .nil, _ => rfl
  | _, _, .cons a r, f => by
    rw [List.all_cons, Bool.and_eq_true] at f ⊢
    exact ⟨flat_den a f.1, flats_den r f.2⟩
def inB (x y : D) : Tr Bool := match y with
  | .lst ds => if flatD x = true ∧ ds.all flatD = true then .ok (inD x ds) else .bad
  | .tup ds => if flatD x = true ∧ ds.all flatD = true then .ok (inD x ds) else .bad
  | .str j => match x with
    | .str i => .ok (!(Builtin.Str.occurrences j i 0 j.length 1).isEmpty)
    | _ => .bad
  | _ => .bad
def inOD (x y : D) : Tr D := bd (inB x y) fun k => .ok (.bl k)
def rInA (K : PySem.W.Frag) : R2 := fun x y H Q => rIn K false x y H Q ∨ ∃ i j, x = .str i ∧ y = .str j ∧ Q (.bl (!(Builtin.Str.occurrences j i 0 j.length 1).isEmpty)) H
theorem op_inA {X : Cx} {K : PySem.W.Frag} (h : X.K = K) : OpR X (compareOp .In) (rInA K) := h ▸ op_in_seq.or op_in_str
theorem al_inB {P : Bool → Nat → Prop} {Z : Str → Fs → Nat → Prop} {x y : D} {v w : V} (d1 : Den g U H v x) (d2 : Den g U H w y) (h : Al P Z (inB x y) b) :
    (∃ p vs, w = .ref p ∧ (SqL g.K H p vs ∨ SqT g.K H p vs) ∧ flatV v = true ∧ vs.all flatV = true ∧ P (inV v vs) b) ∨ ∃ i j, v = .str i ∧ w = .str j ∧ P (!(Builtin.Str.occurrences j i 0 j.length 1).isEmpty) b := by
  unfold inB at h
  split at h
  · split at h
    · rename_i z
      obtain ⟨p, vs, rfl, hh, _, _, k⟩ := den_lst d2
      rw [inD_den d1 k] at h
      exact .inl ⟨p, vs, rfl, .inl (SqL.of hh), flat_den d1 z.1, flats_den k z.2, h⟩
    · exact h.elim
  · split at h
    · rename_i z
      obtain ⟨p, vs, rfl, hh, _, k⟩ := den_tup d2
      rw [inD_den d1 k] at h
      exact .inl ⟨p, vs, rfl, .inr hh, flat_den d1 z.1, flats_den k z.2, h⟩
    · exact h.elim
  · split at h
    · obtain ⟨rfl, _⟩ := den_str d1
      obtain ⟨rfl, _⟩ := den_str d2
      exact .inr ⟨_, _, rfl, rfl, h⟩
    · exact h.elim
  · exact h.elim
theorem sr_in : SR2 g E (rInA g.K) inOD := fun U H b x y dx dy Q d1 d2 w u q => by
  rcases al_inB d1 d2 (al_bd.mp q) with ⟨p, vs, rfl, h1, h2, h3, h4⟩ | ⟨i, j, rfl, rfl, h⟩
  · exact .inl ⟨p, vs, rfl, h1, h2, h3, okP.here h4 w (.bl _)⟩
  · exact .inr ⟨i, j, rfl, rfl, okP.here h w (.bl _)⟩
def SO (g : Gw) (E : XK) (ε : Env) (t : TO) (m : Tr (Option Int)) : Prop := ∀ U σ H b (Q : Option Int → Hp → Prop), Rel g U H σ ε → Wd g H b → UOk g U H → Al (fun o b' => ∀ H', Wd g H' b' → Fr H H' g.p → Q o H') (exP g U E H) m b → t σ H Q
theorem so_none : SO g E ε tNoPart (.ok none) := fun U σ H b Q R W u q => q H W Fr.refl
def asI (d : D) : Tr (Option Int) := match d with
  | .int i => .ok (some i)
  | _ => .bad
theorem so_some (he : SE g E ε te me) : SO g E ε (tPart te) (bd me asI) := fun U σ H b Q R W u q =>
  he.step R W u q fun v d H1 b1 d1 w1 f1 R1 u1 q1 => by
    cases d with
    | int i =>
      cases den_int d1
      exact ⟨i, rfl, q1 H1 w1 f1⟩
    | _ => exact q1.elim
theorem SO.step {α : Type} {t : TO} {m : Tr (Option Int)} {k : Option Int → Tr α} {P : α → Nat → Prop} {Q : Option Int → Hp → Prop} (ha : SO g E ε t m) (R : Rel g U H σ ε) (W : Wd g H b) (u : UOk g U H) (h : Al P (exP g U E H) (bd m k) b)
    (hk : ∀ d H1 b1, Wd g H1 b1 → Fr H H1 g.p → Rel g U H1 σ ε → UOk g U H1 → Al P (exP g U E H1) (k d) b1 → Q d H1) : t σ H Q :=
  ha U σ H b Q R W u ((al_bd.mp h).mono (fun d b1 h1 H1 w1 f1 => hk d H1 b1 w1 f1 (R.fr u f1) (u.fr f1 w1) (al_frX f1 h1)) (fun _ _ _ h => h))
def cutG {α : Type} (xs : List α) (lo hi : Option Int) : List α := (xs.drop (HT.sIx xs.length 0 lo)).take (HT.sIx xs.length xs.length hi - HT.sIx xs.length 0 lo)
def slD (x : D) (lo hi : Option Int) : Tr D := match x with
  | .lst ds => .ok (.lst (cutG ds lo hi))
  | .tup ds => .ok (.tup (cutG ds lo hi))
  | .str z => if (cutS z lo hi).length ≤ sizeLine then .ok (.str (cutS z lo hi)) else .bad
  | _ => .bad
def rSlAll (K : PySem.W.Frag) : V → Option Int → Option Int → Hp → VK → Prop := fun x lo hi H Q => rSlL K x lo hi H Q ∨ rSlA K x lo hi H Q ∨ L2.rSlS x lo hi H Q
theorem sl_all {X : Cx} {K : PySem.W.Frag} (h : X.K = K) : L2.SlR X (rSlAll K) := h ▸ sl_list.or (sl_tupA.or sl_str)
theorem denL_cut {vs : List V} {ds : List D} (k : DenL g U H vs ds) (lo hi : Option Int) : DenL g U H (cutV vs lo hi) (cutG ds lo hi) := by
  unfold cutV cutG
  rw [k.length]
  exact (k.drop _).take _
theorem se_sl {tl th : TO} {ml mh : Tr (Option Int)} (he : SE g E ε te me) (hl : SO g E ε tl ml) (hh : SO g E ε th mh) : SE g E ε (tSl (rSlAll g.K) te tl th) (bd me fun x => bd ml fun lo => bd mh fun hi => slD x lo hi) := fun U σ H b Q R W u q =>
  he.step R W u q fun v d H1 b1 d1 w1 f1 R1 u1 q1 => hl.step R1 w1 u1 q1 fun lo H2 b2 w2 f2 R2 u2 q2 => hh.step R2 w2 u2 q2 fun hi H3 b3 w3 f3 R3 u3 q3 => by
    have d3 := d1.fr u1 (f2.trans f3)
    have q4 := q3.mono (P' := okP g U H3 Q) (fun _ _ h => okP.fr ((f1.trans f2).trans f3) h) (fun _ _ _ h => h)
    cases d with
    | lst ds =>
      obtain ⟨p, vs, rfl, h, n, l, k⟩ := den_lst d3
      exact .inl ⟨p, vs, rfl, SqL.of h, new_lst q4 w3 u3 (Nat.le_trans (cutV_length _ _ _) l) (denL_cut k lo hi)⟩
    | tup ds =>
      obtain ⟨p, vs, rfl, h, l, k⟩ := den_tup d3
      refine .inr (.inl ⟨p, vs, rfl, h, fun e => ?_, fun _ => new_tup q4 w3 u3 (Nat.le_trans (cutV_length _ _ _) l) (denL_cut k lo hi)⟩)
      have e2 : cutG ds lo hi = ds := by
        unfold cutG
        rw [← k.length, e.1, e.2, List.drop_zero, Nat.sub_zero, k.length]
        exact List.take_length
      have q5 : okP g U H3 Q (.tup (cutG ds lo hi)) b3 := q4
      rw [e2] at q5
      exact okP.here q5 w3 d3
    | str z =>
      obtain ⟨rfl, l⟩ := den_str d3
      by_cases hz : (cutS z lo hi).length ≤ sizeLine
      · have q5 : Al (okP g U H3 Q) (exP g U E H3) (if (cutS z lo hi).length ≤ sizeLine then .ok (.str (cutS z lo hi)) else .bad) b3 := q4
        rw [if_pos hz] at q5
        exact .inr (.inr ⟨z, rfl, l, okP.here q5 w3 (.str _ hz)⟩)
      · have q5 : Al (okP g U H3 Q) (exP g U E H3) (if (cutS z lo hi).length ≤ sizeLine then .ok (.str (cutS z lo hi)) else .bad) b3 := q4
        rw [if_neg hz] at q5
        exact q5.elim
    | _ => exact q4.elim
def rgOk (a b : Int) : Prop := -(2 ^ 62) ≤ a ∧ a < 2 ^ 62 ∧ -(2 ^ 62) ≤ b ∧ b < 2 ^ 62 ∧ b - a ≤ 16777216
instance (a b : Int) : Decidable (rgOk a b) := by unfold rgOk; infer_instance
def IsT (g : Gw) (u : Value) (f : D → Option Bool) : Prop := ∀ U H v d k, Den g U H v d → f d = some k → (∃ t, TyX g.K H v t ∧ PySem.W.kitOne g.K t u = some k) ∨ ∃ a C dd fvs, v = .ref a ∧ H a = some (exk a C dd) ∧ H dd = some (.xd fvs) ∧ ErrT g.K C ∧ PySem.W.kitOne g.K (.ref C) u = some k
def opt {α : Type} (o : Option α) : Tr α := match o with
  | some a => .ok a
  | none => .bad
theorem se_isi {cv : V} {u : Value} {f : D → Option Bool} (hc : ClsV cv u) (hT : IsT g u f) (he : SE g E ε te me) : SE g E ε (tCB (rIsiZ g.K) (tCons te (tCons (tC cv) tNil))) (bd me fun d => bd (opt (f d)) fun k => .ok (.bl k)) := fun U σ H b Q R W uo q =>
  he.step R W uo q fun v d H1 b1 d1 w1 f1 R1 u1 q1 => by
    cases e : f d with
    | none => rw [e] at q1; exact q1.elim
    | some k =>
      rw [e] at q1
      have q2 := okP.here (okP.fr f1 q1) w1 (.bl k)
      rcases hT U H1 v d k d1 e with ⟨t, h1, h2⟩ | ⟨a, C, dd, fvs, rfl, h1, h2, h3, h4⟩
      · exact .inl ⟨v, cv, t, u, k, rfl, hc, h1, h2, q2⟩
      · exact .inr ⟨a, C, dd, fvs, cv, u, k, rfl, hc, h1, h2, h3, h4, q2⟩
def kdN : D → Option String
  | .non => some "NoneType"
  | .bl _ => some "bool"
  | .int _ => some "int"
  | .str _ => some "str"
  | .lst _ => some "list"
  | .tup _ => some "tuple"
  | .dct => some "dict"
  | .dic _ => some "dict"
  | _ => none
theorem kd_ty {v : V} {d : D} {n : String} (h : Den g U H v d) (e : kdN d = some n) : TyX g.K H v (.type n) := by
  cases h with
  | non => cases e; exact .base .non
  | bl b => cases e; exact .base (.bl b)
  | int i => cases e; exact .base (.int i)
  | str x _ => cases e; exact .base (.str x)
  | tup h _ _ _ => cases e; exact .base (.tup h)
  | tupW h _ _ _ =>
    cases e
    rcases h (fun _ => none) with (z | ⟨o, z⟩) | ⟨o, its, n, z1, z2, _⟩
    · cases z
    · cases z
    · exact .kTuple z1 z2
  | lst h _ _ _ => cases e; exact .base (.lst h)
  | obj _ _ _ => cases e
  | err _ _ _ _ _ => cases e
  | pen => cases e
  | cls _ => cases e
  | dct h _ => cases e; exact .base (.dK h)
  | dic h _ _ _ => cases e; exact .base (.dK h)
  | dit _ _ _ _ => cases e
  | dik _ _ _ _ => cases e
def isF (kb : String → Option Bool) (tab etab : List (Str × Bool)) (d : D) : Option Bool := match d with
  | .obj c _ => tab.lookup c
  | .err c _ => etab.lookup c
  | d => (kdN d).bind kb
theorem isT_of {u : Value} {kb : String → Option Bool} {tab etab : List (Str × Bool)} (h1 : ∀ n k, kb n = some k → PySem.W.kitOne g.K (.type n) u = some k) (h2 : ∀ c k, tab.lookup c = some k → Cls g.K (gd c g.K) ∧ InsT g.K (gd c g.K) ∧ PySem.W.kitOne g.K (.ref (gd c g.K)) u = some k)
    (h3 : ∀ c k, etab.lookup c = some k → ErrT g.K (gd c g.K) ∧ PySem.W.kitOne g.K (.ref (gd c g.K)) u = some k) : IsT g u (isF kb tab etab) := fun U H v d k dn e => by
  have base : ∀ d, Den g U H v d → (kdN d).bind kb = some k → ∃ t, TyX g.K H v t ∧ PySem.W.kitOne g.K t u = some k := fun d dn e => by
    cases q : kdN d with
    | none => rw [q] at e; cases e
    | some n =>
      rw [q] at e
      exact ⟨_, kd_ty dn q, h1 n k e⟩
  cases d with
  | obj c fs =>
    obtain ⟨a, dx, fvs, rfl, ea, _, _⟩ := den_obj dn
    obtain ⟨z1, z2, z3⟩ := h2 c k e
    exact .inl ⟨_, z2.ty z1 ea, z3⟩
  | err c fs =>
    cases dn with
    | err ha _ hd _ _ =>
      obtain ⟨z1, z2⟩ := h3 c k e
      exact .inr ⟨_, _, _, _, rfl, ha, hd, z1, z2⟩
  | non => exact .inl (base _ dn e)
  | bl b => exact .inl (base _ dn e)
  | int i => exact .inl (base _ dn e)
  | str x => exact .inl (base _ dn e)
  | lst ds => exact .inl (base _ dn e)
  | tup ds => exact .inl (base _ dn e)
  | pen => exact .inl (base _ dn e)
  | cls c => exact .inl (base _ dn e)
  | dct => exact .inl (base _ dn e)
  | dic ps => exact .inl (base _ dn e)
  | dit ps => exact .inl (base _ dn e)
  | dik ps => exact .inl (base _ dn e)
def strD (d : D) : Tr D := match d with
  | .int i => if i.natAbs.log2 < 1920 ∧ (Str.ofString (toString i)).length ≤ sizeLine then .ok (.str (toString i)) else .bad
  | _ => .bad
theorem srl_str : SRL g E rStrI (ul1 strD) := fun U H b xs dxs Q dn w u q => by
  obtain ⟨x, rfl, q1⟩ := al_ul1 q
  obtain ⟨v, rfl, d1⟩ := denL_1 dn
  unfold strD at q1
  split at q1
  · split at q1
    · rename_i z
      cases den_int d1
      exact st_strI z.1 (okP.here q1 w (.str _ z.2))
    · exact q1.elim
  · exact q1.elim
theorem ss_setf {c f : Str} {fs : Fs} {k : D → Tr (Fl W L)} (he : SE g E ε te me) (hk : ∀ d, SS g E (ε.set 0 (.oi c (putD f d fs))) u env envL (k d)) (hi : ε[0]? = some (.oi c fs) := by rfl) :
    SS g E ε (tSeq (sF (gd c g.K) (tVar 0) te f) u) env envL (bd me fun d => if fs.length < 900 then k d else .bad) := fun Mt U0 H0 U Ds σ H b s q => by
  refine st_sF ?_
  refine he.sstep s q fun y d H1 b1 dy s1 q1 => ?_
  by_cases hl : fs.length < 900
  · rw [if_pos hl] at q1
    obtain ⟨o, eo, a, dx, fvs, rfl, ha, df, ua, n1, n2⟩ := s1.rel.at_ 0 _ hi
    refine ⟨.ref a, eo, st_setF ha (by rw [df.length]; omega) fun H2 m2 => ?_⟩
    have kp := m2.keep
    have xt : ExtU U H1 H2 := fun x o e ne _ => kp x o e (fun z => ne (z ▸ ua))
    have il : 0 < ε.length := (List.getElem?_eq_some_iff.mp hi).1
    have ow : ∀ j x, OwnAt σ (ε.set 0 (.oi c (putD f d fs))) j x → OwnAt σ ε j x := fun j x z => by
      obtain ⟨z1, z2⟩ := z
      by_cases q : 0 = j
      · subst q
        exact ⟨z1, .inr ⟨c, fs, hi⟩⟩
      · rw [List.getElem?_set_ne q] at z2
        exact ⟨z1, z2⟩
    have apart : ∀ j x, 0 ≠ j → OwnAt σ ε j x → x ≠ a := fun j x ne z e => by
      subst e
      exact s1.rel.apart 0 j x ne ⟨eo, .inr ⟨c, fs, hi⟩⟩ z
    have hmt := s1.oim 0 c fs a rfl hi eo
    have ev : Ev U H1 U H2 := ⟨xt, fun _ _ _ n _ => n⟩
    refine hk d Mt U0 H0 U Ds σ H2 b1 ⟨⟨by rw [List.length_set]; exact s1.rel.len, fun j x e => ?_, fun j k x ne z1 z2 => s1.rel.apart j k x ne (ow _ _ z1) (ow _ _ z2)⟩, ⟨s1.wd.pen.keep kp n1 n2, tabs_muI m2 ha s1.wd.tabs⟩, ⟨s1.uok.p, s1.uok.c, fun x hx => ?_⟩, s1.sub, fun j x z => s1.own j x (ow _ _ z), fun x o e m1 m2 m3 => ?_, fun j xs x e1 e2 => ?_, fun j c' fs' x j0 e1 e2 => ?_⟩ (q1.mono (fun _ _ z => z.ev ev) (fun _ _ _ z => z))
    · by_cases q : 0 = j
      · subst q
        rw [List.getElem?_set_self il] at e
        cases e
        exact ⟨_, eo, a, dx, _, rfl, m2.at_, (df.put dy).ext xt, ua, n1, n2⟩
      · rw [List.getElem?_set_ne q] at e
        obtain ⟨o, e1, e2⟩ := s1.rel.at_ j x e
        refine ⟨o, e1, ?_⟩
        cases x with
        | no => trivial
        | fz d =>
          obtain ⟨v, e3, e4⟩ := e2
          exact ⟨v, e3, e4.ext xt⟩
        | ow ds2 =>
          obtain ⟨a2, v2, rfl, h2, d2, u2, m1, m2⟩ := e2
          have ne := apart j a2 q ⟨e1, .inl ⟨ds2, e⟩⟩
          exact ⟨a2, v2, rfl, kp _ _ h2 ne, d2.map (fun q => q.ext xt), u2, m1, m2⟩
        | oi c fs =>
          obtain ⟨a2, dx, v2, rfl, h2, d2, u2, m1, m2⟩ := e2
          have ne := apart j a2 q ⟨e1, .inr ⟨c, fs, e⟩⟩
          exact ⟨a2, dx, v2, rfl, kp _ _ h2 ne, d2.ext xt, u2, m1, m2⟩
    · by_cases q : x = a
      · subst q
        exact ⟨_, m2.at_, (fun _ z => by cases z), (fun _ z => by cases z)⟩
      · obtain ⟨o, e, t⟩ := s1.uok.al x hx
        exact ⟨o, kp x o e q, t⟩
    · exact kp x o (s1.ext x o e m1 m2 m3) (fun z => m2 (z ▸ hmt))
    · by_cases q : 0 = j
      · subst q
        rw [List.getElem?_set_self il] at e1
        cases e1
      · rw [List.getElem?_set_ne q] at e1
        exact s1.nu0 j xs x e1 e2
    · by_cases q : 0 = j
      · subst q
        exact s1.oim 0 c fs x rfl hi e2
      · rw [List.getElem?_set_ne q] at e1
        exact s1.oim j c' fs' x j0 e1 e2
  · rw [if_neg hl] at q1
    exact q1.elim
theorem ss_raise1 {c f : Str} (he : SE g E ε te me) : SS g E ε (tSeq (fun _ σ H => tMkO (gd c g.K) (spErr1 (gd c g.K) f) [] (tCons te tNil) σ H (fun cls d H' => E cls d H')) u) env envL (bd me fun d => .ex c [(f, d)]) := fun Mt U0 H0 U Ds σ H b s q => by
  show te σ H _
  refine he.sstep s q fun v d H1 b1 dv s1 q1 => ?_
  refine mk_err1 fun dd H2 sm nd hd => ?_
  have q2 : exS g Mt U0 H0 E c [(f, d)] b1 := q1
  exact q2 dd _ H2 hd (fun z => s1.uok.new nd (s1.sub _ z)) (.cons ((dv.ext (fun a o e _ _ => sm a o e)).sub fun a _ z => s1.sub a z) .nil) (s1.wd.same sm) (s1.ext.trans (fr_same sm))
end
end Gp
end
section
set_option Elab.async false
set_option linter.all false
set_option maxRecDepth 100000
set_option maxHeartbeats 4000000
namespace Gp
open PySem PySem.Spec PyProof.Rows L2 Gh
section
variable {g : Gw} {Mt U0 U U' : Addr → Prop} {H0 H H' H1 H2 : Hp} {b b1 : Nat} {σ : L2.St} {ε ε' : Env} {E : XK} {Q : VK} {W L W' : Type}
variable {env : W → Env} {envL : L → Env} {env' : W' → Env} {u ta tb : TS} {te : TE} {me : Tr D}
theorem se_powK {a c r : Int} (h1 : 0 ≤ c ∧ c ≤ 1000) (h2 : -(2 ^ 60) < a ∧ a < 2 ^ 60) (h3 : a ^ c.toNat = r) : SE g E ε (tOp (rPowK r) (tC (.int a)) (tC (.int c))) (.ok (.int r)) := fun U σ H b Q R W u q =>
  st_powK ⟨h1.1, by omega, by omega⟩ h3 (okP.here q W (.int _))
theorem passA {X : Cx} {E : XK} : Passes CX0 X E := fun _ _ _ _ _ _ _ h => h.elim
theorem PE.or {X : Cx} {e : Expr} {t1 t2 : TE} (a : PE X e t1) (c : PE X e t2) : PE X e (fun σ H Q => t1 σ H Q ∨ t2 σ H Q) := ⟨fun pins s σ H Q I h => h.elim (a.run pins s σ H Q I) (c.run pins s σ H Q I)⟩
theorem spI_len {K : PySem.W.Frag} {T : List (Addr × Str)} {cn : Str} {F : Fs → List D → Tr Fs} {n : Nat} (hn : ∀ fs (P : Fs → Nat → Prop) (X : Str → Fs → Nat → Prop) ds b, Al P X (F fs ds) b → ds.length = n) {vs : List V} (h : spI K T cn F vs H Q E) : vs.length = n + 1 := by
  obtain ⟨p, c, U, ds, b, x, dx, fvs, fs, rest, rfl, hx, df, ux, np, nc, dn, wd, u, al⟩ := h
  rw [List.length_cons, dn.length, hn _ _ _ _ _ al]
theorem lenI3 {F : Fs → D → D → D → Tr Fs} (fs : Fs) (P : Fs → Nat → Prop) (X : Str → Fs → Nat → Prop) (ds : List D) (b : Nat) (h : Al P X (ul3 (F fs) ds) b) : ds.length = 3 := by obtain ⟨_, _, _, rfl, _⟩ := al_ul3 h; rfl
section
variable {K : PySem.W.Frag} {T : List (Addr × Str)} {N : List Str} {cn : Str} {vs : List V} {t : TS} {envI : Fs → Env}
theorem ini_of3 {F : Fs → D → D → D → Tr Fs} {m : Fs → D → D → D → Tr (Fl Fs Empty)} (h : spI K T cn (fun fs => ul3 (F fs)) vs H Q E) (hF : ∀ fs x y z, F fs x y z = finI (m fs x y z)) (hs : ∀ p c fs x y z, SS ⟨K, T, p, c⟩ E (.oi cn fs :: ([x, y, z].map Sl.fz ++ List.replicate (N.length - (3 + 1)) Sl.no)) t envI envE (m fs x y z)) (he : ∀ fs, (envI fs)[0]? = some (.oi cn fs) := by intro _; rfl) : t { nx := fun _ H' => Q .non H', rt := Q } (L2.start N vs) H :=
  ini_of h (fun p c fs ds ⟨_, _, _, al⟩ => by
    obtain ⟨x, y, z, rfl, _⟩ := al_ul3 al
    exact ⟨m fs x y z, hF fs x y z, hs p c fs x y z⟩) he
end
def spLaw (K : PySem.W.Frag) (T : List (Addr × Str)) : Sp := fun vs H Q _ => ∃ (a : Addr) (ns : List Int), vs = [.ref a] ∧ SqL K H a (ns.map V.int) ∧ ns.length ≤ 63 ∧ LamX.Tabs T H ∧ ∀ H', Q (.bl true) H'
theorem spLaw_len {K : PySem.W.Frag} {T : List (Addr × Str)} {vs : List V} (h : spLaw K T vs H Q E) : vs.length = 1 := by
  obtain ⟨a, ns, rfl, _⟩ := h
  rfl
theorem law_of {K : PySem.W.Frag} {T : List (Addr × Str)} {N : List Str} {i n : Nat} {F : Tr D} {m : Tr (Fl Unit Empty)} {vs : List V} {t : TS} {envU : Unit → Env} (yes : Yes F) (h : spLaw K T vs H Q E) (hN : N.length = n + 1) (hi : i < n + 1) (h0 : i ≠ 0) (hF : F = fin m)
    (hs : ∀ p c, SS ⟨K, T, p, c⟩ EF ((List.replicate (n + 1) Sl.no).set i (.fz .pen)) t envU envE m) : tSeq (tAsg (tCl (rSp (spPn K) [] E) (tCons (tVar 0) tNil)) (gName i)) t { nx := fun _ H' => Q .non H', rt := Q } (L2.start N vs) H := by
  obtain ⟨a, ns, rfl, hS, hl, hT, q⟩ := h
  have st0 : L2.start N [V.ref a] = some (.ref a) :: List.replicate n none := by
    unfold L2.start
    rw [List.length_singleton, hN]
    rfl
  rw [st0]
  refine ⟨.ref a, rfl, ?_⟩
  refine ⟨a, ns, rfl, hS, hl, fun p c H1 np pn s => ?_⟩
  obtain ⟨ns', i', z', h1, h2, _⟩ := id pn
  have wd : Wd ⟨K, T, p, c⟩ H1 1000000 := ⟨pn, hT.ext s⟩
  have u : UOk ⟨K, T, p, c⟩ (fun x => x = p ∨ x = c) H1 := ⟨.inl rfl, .inr rfl, fun x hx => by
    rcases hx with rfl | rfl
    · exact ⟨_, h1, (fun _ z => by cases z), (fun _ z => by cases z)⟩
    · exact ⟨_, h2, (fun _ z => by cases z), (fun _ z => by cases z)⟩⟩
  have own : ∀ j x, ¬ OwnAt ((some (V.ref a) :: List.replicate n none).set i (some (.ref p))) ((List.replicate (n + 1) Sl.no).set i (.fz .pen)) j x := fun j x z => by
    obtain ⟨_, z2⟩ := ownAt_set z
    rcases z2.2 with ⟨ds, e⟩ | ⟨c, fs, e⟩
    · cases (List.mem_replicate.mp (List.mem_of_getElem? e)).2
    · cases (List.mem_replicate.mp (List.mem_of_getElem? e)).2
  have rl0 : Rel ⟨K, T, p, c⟩ (fun x => x = p ∨ x = c) H1 (some (V.ref a) :: List.replicate n none) (List.replicate (n + 1) Sl.no) := by
    refine ⟨by rw [List.length_cons, List.length_replicate, List.length_replicate], fun j s e => ?_, fun j k x ne z1 z2 => ?_⟩
    · have hj := (List.getElem?_eq_some_iff.mp e).1
      rw [List.length_replicate] at hj
      obtain ⟨_, rfl⟩ := List.mem_replicate.mp (List.mem_of_getElem? e)
      have hl2 : j < (some (V.ref a) :: List.replicate n (none : Option V)).length := by rw [List.length_cons, List.length_replicate]; exact hj
      exact ⟨_, List.getElem?_eq_getElem hl2, trivial⟩
    · rcases z1.2 with ⟨ds, e⟩ | ⟨c, fs, e⟩
      · cases (List.mem_replicate.mp (List.mem_of_getElem? e)).2
      · cases (List.mem_replicate.mp (List.mem_of_getElem? e)).2
  have rl := rl0.set i (v := .ref p) (d := .pen) .pen
  have yes' : Al (fun d _ => d = .bl true) (fun _ _ _ => False) (fin m) 1000000 := hF ▸ yes
  refine hs p c (fun _ => False) (fun x => x = p ∨ x = c) H1 (fun x => x = p ∨ x = c) _ _ H1 1000000 ⟨rl, wd, u, fun _ z => z, fun j x z => (own j x z).elim, fun _ _ z _ _ _ => z, fun j ds x z1 z2 => (own j x ⟨z2, .inl ⟨ds, z1⟩⟩).elim, fun j cc fs x _ z1 z2 => (own j x ⟨z2, .inr ⟨cc, fs, z1⟩⟩).elim⟩ ((al_bd.mp yes').mono (fun f b h => ?_) (fun _ _ _ z => z.elim))
  cases f with
  | nx w => cases (show D.non = .bl true from h)
  | rt d =>
    have h' : d = .bl true := h
    subst h'
    intro v H2 dn _ _
    cases dn
    exact q H2
  | bk e => exact nomatch e
  | ct e => exact nomatch e
def binO (c : Str) (F : List D → Tr D) (x y : D) : Tr D := isO c x fun _ => isO c y fun _ => F [x, y]
theorem sr_bin {c : Str} {r : List V → Hp → VK → Prop} {F : List D → Tr D} (hr : SRL g E r F) : SR2 g E (rBin (gd c g.K) r) (binO c F) := fun U H b x y dx dy Q d1 d2 w u q => by
  obtain ⟨fs, rfl, q1⟩ := al_isO q
  obtain ⟨gs, rfl, q2⟩ := al_isO q1
  obtain ⟨a, da, fa, rfl, ea, _, _⟩ := den_obj d1
  obtain ⟨a2, da2, fa2, rfl, ea2, _, _⟩ := den_obj d2
  unfold rBin
  exact ⟨a, da, fa, a2, da2, fa2, rfl, rfl, ea, ea2, hr U H b _ _ Q (.cons d1 (.cons d2 .nil)) w u q2⟩
def binOI (c : Str) (F : List D → Tr D) (x y : D) : Tr D := isO c x fun _ => match y with
  | .int i => F [x, .int i]
  | _ => .bad
theorem sr_binI {c : Str} {r : List V → Hp → VK → Prop} {F : List D → Tr D} (hr : SRL g E r F) : SR2 g E (rBinI (gd c g.K) r) (binOI c F) := fun U H b x y dx dy Q d1 d2 w u q => by
  obtain ⟨fs, rfl, q1⟩ := al_isO q
  obtain ⟨a, da, fa, rfl, ea, _, _⟩ := den_obj d1
  cases dy with
  | int i =>
    cases den_int d2
    unfold rBinI
    exact ⟨a, da, fa, i, rfl, rfl, ea, hr U H b _ _ Q (.cons d1 (.cons d2 .nil)) w u q1⟩
  | _ => exact q1.elim
def EqR (g : Gw) (c : Str) (f : D → Bool) : Prop := ∀ U H v d, Den g U H v d → f d = true → ∃ tb, TyX g.K H v tb ∧ PySem.W.notFirst g.K (gd c g.K) tb = true
theorem sr_eqO {c : Str} {f : D → Bool} {r : List V → Hp → VK → Prop} {F : List D → Tr D} (hf : EqR g c f) (hr : SRL g E r F) : SR2 g E (rEqO g.K (gd c g.K) r) (eqO c f F) := fun U H b x y dx dy Q d1 d2 w u q => by
  obtain ⟨fs, rfl, q1⟩ := al_isO q
  obtain ⟨a, da, fa, rfl, ea, _, _⟩ := den_obj d1
  by_cases h : f dy = true
  · rw [if_pos h] at q1
    obtain ⟨tb, h1, h2⟩ := hf U H y dy d2 h
    exact st_eqO ea h1 h2 (hr U H b _ _ Q (.cons d1 (.cons d2 .nil)) w u q1)
  · rw [if_neg h] at q1
    exact q1.elim
def neO (c : Str) (f : D → Bool) (F : List D → Tr D) (x y : D) : Tr D := isO c x fun _ => if f y = true then bd (bd (F [x, y]) asB) fun k => .ok (.bl (!k)) else .bad
theorem sr_neO {c : Str} {f : D → Bool} {F : List D → Tr D} (hf : EqR g c f) : SR2 g E (rNeO g.K (gd c g.K) (spF g.K g.T F) E) (neO c f F) := fun U H b x y dx dy Q d1 d2 w u q => by
  obtain ⟨fs, rfl, q1⟩ := al_isO q
  obtain ⟨a, da, fa, rfl, ea, _, _⟩ := den_obj d1
  by_cases h : f dy = true
  · rw [if_pos h, bd_bd] at q1
    obtain ⟨tb, h1, h2⟩ := hf U H y dy d2 h
    refine st_neO ea h1 h2 ⟨g.p, g.c, U, _, b, .cons d1 (.cons d2 .nil), w, u, (al_bd.mp q1).mono (fun d b1 h1 v H1 dv w1 f1 => ?_) (fun _ _ _ z => z)⟩
    obtain ⟨k, rfl, q2⟩ := al_asBk h1
    exact ⟨k, den_bl dv, q2 _ H1 (.bl _) w1 f1⟩
  · rw [if_neg h] at q1
    exact q1.elim
def asS (d : D) : Tr D := match d with
  | .str x => .ok (.str x)
  | _ => .bad
def strO (c : Str) (F : List D → Tr D) (x : D) : Tr D := isO c x fun _ => bd (F [x]) asS
theorem srl_strO {c : Str} {F : List D → Tr D} : SRL g E (rStrO (gd c g.K) (spF g.K g.T F) E) (ul1 (strO c F)) := fun U H b xs dxs Q dn w u q => by
  obtain ⟨x, rfl, q1⟩ := al_ul1 q
  obtain ⟨v, rfl, d1⟩ := denL_1 dn
  obtain ⟨fs, rfl, q2⟩ := al_isO q1
  obtain ⟨a, da, fa, rfl, ea, _, _⟩ := den_obj d1
  refine st_strO ea ⟨g.p, g.c, U, _, b, .cons d1 .nil, w, u, (al_bd.mp q2).mono (fun d b1 h1 v H1 dv w1 f1 => ?_) (fun _ _ _ z => z)⟩
  cases d with
  | str z =>
    obtain ⟨rfl, l⟩ := den_str dv
    exact ⟨z, rfl, h1 _ H1 dv w1 f1⟩
  | _ => exact h1.elim
theorem se_sm {C : Addr} {r : List V → Hp → VK → Prop} {f : List D → Tr D} {t : TA} {m : Tr (List D)} (hr : SRL g E r f) (ha : SA g E ε t m) : SE g E ε (tSm C r (tC (.ref C)) t) (bd m f) := fun U σ H b Q R W u q =>
  ⟨rfl, ha.step R W u q fun v d H1 b1 d1 w1 f1 R1 u1 q1 => hr U H1 b1 v d Q d1 w1 u1 (q1.mono (fun _ _ h => h.fr f1) (fun _ _ _ h => h))⟩
end
end Gp
namespace Gp
open PySem PySem.Spec PyProof.Rows L2 Gh
section
variable {g : Gw}
def eqF0 (cs : List Str) (d : D) : Bool := match d with
  | .obj c _ => cs.contains c
  | d => (kdN d).isSome
theorem eqR_of {c : Str} {cs : List Str} (h1 : ∀ n ∈ (["NoneType", "bool", "int", "str", "list", "tuple", "dict"] : List String), PySem.W.notFirst g.K (gd c g.K) (.type n) = true) (h2 : ∀ c' ∈ cs, Cls g.K (gd c' g.K) ∧ InsT g.K (gd c' g.K) ∧ PySem.W.notFirst g.K (gd c g.K) (.ref (gd c' g.K)) = true) : EqR g c (eqF0 cs) := fun U H v d dn e => by
  have base : ∀ d, Den g U H v d → (kdN d).isSome = true → ∃ tb, TyX g.K H v tb ∧ PySem.W.notFirst g.K (gd c g.K) tb = true := fun d dn e => by
    cases q : kdN d with
    | none => rw [q] at e; cases e
    | some n =>
      refine ⟨_, kd_ty dn q, h1 n ?_⟩
      cases d <;> cases q <;> decide
  cases d with
  | obj c' fs =>
    obtain ⟨a, dx, fvs, rfl, ea, _, _⟩ := den_obj dn
    obtain ⟨z1, z2, z3⟩ := h2 c' (by simpa [eqF0] using e)
    exact ⟨_, z2.ty z1 ea, z3⟩
  | err c fs => exact base _ dn e
  | non => exact base _ dn e
  | bl b => exact base _ dn e
  | int i => exact base _ dn e
  | str x => exact base _ dn e
  | lst ds => exact base _ dn e
  | tup ds => exact base _ dn e
  | pen => exact base _ dn e
  | cls c => exact base _ dn e
  | dct => exact base _ dn e
  | dic ps => exact base _ dn e
  | dit ps => exact base _ dn e
  | dik ps => exact base _ dn e
end
end Gp
namespace Gp
open PySem PySem.Spec PyProof.Rows L2 Gh
theorem fnOk_weak {P : Program} {w : World} {K : PySem.W.Frag} {mg : Str → Option Value} {base : Heap} {CX : CXT} {k : Nat} {f : Addr} {fd : FuncData} {ps : List Str} {sp sp' : Sp} (F : FnOk P w K mg base CX k f fd ps sp) (h : ∀ vs H Q E, sp' vs H Q E → sp vs H Q E) : FnOk P w K mg base CX k f fd ps sp' :=
  ⟨fun vs H Q E z => F.len vs H Q E (h _ _ _ _ z), fun A o s H a us vs Q E hr e0 hb r z => F.run A o s H a us vs Q E hr e0 hb r (h _ _ _ _ z)⟩
def F_draw (x y : D) : Tr D := match x, y with
  | .pen, .int m => .draw m fun d => .ok (.int d)
  | _, _ => .bad
theorem draw_of {K : PySem.W.Frag} {T : List (Addr × Str)} {vs : List V} {H : Hp} {Q : VK} {E : XK} (h : spF K T (ul2 F_draw) vs H Q E) : spDr vs H Q E := by
  obtain ⟨p, c, U, ds, b, dn, wd, u, al⟩ := h
  obtain ⟨x, y, rfl, al2⟩ := al_ul2 al
  obtain ⟨v, w, rfl, d1, d2⟩ := denL_2 dn
  unfold F_draw at al2
  split at al2
  · rename_i m
    cases d1
    cases d2
    obtain ⟨b', rfl, h0, h1, h2⟩ := al2
    refine ⟨p, c, b', m, rfl, h0, log_of h0 h1, wd.pen, fun d H' d0 d1 pn k => ?_⟩
    exact h2 d d0 d1 (.int d) H' (.int d) ⟨pn, tabs_keepP k wd.pen wd.tabs⟩ (keep_fr k)
  · exact al2.elim
end Gp
end
section
set_option Elab.async false
set_option linter.all false
set_option maxRecDepth 100000
set_option maxHeartbeats 4000000
namespace Gp
open PySem PySem.Spec PyProof.Rows L2 Gh
def blsD : List D → Option (List Bool)
  | [] => some []
  | .bl i :: r => (blsD r).map (i :: ·)
  | _ => none
def strsD : List D → Option (List Str)
  | [] => some []
  | .str i :: r => (strsD r).map (i :: ·)
  | _ => none
theorem blsD_map (ns : List Bool) : blsD (ns.map D.bl) = some ns := by
  induction ns with
  | nil => rfl
  | cons n r ih => show (blsD (r.map D.bl)).map (n :: ·) = _; rw [ih]; rfl
section
variable {g : Gw} {U : Addr → Prop} {H : Hp} {b : Nat} {E : XK} {Q : VK} {ε : Env} {te : TE} {me : Tr D}
theorem bls_den : ∀ {vs : List V} {ds : List D} {ns : List Bool}, DenL g U H vs ds → blsD ds = some ns → vs = ns.map V.bl
  | _, _, _, .nil, h => by cases h; rfl
  | _, d :: ds, ns, .cons a r, h => by
    cases d with
    | bl i =>
      cases q : blsD ds with
      | none => unfold blsD at h; rw [q] at h; cases h
      | some z =>
        unfold blsD at h
        rw [q] at h
        cases h
        rw [den_bl a, bls_den r q]
        rfl
    | _ => cases h
theorem strs_den : ∀ {vs : List V} {ds : List D} {ns : List Str}, DenL g U H vs ds → strsD ds = some ns → vs = ns.map V.str
  | _, _, _, .nil, h => by cases h; rfl
  | _, d :: ds, ns, .cons a r, h => by
    cases d with
    | str i =>
      cases q : strsD ds with
      | none => unfold strsD at h; rw [q] at h; cases h
      | some z =>
        unfold strsD at h
        rw [q] at h
        cases h
        rw [(den_str a).1, strs_den r q]
        rfl
    | _ => cases h
def lsB (x : D) (k : List Bool → Tr D) : Tr D := match x with
  | .lst ds => match blsD ds with
    | some ns => k ns
    | none => .bad
  | _ => .bad
def allD (x : D) : Tr D := lsB x fun ns => .ok (.bl (ns.all id))
theorem cr_allK {X : Cx} {K : PySem.W.Frag} (h : X.K = K) (hc : X.calm = true) : CallR X (.builtin "all") (rAll K) := h ▸ cr_all hc
theorem al_lsB {P : D → Nat → Prop} {X : Str → Fs → Nat → Prop} {x : D} {k : List Bool → Tr D} {v : V} (dn : Den g U H v x) (h : Al P X (lsB x k) b) : ∃ a ns, v = .ref a ∧ SqL g.K H a (ns.map V.bl) ∧ Al P X (k ns) b := by
  unfold lsB at h
  split at h
  · split at h
    · rename_i ns e
      obtain ⟨a, vs, rfl, hh, _, l, kk⟩ := den_lst dn
      have e2 := bls_den kk e
      subst e2
      exact ⟨a, ns, rfl, SqL.of hh, h⟩
    · exact h.elim
  · exact h.elim
theorem srl_all : SRL g E (rAll g.K) (ul1 allD) := fun U H b xs dxs Q dn w u q => by
  obtain ⟨x, rfl, q1⟩ := al_ul1 q
  obtain ⟨v, rfl, d1⟩ := denL_1 dn
  obtain ⟨a, ns, rfl, h1, q2⟩ := al_lsB d1 q1
  exact ⟨a, ns, rfl, h1, okP.here q2 w (.bl _)⟩
end
end Gp
end
section
set_option Elab.async false
set_option linter.all false
set_option maxRecDepth 100000
set_option maxHeartbeats 4000000
namespace Gp
open PySem PySem.Spec PyProof.Rows L2 Gh
def tryT {α β : Type} : Tr α → (α → Tr β) → (Str → Fs → Tr β) → Tr β
  | .ok a, k, _ => k a
  | .ex c fs, _, x => x c fs
  | .bad, _, _ => .bad
  | .draw m f, k, x => .draw m fun d => tryT (f d) k x
theorem al_try {α β : Type} {P : β → Nat → Prop} {E : Str → Fs → Nat → Prop} {m : Tr α} {k : α → Tr β} {x : Str → Fs → Tr β} {b : Nat} : Al P E (tryT m k x) b ↔ Al (fun a b1 => Al P E (k a) b1) (fun c fs b1 => Al P E (x c fs) b1) m b := by
  induction m generalizing b with
  | draw m f ih =>
    constructor
    · rintro ⟨b', e, h1, h2, h3⟩
      exact ⟨b', e, h1, h2, fun d d0 d1 => (ih d).mp (h3 d d0 d1)⟩
    · rintro ⟨b', e, h1, h2, h3⟩
      exact ⟨b', e, h1, h2, fun d d0 d1 => (ih d).mpr (h3 d d0 d1)⟩
  | _ => exact Iff.rfl
def THd (K : PySem.W.Frag) (T : List (Addr × Str)) (FH : Tr D → Tr D) : (XK → Hp → VK → Prop) → Hp → VK → Prop := fun tl H Q => ∃ p c U b m, Wd ⟨K, T, p, c⟩ H b ∧ UOk ⟨K, T, p, c⟩ U H ∧
  (∀ (E : XK) H' b' Q', Fr H H' p → Wd ⟨K, T, p, c⟩ H' b' → Al (okP ⟨K, T, p, c⟩ U H' Q') (exP ⟨K, T, p, c⟩ U E H') m b' → tl E H' Q') ∧ Al (okP ⟨K, T, p, c⟩ U H Q) (fun _ _ _ => False) (FH m) b
section
variable {g : Gw} {Mt U0 U U' : Addr → Prop} {H0 H H' H1 H2 : Hp} {b b1 : Nat} {σ : L2.St} {ε ε' : Env} {E : XK} {W L W' : Type}
variable {env : W → Env} {envL : L → Env} {env' : W' → Env} {u ta tb : TS} {te : TE} {me : Tr D}
theorem UOk.extN (u : UOk g U H) (n : LamX.ExtN H H') : UOk g U H' := ⟨u.p, u.c, fun a ha => by
  obtain ⟨o, h, z⟩ := u.al a ha
  exact ⟨o, n a o h z.tbl, z⟩⟩
theorem se_lam {FH : Tr D → Tr D} {t : XK → TE} {m : Tr D} (h : ∀ E, SE g E ε (t E) m) : SE g E ε (LamX.tLam g.T (THd g.K g.T FH) t) (nox (FH m)) := fun U σ H b Q R W u q => by
  refine ⟨W.tabs, fun H1 n t1 => ⟨g.p, g.c, U, b, m, ⟨W.pen.extN n, t1⟩, u.extN n, fun E H' b' Q' f w' a' => ?_, ?_⟩⟩
  · have f1 : Fr H H' g.p := (ext_fr n).trans f
    exact h E U σ H' b' Q' (R.fr u f1) w' (u.fr f1 w') a'
  · exact Al.mono (fun _ _ z => okP.fr (ext_fr n) z) (fun _ _ _ z => z) (al_nox (E' := fun _ _ _ => False) q)
theorem rel_err {n i j : Nat} {a dd : Addr} {cl : Str} {fvs : List (Str × V)} {fs : Fs} (hl : σ.length = n) (hi : i < n) (hj : j < n) (hij : i ≠ j) (ha : H a = some (exk a (gd cl g.K) dd)) (na : ¬ U a) (hd : H dd = some (.xd fvs)) (nd : ¬ U dd) (df : DenF g U H fvs fs) :
    Rel g U H (((σ.set i (some (.ref a))).set j (some (.ref a))).set i none) ((List.replicate n Sl.no).set j (.fz (.err cl fs))) := by
  have no : ∀ k x, ¬ OwnAt (((σ.set i (some (.ref a))).set j (some (.ref a))).set i none) ((List.replicate n Sl.no).set j (.fz (.err cl fs))) k x := fun k x ⟨_, z⟩ => by
    have : ∀ s : Sl, ((List.replicate n Sl.no).set j (.fz (.err cl fs)))[k]? = some s → (∃ d, s = .fz d) ∨ s = .no := fun s e => by
      have m := List.mem_of_getElem? e
      rcases List.mem_or_eq_of_mem_set m with m | m
      · exact .inr (List.mem_replicate.mp m).2
      · exact .inl ⟨_, m⟩
    rcases z with ⟨x, z⟩ | ⟨x, y, z⟩
    · rcases this _ z with ⟨d, e⟩ | e <;> cases e
    · rcases this _ z with ⟨d, e⟩ | e <;> cases e
  refine ⟨by simp only [List.length_set, List.length_replicate]; exact hl, fun k s e => ?_, fun _ _ x _ h1 _ => (no _ x h1).elim⟩
  by_cases q : j = k
  · subst q
    rw [List.getElem?_set_self (by rw [List.length_replicate]; exact hj)] at e
    cases e
    refine ⟨some (.ref a), ?_, _, rfl, .err ha na hd nd df⟩
    rw [List.getElem?_set_ne hij, List.getElem?_set_self (by rw [List.length_set, hl]; exact hj)]
  · rw [List.getElem?_set_ne q, List.getElem?_replicate] at e
    split at e
    · rename_i hk
      cases e
      refine ⟨_, List.getElem?_eq_getElem (by simp only [List.length_set]; rw [hl]; exact hk), trivial⟩
    · cases e
theorem fin_al {P : D → Nat → Prop} {X : Str → Fs → Nat → Prop} {m : Tr (Fl Unit Empty)} (h : Al P X (fin m) b) : Al (fun f b => match f with | .nx _ => P .non b | .rt d => P d b | .bk e => nomatch e | .ct e => nomatch e) X m b := by
  refine (al_bd.mp h).mono (fun f b h => ?_) (fun _ _ _ h => h)
  cases f with
  | nx w => exact h
  | rt d => exact h
  | bk e => exact nomatch e
  | ct e => exact nomatch e
theorem run_rest {t : TS} {envU : Unit → Env} {m : Tr (Fl Unit Empty)} {Q : VK} (ss : SS g EF ε t envU envE m) (R : Rel g U H1 σ ε) (no : ∀ i a, ¬ OwnAt σ ε i a) (w : Wd g H1 b) (u : UOk g U H1) (f : Fr H H1 g.p) (al : Al (okP g U H Q) (fun _ _ _ => False) (fin m) b) :
    t { nx := fun _ H' => Q .non H', rt := Q } σ H1 := by
  refine ss (fun _ => False) U H U _ _ H1 b ⟨R, w, u, fun _ z => z, fun i a z => (no i a z).elim, fun a o z1 z2 _ z3 => f a o z1 z2 z3, fun i ds' a z1 z2 => (no i a ⟨z2, .inl ⟨ds', z1⟩⟩).elim, fun i c fs a _ z1 z2 => (no i a ⟨z2, .inr ⟨c, fs, z1⟩⟩).elim⟩ ((fin_al al).mono (fun f b1 h1 => ?_) (fun c fs b1 h1 => h1.elim))
  cases f with
  | nx w => exact fun U' σ' H' e s => h1 .non H' .non s.wd fun a o z1 z2 z3 => s.ext a o z1 z2 (fun z => z) z3
  | rt d => exact fun v H' dn w f => h1 v H' dn w fun a o z1 z2 z3 => f a o z1 z2 (fun z => z) z3
  | bk e => exact nomatch e
  | ct e => exact nomatch e
theorem no_err {n j : Nat} {d : D} : ∀ i a, ¬ OwnAt σ ((List.replicate n Sl.no).set j (.fz d)) i a := fun k x ⟨_, z⟩ => by
  have : ∀ s : Sl, ((List.replicate n Sl.no).set j (.fz d))[k]? = some s → (∃ d, s = .fz d) ∨ s = .no := fun s e => by
    have m := List.mem_of_getElem? e
    rcases List.mem_or_eq_of_mem_set m with m | m
    · exact .inr (List.mem_replicate.mp m).2
    · exact .inl ⟨_, m⟩
  rcases z with ⟨x, z⟩ | ⟨x, y, z⟩
  · rcases this _ z with ⟨d, e⟩ | e <;> cases e
  · rcases this _ z with ⟨d, e⟩ | e <;> cases e
def ExH (g : Gw) (U : Addr → Prop) (H : Hp) (Q : VK) (x : Str → Fs → Tr D) : XK := fun cls d H' => ∃ cl fs b1 dd fvs, cls = .ref (gd cl g.K) ∧ d = some dd ∧ H' dd = some (.xd fvs) ∧ ¬ U dd ∧ DenF g U H' fvs fs ∧ Wd g H' b1 ∧ Fr H H' g.p ∧ Al (okP g U H Q) (fun _ _ _ => False) (x cl fs) b1
theorem clause {n i j : Nat} {trest : TS} {mrest : D → Tr (Fl Unit Empty)} {envU : Unit → Env} {xh : Str → Bool} {HE : Addr} {Wout : WX} {Q : VK} (hi : i < n) (hj : j < n) (hij : i ≠ j)
    (hx : ∀ cl, xh cl = true → PySem.W.exmOne g.K (.ref (gd cl g.K)) (.ref HE) = some true)
    (hs : ∀ cl fs, SS g EF ((List.replicate n Sl.no).set j (.fz (.err cl fs))) trest envU envE (mrest (.err cl fs))) (u : UOk g U H) :
    ∀ cls d σ' H', ExH g U H Q (fun cl fs => if xh cl = true then nox (fin (mrest (.err cl fs))) else .bad) cls d H' → σ'.length = n → wAsK g.K (.ref HE) i (fun a cls d => tAsg (tVar i) (gName j)) Wout { nx := trest { nx := fun _ H' => Q .non H', rt := Q }, rt := Q } cls d σ' H' := by
  rintro cls d σ' H' ⟨cl, fs, b1, dd, fvs, rfl, rfl, hd, nd, df, wd, f, al⟩ hl
  dsimp only at al
  by_cases hxc : xh cl = true
  · rw [if_pos hxc] at al
    refine ⟨true, hx cl hxc, fun _ => ⟨_, dd, rfl, rfl, fun a na => ?_⟩, fun z => by cases z⟩
    refine ⟨.ref a, List.getElem?_set_self (by rw [hl]; exact hi), fun na' => ?_⟩
    have s1 : L2.Same H' (upd H' a (exk a (gd cl g.K) dd)) := same_new na
    have u' := u.fr f wd
    have nU : ¬ U a := u'.new na
    exact run_rest (hs cl fs) (rel_err hl hi hj hij upd_same nU (s1 _ _ hd) nd (df.ext (u'.extU (fr_same s1)))) no_err (wd.same s1) (u'.fr (fr_same s1) (wd.same s1)) (f.trans (fr_same s1)) (al_nox al)
  · rw [if_neg hxc] at al
    exact al.elim
theorem heardA {N : List Str} {f : Addr} {m : Tr D} {n i j : Nat} {trest : TS} {mrest : D → Tr (Fl Unit Empty)} {envU : Unit → Env} {xh : Str → Bool} {HE : Addr} {Wout : WX} {Q : VK} {tR : XK → TE} {kR : D → Tr D} (hn : (L2.start N [V.ref f]).length = n) (hi : i < n) (hj : j < n) (hij : i ≠ j) (hj0 : j ≠ 0)
    (hx : ∀ cl, xh cl = true → PySem.W.exmOne g.K (.ref (gd cl g.K)) (.ref HE) = some true)
    (hs : ∀ cl fs, SS g EF ((List.replicate n Sl.no).set j (.fz (.err cl fs))) trest envU envE (mrest (.err cl fs)))
    (hR : ∀ (E : XK) (σ : L2.St) H' b' Q', σ[0]? = some (some (.ref f)) → Fr H H' g.p → Wd g H' b' → UOk g U H' → Al (okP g U H' Q') (exP g U E H') (bd m kR) b' → tR E σ H' Q')
    (wd : Wd g H b) (u : UOk g U H) (al : Al (okP g U H Q) (fun _ _ _ => False) (tryT (bd m kR) .ok (fun cl fs => if xh cl = true then nox (fin (mrest (.err cl fs))) else .bad)) b) :
    tSeq (tAsg (tC .non) (gName j)) (tSeq (fun D σ H => tTry n (fun E => tRet (tR E)) (wAsK g.K (.ref HE) i (fun a cls d => tAsg (tVar i) (gName j)) Wout D) D σ H) trest) { nx := fun _ H' => Q .non H', rt := Q } (L2.start N [.ref f]) H := by
  refine ⟨ExH g U H Q (fun cl fs => if xh cl = true then nox (fin (mrest (.err cl fs))) else .bad), clause hi hj hij hx hs u, ?_⟩
  refine hR _ _ H b Q ?_ Fr.refl wd u ((al_try.mp al).mono (fun d b1 h => h) (fun cl fs b1 h dd fvs H' e1 e2 e3 e4 e5 => ⟨cl, fs, b1, dd, fvs, rfl, rfl, e1, e2, e3, e4, e5, h⟩))
  rw [List.getElem?_set_ne hj0]
  rfl
theorem act_tup {f c' : Addr} {q : Str} {tl : XK → Hp → VK → Prop} {m : Tr D} {x : Str} (hx : x.length ≤ sizeLine) (hc : H c' = some (LamX.CodeO c' q)) (cp : c' ≠ g.p)
    (ha : ∀ (E : XK) H' b' Q', Fr H H' g.p → Wd g H' b' → Al (okP g U H' Q') (exP g U E H') m b' → tl E H' Q') :
    ∀ (E : XK) (σ : L2.St) H' b' Q', σ[0]? = some (some (.ref f)) → Fr H H' g.p → Wd g H' b' → UOk g U H' → Al (okP g U H' Q') (exP g U E H') (bd m fun d => .ok (.tup [.str x, d])) b' → tTup (tCons (tC (.str x)) (tCons (tAct f c' q (tl E)) tNil)) σ H' Q' :=
  fun E σ H' b' Q' e fr wd u al => ⟨e, fr _ _ hc cp (fun _ z => LamX.codeO_ne _ z), ha E H' b' _ fr wd ((al_bd.mp al).mono (fun d b1 h v H1 dn w1 f1 => ⟨by show 2 ≤ sizeLine; decide, fun p np => (by
    have s := same_new (o := .tup [.str x, v]) np
    have u1 := u.fr f1 w1
    exact h _ _ (.tup upd_same (u1.new np) (by show 2 ≤ sizeLine; decide) (.cons (.str x hx) (.cons (dn.ext (u1.extU (fr_same s))) .nil))) (w1.same s) (f1.trans (fr_same s)))⟩) (fun _ _ _ h => h))⟩
theorem code_np {p c c' : Addr} {K : PySem.W.Frag} {T : List (Addr × Str)} {q : Str} (w : Wd ⟨K, T, p, c⟩ H b) (hc : H c' = some (LamX.CodeO c' q)) : c' ≠ p := fun z => by
  obtain ⟨ns, i, y, h1, _⟩ := w.pen
  subst z
  rw [hc] at h1
  unfold LamX.CodeO at h1
  cases h1
def xaD (tab : List Str) (f : Str) (o : D) : Tr D := match o with
  | .err c fs => if c ∈ tab then (match fs.lookup f with | some d => .ok d | none => .bad) else .bad
  | _ => .bad
theorem se_xa {tab : List Str} {f : Str} (hT : ∀ c ∈ tab, ErrT g.K (gd c g.K) ∧ PySem.W.findIn g.K (.ref (gd c g.K)) f = some none) (he : SE g E ε te me) : SE g E ε (tXa g.K f te) (bd me (xaD tab f)) := fun U σ H b Q R W u q =>
  he.step R W u q fun v d H1 b1 d1 w1 f1 R1 u1 q1 => by
    cases d1 with
    | err ha na hd nd df =>
      rename_i a dd c fvs fs
      change Al _ _ (if c ∈ tab then (match fs.lookup f with | some d => .ok d | none => .bad) else .bad) b1 at q1
      split at q1
      · rename_i hm
        cases e : fs.lookup f with
        | none => rw [e] at q1; exact q1.elim
        | some d =>
          rw [e] at q1
          obtain ⟨v, hv, d2⟩ := df.look e
          exact ⟨a, _, dd, fvs, v, rfl, ha, (hT c hm).1, (hT c hm).2, hd, hv, q1 _ _ d2 w1 f1⟩
      · exact q1.elim
    | _ => exact q1.elim
end
end Gp
end
section
set_option Elab.async false
set_option linter.all false
set_option maxRecDepth 100000
set_option maxHeartbeats 4000000
namespace Gp
open PySem PySem.Spec PyProof.Rows L2 Gh
section
variable {g : Gw} {Mt U0 U U' : Addr → Prop} {H0 H H' H1 H2 : Hp} {b b1 b2 : Nat} {σ : L2.St} {ε ε' : Env} {E : XK} {W L W' : Type}
variable {env : W → Env} {envL : L → Env} {env' : W' → Env} {u ta tb : TS} {te : TE} {me : Tr D}
end
section
variable {K : PySem.W.Frag} {x qual file : Str} {params : Arguments} {body : List Stmt} {scope : Scope} {dvs : List V} {f B : Addr} {fd : FuncData} {ps : List Str}
theorem SupF.bindsN (F : SupF K x qual params body scope [] f B file fd)
    (h : ∀ (cl : List (Str × Addr)) (kV doc pm : Value) (an : Option Addr) (cdv ct : Value) (us : List Value), us.length = ps.length → bindArgs (PySem.W.fnX x qual params body scope cl .none kV doc pm an cdv ct) ⟨us, []⟩ = pure (ps.zip us)) : Binds K fd ps [] := by
  obtain ⟨oc, od, dV, kV, doc, pm, an, cda, ct, osl, cc, rfl, lk, hcd, hD, _⟩ := F.ex
  rcases hD with ⟨_, rfl⟩ | ⟨e, _⟩
  · exact .all (h _ kV doc pm an _ ct)
  · exact absurd rfl e
theorem SupF.binds1 (F : SupF K x qual params body scope dvs f B file fd) (n j : Nat) (hd : dvs ≠ []) (hn : n + (dvs.length - j) = ps.length)
    (h : ∀ (cl : List (Str × Addr)) (T : Addr) (kV doc pm : Value) (an : Option Addr) (cdv ct : Value) (us its : List Value), us.length = n → its.length = dvs.length →
      ∃ k, bindArgs (PySem.W.fnX x qual params body scope cl (.ref T) kV doc pm an cdv ct) ⟨us, []⟩ = seqItems? (.ref T) >>= k ∧ k (some its.toArray) = pure (ps.zip (us ++ its.drop j))) : ∃ ds, Vals (dvs.drop j) ds ∧ Binds K fd ps ds := by
  obtain ⟨oc, od, dV, kV, doc, pm, an, cda, ct, osl, cc, rfl, lk, hcd, hD, _⟩ := F.ex
  rcases hD with ⟨e, _⟩ | ⟨_, T, o, its, m, rfl, lT, oT, rT⟩
  · exact absurd e hd
  · refine ⟨its.drop j, rT.drop j, fun s us X hlen => ?_⟩
    have l1 : its.length = dvs.length := rT.length.symm
    have l2 : us.length = n := by
      rw [List.length_append, List.length_drop, l1] at hlen
      omega
    obtain ⟨k, e1, e2⟩ := h _ T kV doc pm an _ ct us its l2 l1
    refine BindsTo.of_looks fun M => ?_
    rw [e1]
    exact looks_items X lT oT (.of_pure e2)
end
end Gp
end
section
set_option Elab.async false
set_option linter.all false
set_option maxRecDepth 100000
set_option maxHeartbeats 4000000
namespace Gp
open PySem PySem.Spec PyProof.Rows L2 Gh
structure CvT (K : PySem.W.Frag) (C : Addr) (f : Str) (v : V) : Prop where
  r : ClX.CRead K C (.type "type")
  v : ∃ u, ClX.CVal K C (.type "type") f v u
theorem cvB_ok {c f : Str} {i : Int} {K : PySem.W.Frag} (h : cvB c f i K = true) : CvT K (gd c K) f (.int i) := by
  obtain ⟨h1, h2⟩ := He.ba h
  refine ⟨⟨h1, ?_⟩, ?_⟩
  · have h := h1
    unfold PySem.W.readsIn at h
    obtain ⟨h, _⟩ := He.ba h
    obtain ⟨h, _⟩ := He.ba h
    obtain ⟨h, h3⟩ := He.ba h
    obtain ⟨_, h2⟩ := He.ba h
    unfold PySem.W.specialIn
    rw [beq_iff_eq.mp h2, Option.bind_some]
    exact beq_iff_eq.mp h3
  · split at h2
    · rename_i e
      have := of_decide_eq_true h2
      subst this
      exact ⟨_, e, ⟨_, rfl⟩⟩
    · cases h2
section
variable {g : Gw} {Mt U0 U U' : Addr → Prop} {H0 H H' H1 H2 : Hp} {b b1 b2 : Nat} {σ : L2.St} {ε ε' : Env} {E : XK}
theorem se_cval {c f : Str} {v : V} {d : D} (hd : ∀ U H, Den g U H v d) (h : CvT g.K (gd c g.K) f v) : SE g E ε (ClX.tCVal g.K (tC (.ref (gd c g.K))) f) (.ok d) := fun U σ H b Q R W u q => by
  obtain ⟨w, k⟩ := h.v
  exact ⟨_, _, v, w, rfl, h.r, k, okP.here q W (hd U H)⟩
variable {W L : Type} {env : W → Env} {envL : L → Env} {a r : TS} {t : TS} {m : Tr (Fl W L)}
end
end Gp
end
section
set_option Elab.async false
set_option linter.all false
set_option maxRecDepth 100000
set_option maxHeartbeats 4000000
namespace Gp
open PySem PySem.Spec PyProof.Rows L2 Gh
theorem obsL_eq {as : List Addr} {ex : List (PySem.W.Frag → Bool)} {fn : List Df} {tf : List He.Defn} {fs : List Ds} {file : Str} {g : Addr → Option Obj} {s : Shared} (h : ∀ a, g a = s.heap.get? a) : obsL as ex fn tf fs file g = (hookL as ex fn tf fs file).obs s := by
  have e : g = s.heap.get? := funext h
  rw [e] <;> rfl
end Gp
end
section
set_option Elab.async false
set_option linter.all false
set_option maxRecDepth 100000
set_option maxHeartbeats 4000000
namespace Gp
open PySem PySem.Spec PyProof.Rows L2 Gh
section
variable {g : Gw} {Mt U0 U U' : Addr → Prop} {H0 H H' H1 H2 : Hp} {b b1 : Nat} {σ : L2.St} {ε ε' : Env} {W L W' : Type} {yd : List D}
variable {env : W → Env} {envL : L → Env} {env' : W' → Env} {u ta tb : TGn} {te : TE} {me : Tr D}
def gflP (g : Gw) (Mt U0 : Addr → Prop) (H0 : Hp) (U : Addr → Prop) (H : Hp) (D : GEnds) (env : W → Env) (envL : L → Env) : List Gp.D × Fl W L → Nat → Prop
  | (zs, .nx w), b => ∀ U' σ' H' ys', Ev U H U' H' → Stt g Mt U0 H0 U' σ' H' b (env w) → DenL g U' H' ys' zs → D.nx ys' σ' H'
  | (_, .rt _), _ => False
  | (zs, .bk w), b => ∀ U' σ' H' ys', Ev U H U' H' → Stt g Mt U0 H0 U' σ' H' b (envL w) → DenL g U' H' ys' zs → D.bk ys' σ' H'
  | (zs, .ct w), b => ∀ U' σ' H' ys', Ev U H U' H' → Stt g Mt U0 H0 U' σ' H' b (envL w) → DenL g U' H' ys' zs → D.ct ys' σ' H'
theorem gflP.ev {U1 : Addr → Prop} {H1 : Hp} {D : GEnds} {env : W → Env} {envL : L → Env} (e : Ev U H U1 H1) : ∀ {f : List Gp.D × Fl W L}, gflP g Mt U0 H0 U H D env envL f b → gflP g Mt U0 H0 U1 H1 D env envL f b
  | (_, .nx w), h => fun U' σ' H' ys' e1 => h U' σ' H' ys' (e.trans e1)
  | (_, .rt d), h => h
  | (_, .bk w), h => fun U' σ' H' ys' e1 => h U' σ' H' ys' (e.trans e1)
  | (_, .ct w), h => fun U' σ' H' ys' e1 => h U' σ' H' ys' (e.trans e1)
def SG (g : Gw) (ε : Env) (t : TGn) (env : W → Env) (envL : L → Env) (m : List D → Tr (List D × Fl W L)) : Prop := ∀ Mt U0 H0 U D ys yd σ H b, Stt g Mt U0 H0 U σ H b ε → DenL g U H ys yd → Al (gflP g Mt U0 H0 U H D env envL) (fun _ _ _ => False) (m yd) b → t D ys σ H
def bdG (m : Tr (List D × Fl W' L)) (k : W' → List D → Tr (List D × Fl W L)) : Tr (List D × Fl W L) := bd m fun r => match r with
  | (zs, .nx w) => k w zs
  | (zs, .rt d) => .ok (zs, .rt d)
  | (zs, .bk l) => .ok (zs, .bk l)
  | (zs, .ct l) => .ok (zs, .ct l)
theorem SG.seq {m : List D → Tr (List D × Fl W' L)} {k : W' → List D → Tr (List D × Fl W L)} (h1 : SG g ε ta env' envL m) (h2 : ∀ w, SG g (env' w) u env envL (k w)) : SG g ε (tGThen ta u) env envL (fun yd => bdG (m yd) k) := fun Mt U0 H0 U D ys yd σ H b s dn q => by
  refine h1 Mt U0 H0 U { D with nx := fun ys' σ' H' => u D ys' σ' H' } ys yd σ H b s dn ((al_bd.mp q).mono (fun r b1 h => ?_) (fun _ _ _ z => z))
  obtain ⟨zs, f⟩ := r
  cases f with
  | nx w => exact fun U1 σ1 H1 ys1 e1 s1 d1 => h2 w Mt U0 H0 U1 D ys1 zs σ1 H1 b1 s1 d1 (Al.mono (fun _ _ z => z.ev e1) (fun _ _ _ z => z) h)
  | rt d => exact h.elim
  | bk l => exact h
  | ct l => exact h
end
section
variable {P : Program} {w : World} {K : PySem.W.Frag} {mg : Str → Option Value} {base : Heap}
end
end Gp
end
section
set_option Elab.async false
set_option linter.all false
set_option maxRecDepth 100000
set_option maxHeartbeats 4000000
namespace Gp
open PySem PySem.Spec PyProof.Rows L2 Gh
structure ClmT (K : PySem.W.Frag) (C : Addr) (m : Str) (p g : Addr) : Prop where
  r : ClX.CRead K C (.type "type")
  c : ClX.CMet K C (.type "type") m p g
theorem clmB_ok {x m : Str} {K : PySem.W.Frag} (h : clmB x m K = true) : ClmT K (gd x K) m (He.ma K (He.ga K x) m) (clsG x m K) := by
  obtain ⟨h1, h⟩ := He.ba h
  obtain ⟨h2, h⟩ := He.ba h
  obtain ⟨h3, h⟩ := He.ba h
  obtain ⟨h4, h5⟩ := He.ba h
  refine ⟨⟨h1, He.eqO_ok h2⟩, ⟨?_, ?_, h5⟩⟩
  · split at h3
    · rename_i b p C e
      obtain ⟨z1, z⟩ := He.ba h3
      obtain ⟨z2, z3⟩ := He.ba z
      rw [e, of_decide_eq_true z1, of_decide_eq_true z2, of_decide_eq_true z3]
    · cases h3
  · unfold clsG
    split at h4
    · rename_i g r e
      rw [e]
      exact ⟨r, rfl⟩
    · cases h4
theorem pe_cm {X : Cx} {CX : CXT} {k : Nat} {p q C : Addr} {sp : Sp} {E : XK} {m : Str} {apos pos : Pos} {o e : Expr} {es : List Expr} {ta : TE} {t : TA} {pl : Sem Bool} (he : PE X o ta) (c : ClmT X.K C m p q) (F : PromOX X CX k q [] sp) (hr : Room k X.A) (hx : Passes CX X E) (ha : PA X (e :: es) t)
    (hst : starEach (e :: es) X.env = (false, eval e X.env) :: starEach es X.env := by rfl) (hpl : (backTo pos (starEach es X.env)).any (·.1) = false := by rfl)
    (ht : eval (.Call (.Attribute o m apos) (e :: es) [] pos) X.env = (do
      let ov ← eval o X.env
      standAt apos.atName
      let (f, first) ← holding [ov] (getMethod ov m pl)
      callWith pos f first (backTo pos (starEach (e :: es) X.env)) (backToKw pos (keywordEach [] X.env))) := by rfl) : PE X (.Call (.Attribute o m apos) (e :: es) [] pos) (ClX.tCMeth C sp E ta t) :=
  ClX.pe_cmeth (pl := pl) he c.r c.c (PromO.raw F) hr hx ha hst hpl ht
def spK (K : PySem.W.Frag) (T : List (Addr × Str)) (cn : Str) (F : List D → Tr D) : Sp := fun vs H Q E => ∃ rest, vs = .ref (gd cn K) :: rest ∧ spF K T F rest H Q E
section
variable {g : Gw} {U : Addr → Prop} {H : Hp} {σ : L2.St} {ε : Env} {E : XK} {Q : VK}
theorem se_cm {c : Str} {F : List D → Tr D} {t : TA} {mt : Tr (List D)} (ht : SA g E ε t mt) : SE g E ε (ClX.tCMeth (gd c g.K) (spK g.K g.T c F) E (tC (.ref (gd c g.K))) t) (bd mt F) := fun U σ H b Q R W u q =>
  ⟨rfl, ht.step R W u q fun vs ds H2 b2 dv w2 f2 R2 u2 q2 => ⟨vs, rfl, g.p, g.c, U, ds, b2, dv, w2, u2, q2.mono (fun _ _ h => h.fr f2) (fun _ _ _ h => h)⟩⟩
theorem Rel.cons0 {v : V} {d : D} (dn : Den g U H v d) (r : Rel g U H σ ε) : Rel g U H (some v :: σ) (.fz d :: ε) := by
  have ow : ∀ i a, OwnAt (some v :: σ) (.fz d :: ε) i a → ∃ j, i = j + 1 ∧ OwnAt σ ε j a := fun i a ⟨z1, z2⟩ => by
    cases i with
    | zero => rcases z2 with ⟨ds, e⟩ | ⟨c, fs, e⟩ <;> cases e
    | succ j => exact ⟨j, rfl, z1, z2⟩
  refine ⟨congrArg (· + 1) r.len, fun i s e => ?_, fun i j a n h1 h2 => ?_⟩
  · cases i with
    | zero =>
      cases e
      exact ⟨some v, rfl, v, rfl, dn⟩
    | succ j => exact r.at_ j s e
  · obtain ⟨i', rfl, k1⟩ := ow i a h1
    obtain ⟨j', rfl, k2⟩ := ow j a h2
    exact r.apart i' j' a (fun z => n (by rw [z])) k1 k2
theorem fn_ofK {K : PySem.W.Frag} {T : List (Addr × Str)} {cn : Str} {n0 : Str} {N : List Str} {F : List D → Tr D} {vs : List V} {t : TS} {envU : Unit → Env} (h : spK K T cn F vs H Q E)
    (hs : ∀ p c ds, (∃ (P : D → Nat → Prop) (X : Str → Fs → Nat → Prop) (b : Nat), Al P X (F ds) b) → ∃ m, F ds = fin m ∧ SS ⟨K, T, p, c⟩ E (.fz (.cls cn) :: (ds.map Sl.fz ++ List.replicate (N.length - ds.length) Sl.no)) t envU envE m) : t { nx := fun _ H' => Q .non H', rt := Q } (L2.start (n0 :: N) vs) H := by
  obtain ⟨rest, rfl, p, c, U, ds, b, dn, wd, u, al⟩ := h
  obtain ⟨m, e, ss⟩ := hs p c ds ⟨_, _, _, al⟩
  have es : L2.start (n0 :: N) (.ref (gd cn K) :: rest) = some (.ref (gd cn K)) :: L2.start N rest := by
    unfold L2.start
    simp
  rw [es]
  have nn : ∀ i a, ¬ OwnAt (some (.ref (gd cn K)) :: L2.start N rest) (.fz (.cls cn) :: (ds.map Sl.fz ++ List.replicate (N.length - ds.length) Sl.no)) i a := fun i a ⟨_, z⟩ => by
    have : ∀ s : Sl, (Sl.fz (.cls cn) :: (ds.map Sl.fz ++ List.replicate (N.length - ds.length) Sl.no))[i]? = some s → (∃ d, s = .fz d) ∨ s = .no := fun s e => by
      rcases List.mem_cons.mp (List.mem_of_getElem? e) with m | m
      · exact .inl ⟨_, m⟩
      · rcases List.mem_append.mp m with m | m
        · obtain ⟨d, _, e⟩ := List.mem_map.mp m
          exact .inl ⟨d, e.symm⟩
        · exact .inr (List.mem_replicate.mp m).2
    rcases z with ⟨x, z⟩ | ⟨x, y, z⟩
    · rcases this _ z with ⟨d, e⟩ | e <;> cases e
    · rcases this _ z with ⟨d, e⟩ | e <;> cases e
  rw [e] at al
  refine ss (fun _ => False) U H U _ _ H b ⟨(rel_start dn).cons0 (.cls cn), wd, u, fun _ z => z, fun i a z => (nn i a z).elim, fun _ _ z _ _ _ => z, fun i ds' a z1 z2 => (nn i a ⟨z2, .inl ⟨ds', z1⟩⟩).elim, fun i c fs a _ z1 z2 => (nn i a ⟨z2, .inr ⟨c, fs, z1⟩⟩).elim⟩ ((al_bd.mp al).mono (fun f b1 h1 => ?_) (fun c fs b1 h1 => ?_))
  · cases f with
    | nx w => exact fun U' σ' H' e s => h1 .non H' .non s.wd fun a o z1 z2 z3 => s.ext a o z1 z2 (fun z => z) z3
    | rt d => exact fun v H' dn w f => h1 v H' dn w fun a o z1 z2 z3 => f a o z1 z2 (fun z => z) z3
    | bk e => exact nomatch e
    | ct e => exact nomatch e
  · exact fun dd fvs H' z1 z2 z3 z4 z5 => h1 dd fvs H' z1 z2 z3 z4 fun a o y1 y2 y3 => z5 a o y1 y2 (fun z => z) y3
theorem fn_ofK1 {K : PySem.W.Frag} {T : List (Addr × Str)} {cn : Str} {n0 : Str} {N : List Str} {F : D → Tr D} {vs : List V} {t : TS} {envU : Unit → Env} {m : D → Tr (Fl Unit Empty)} (h : spK K T cn (ul1 F) vs H Q E) (hF : ∀ x, F x = fin (m x))
    (hs : ∀ p c x, SS ⟨K, T, p, c⟩ E (.fz (.cls cn) :: ([x].map Sl.fz ++ List.replicate (N.length - 1) Sl.no)) t envU envE (m x)) : t { nx := fun _ H' => Q .non H', rt := Q } (L2.start (n0 :: N) vs) H :=
  fn_ofK h fun p c ds ⟨_, _, _, al⟩ => by
    obtain ⟨x, rfl, _⟩ := al_ul1 al
    exact ⟨m x, hF x, hs p c x⟩
theorem spK_len {K : PySem.W.Frag} {T : List (Addr × Str)} {cn : Str} {F : List D → Tr D} {n : Nat} (hn : ∀ (P : D → Nat → Prop) (X : Str → Fs → Nat → Prop) ds b, Al P X (F ds) b → ds.length = n) {vs : List V} (h : spK K T cn F vs H Q E) : vs.length = n + 1 := by
  obtain ⟨rest, rfl, h⟩ := h
  rw [List.length_cons, spF_len hn h]
end
def tCallV (C : Addr) (r : List V → Hp → VK → Prop) (tf : TE) (t : TA) : TE := fun σ H Q => tf σ H fun y H1 => y = V.ref C ∧ t σ H1 fun vs H2 => r vs H2 Q
theorem pe_callV {X : Cx} {f : Addr} {r : List V → Hp → VK → Prop} {fe e : Expr} {es : List Expr} {tf : TE} {t : TA} {pos : Pos} (hf : PE X fe tf) (hk : PySem.W.keepIn X.K (.ref f) = true) (R : CallR X (.ref f) r) (ha : PA X (e :: es) t)
    (ht : eval (.Call fe (e :: es) [] pos) X.env = (do callWith pos (← eval fe X.env) [] (backTo pos (starEach (e :: es) X.env)) (backToKw pos (keywordEach [] X.env))) := by rfl)
    (he : starEach (e :: es) X.env = (false, eval e X.env) :: starEach es X.env := by rfl) (hpl : (backTo pos (starEach es X.env)).any (·.1) = false := by rfl) : PE X (.Call fe (e :: es) [] pos) (tCallV f r tf t) := by
  refine ⟨fun pins s σ H Q I h => ?_⟩
  refine Call_ (thn (hf.run pins s σ H _ I h) fun u s1 ⟨y, H1, I1, ry, ey, q⟩ => ?_) ht
  subst ey
  obtain rfl : u = Value.ref f := ry
  refine PySem.W.callWith_K (h₀ := X.base) I1.ok.mod.kin hk (thn (ha.run pos pins s1 σ H1 _ I1 q) fun us s2 ⟨vs, H2, I2, r, q2⟩ => ⟨I2.kIn, ?_⟩) he hpl
  exact R pins s2 σ H2 vs us Q I2 r q2
theorem se_callK {g : Gw} {ε : Env} {E : XK} {i : Nat} {c : Str} {r : List V → Hp → VK → Prop} {f : List D → Tr D} {t : TA} {m : Tr (List D)} (hr : SRL g E r f) (ha : SA g E ε t m) (hi : ε[i]? = some (.fz (.cls c)) := by rfl) : SE g E ε (tCallV (gd c g.K) r (tVar i) t) (bd m f) := fun U σ H b Q R W u q => by
  obtain ⟨o, e, v, rfl, dn⟩ := R.at_ i _ hi
  cases dn
  exact ⟨_, e, rfl, ha.step R W u q fun vs ds H2 b2 d2 w2 f2 R2 u2 q2 => hr U H2 b2 vs ds Q d2 w2 u2 (q2.mono (fun _ _ h => h.fr f2) (fun _ _ _ h => h))⟩
theorem se_dct {g : Gw} {ε : Env} {E : XK} : SE g E ε tDNewK (.ok .dct) := fun U σ H b Q R W u q p np => by
  have s := same_new (o := .dK []) np
  exact q _ _ (.dct upd_same (u.new np)) (W.same s) (fr_same s)
end Gp
end
section
set_option Elab.async false
set_option linter.all false
set_option maxRecDepth 100000
set_option maxHeartbeats 4000000
namespace Gp
open PySem PySem.Spec PyProof.Rows L2 Gh
section
variable {g : Gw} {Mt U0 U U' : Addr → Prop} {H0 H H' H1 H2 : Hp} {b b1 : Nat} {σ : L2.St} {ε ε' : Env} {E : XK} {W L W' : Type}
variable {env : W → Env} {envL : L → Env} {env' : W' → Env} {u ta tb : TS} {te ti : TE} {me mi : Tr D}
def SQ (g : Gw) (E : XK) (ε : Env) (n : Nat) (t : TA) (m : Tr (List D)) : Prop := ∀ Mt U0 H0 U σ H b Q, Stt g Mt U0 H0 U σ H b ε →
  Al (fun ds b' => ∀ vs U' H', QR g Mt U0 H0 U' σ H' ε n vs ds → Ev U H U' H' → Stt g Mt U0 H0 U' σ H' b' ε → Q vs H') (exS g Mt U0 H0 E) m b → t σ H Q
theorem SQ.sstep {n : Nat} {t : TA} {m : Tr (List D)} {k : List D → Tr (Fl W L)} {Ds : Ends} {Q : List V → Hp → Prop} (he : SQ g E ε n t m) (s : Stt g Mt U0 H0 U σ H b ε) (h : Al (flP g Mt U0 H0 U H Ds env envL) (exS g Mt U0 H0 E) (bd m k) b)
    (hk : ∀ vs ds U' H1 b1, QR g Mt U0 H0 U' σ H1 ε n vs ds → Stt g Mt U0 H0 U' σ H1 b1 ε → Al (flP g Mt U0 H0 U' H1 Ds env envL) (exS g Mt U0 H0 E) (k ds) b1 → Q vs H1) : t σ H Q :=
  he Mt U0 H0 U σ H b Q s ((al_bd.mp h).mono (fun ds b1 h1 vs U' H' qr ev s1 => hk vs ds U' H' b1 qr s1 (h1.mono (fun _ _ z => z.ev ev) (fun _ _ _ z => z))) (fun _ _ _ h => h))
end
end Gp
end
section
set_option Elab.async false
set_option linter.all false
set_option maxRecDepth 100000
set_option maxHeartbeats 4000000
namespace Gp
open PySem PySem.Spec PyProof.Rows L2 Gh
abbrev TSF : Type := Addr → Value → Option Addr → TS
section
variable {X : Cx} {body : List Stmt} {h₀ : ExceptHandler} {hds : List ExceptHandler} {l : List (Value × Option Nat × TSF)} {pos : Pos} {tb : WX → TS} {Wout : WX}
end
end Gp
end
section
set_option Elab.async false
set_option linter.all false
set_option maxRecDepth 100000
set_option maxHeartbeats 4000000
namespace Gp
open PySem PySem.Spec PyProof.Rows L2 Gh
def ItH.te (a : Addr) (cls : Value) (d : Option Addr) (C : Addr) (i : Nat) : ItH → TE
  | .s x => tC (.str x)
  | .n k => tC (.int k)
  | .f x => tXf a cls d C x (tVar i)
section
variable {g : Gw} {U : Addr → Prop} {H H' : Hp} {b : Nat} {σ : L2.St} {ε : Env}
end
theorem fnO1 {P : Program} {w : World} {K : PySem.W.Frag} {mg : Str → Option Value} {base : Heap} {CX : CXT} {k : Nat} {f : Addr} {fd : FuncData} {ps : List Str} {sp : Sp} {dvs : List V} {x qual : Str} {params : Arguments} {body : List Stmt} {scope : Scope} {kws : List (Str × V)} {N : List Str}
    (F : FunD K x qual params body scope dvs kws f fd) (S : FnScope N ps scope) (len : ∀ vs H Q E, sp vs H Q E → vs.length = ps.length)
    (hbody : ∀ (cdv : Value) (A : Around) (outer : List PySem.Env) (s : Shared) (H : Hp) (vs : List V) (Q : VK) (E : XK), cdv = fd.code → Room k (A.deeper (envOfC qual scope s.heap.objs.size f cdv)) → sp vs H Q E →
      ∃ t, PSs (cxOf CX P w K mg base N qual scope f cdv A outer s H E).nox body t ∧ t { nx := fun _ H' => Q .non H', rt := Q } (L2.start N vs) H) : FnOk P w K mg base CX (k + 1) f fd ps sp := by
  obtain ⟨oc, od, dV, kV, doc, pm, an, cdv, ct, osl, rfl, lk, hcd, _, _⟩ := F.ex
  refine ⟨len, fun A outer s H args us vs Q E hr e0 hb r hsp => ?_⟩
  refine LamX.run_ofS (N := N) (ps := ps) lk hcd S hr e0 hb r (len _ _ _ _ hsp) fun hr' => ?_
  obtain ⟨t, ht, q⟩ := hbody cdv A outer s H vs Q E rfl hr' hsp
  exact ⟨t, PSs.nox ht, q⟩
def HrdP (K : PySem.W.Frag) (d : Df) (ps : List Str) : Prop := ∃ fd, FnA K d fd ∧ L2.Binds K fd ps []
def qlOf (d : Df) (K : PySem.W.Frag) : Str := (envOfC d.qual (defScope d.st) 0 (d.adr K) .none).qual ++ "<lambda>"
structure LamD (base : Heap) (mg : Str → Option Value) (K : PySem.W.Frag) (Tb : List (Addr × Str)) (d : Df) (pn : He.Defn) : Prop where
  tb : LamX.TabB base mg (He.cT K pn).1 (He.cT K pn).2
  mem : ((He.cT K pn).2, qlOf d K) ∈ Tb
  hu : ∀ p ∈ Tb, p.1 = (He.cT K pn).2 → p.2 = qlOf d K
end Gp
end
section
set_option Elab.async false
set_option linter.all false
set_option maxRecDepth 100000
set_option maxHeartbeats 4000000
namespace Gp
open PySem PySem.Spec PyProof.Rows L2 Gh
theorem mk_err2 {C : Addr} {f f2 : Str} {v v2 : V} {H : Hp} {Q : XK} (h : ∀ d H', L2.Same H H' → H d = none → H' d = some (.xd [(f2, v2), (f, v)]) → Q (.ref C) (some d) H') :
    ([v, v2] : List V).length ≤ 1000 ∧ ∀ a, H a = none → spErr2 C f f2 (.ref a :: ([v, v2] ++ [])) (upd H a (exo a C none)) (fun u H2 => u = .non ∧ ∃ (d : Addr) (fs : List (Str × V)), H2 a = some (exo a C (some d)) ∧ H2 d = some (exd d fs) ∧ H d = none ∧ Q (.ref C) (some d) (upd (del H2 a) d (.xd fs))) (fun _ _ _ => False) := by
  refine ⟨by show 2 ≤ 1000; decide, fun a na => ⟨a, v, v2, rfl, upd_same, fun d nd ne => ⟨rfl, d, [(f2, v2), (f, v)], ?_, upd_same, ?_, ?_⟩⟩⟩
  · rw [upd_ne (Ne.symm ne), upd_same]
  · rw [upd_ne ne] at nd
    exact nd
  · have nd0 : H d = none := by
      rw [upd_ne ne] at nd
      exact nd
    refine h d _ (fun b u e => ?_) nd0 upd_same
    have hb : b ≠ a := ne_of_none e na
    have hd : b ≠ d := ne_of_none e nd0
    rw [upd_ne hd, del_ne hb, upd_ne hd, upd_ne hb, upd_ne hd, upd_ne hb]
    exact e
section
variable {g : Gw} {ε : Env} {E : XK} {W L : Type} {env : W → Env} {envL : L → Env} {u : TS} {ta : TA} {m : Tr (List D)}
theorem ss_raise2 {c f f2 : Str} (ha : SA g E ε ta m) : SS g E ε (tSeq (fun _ σ H => tMkO (gd c g.K) (spErr2 (gd c g.K) f f2) [] ta σ H (fun cls d H' => E cls d H')) u) env envL (bd m (ul2 fun d1 d2 => .ex c [(f2, d2), (f, d1)])) := fun Mt U0 H0 U Ds σ H b s q => by
  show ta σ H _
  refine ha.sstep s q fun vs ds H1 b1 dv s1 q1 => ?_
  obtain ⟨x, y, rfl, q2⟩ := al_ul2 q1
  obtain ⟨v1, v2, rfl, e1, e2⟩ := denL_2 dv
  refine mk_err2 fun dd H2 sm nd hd => ?_
  have q3 : exS g Mt U0 H0 E c [(f2, y), (f, x)] b1 := q2
  exact q3 dd _ H2 hd (fun z => s1.uok.new nd (s1.sub _ z)) (.cons ((e2.ext (fun a o e _ _ => sm a o e)).sub fun a _ z => s1.sub a z) (.cons ((e1.ext (fun a o e _ _ => sm a o e)).sub fun a _ z => s1.sub a z) .nil)) (s1.wd.same sm) (s1.ext.trans (fr_same sm))
end
end Gp
end
section
set_option Elab.async false
set_option linter.all false
set_option maxRecDepth 100000
set_option maxHeartbeats 4000000
namespace Gp
open PySem PySem.Spec PyProof.Rows L2 Gh
section
variable {X : Cx} {k : Nat} {g C p : Addr} {m : Str} {apos pos : Pos} {o : Expr} {ta : TE} {r : List V → Hp → VK → Prop}
theorem pe_sm0 {pl : Sem Bool} (he : PE X o ta) (c : StaT X.K C m p g) (R : CallR X (.ref g) r)
    (ht : eval (.Call (.Attribute o m apos) [] [] pos) X.env = (do
      let ov ← eval o X.env
      standAt apos.atName
      let (f, first) ← holding [ov] (getMethod ov m pl)
      callWith pos f first (backTo pos (starEach [] X.env)) (backToKw pos (keywordEach [] X.env))) := by rfl) :
    PE X (.Call (.Attribute o m apos) [] [] pos) (tSm C r ta tNil) := by
  refine ⟨fun pins s σ H Q I h => ?_⟩
  refine PySem.W.methodCall_KW (pl := pl) (thn (he.run pins s σ H _ I h) fun u s1 ⟨x, H1, I1, rx, ex, q⟩ => ?_) ht
  subst ex
  obtain rfl : u = Value.ref C := rx
  obtain ⟨mm, fr⟩ := I1.fr
  obtain ⟨rest, hrc⟩ := c.rc
  refine PySem.W.method_of_cls fr I1.ok.mod.kin c.ga (PySem.W.cls_sm fr I1.ok.mod.kin c.ty c.rd c.at_ hrc rfl ?_)
  have I2 := I1.tok (s1.toks + 1)
  exact PySem.W.callWith_K0 (first := []) I2.kIn c.kp (R pins _ σ H1 [] [] Q I2 .nil q)
end
end Gp
end
section
set_option Elab.async false
set_option linter.all false
set_option maxRecDepth 100000
set_option maxHeartbeats 4000000
namespace Gz
open PySem
open Sem (wp)
theorem FsOk.tail {ρ : Map} {a : Frame} {b : List Frame} (h : FsOk ρ (a :: b)) : FsOk ρ b := fun g kk ll cc pp z => h g kk ll cc pp (List.mem_cons_of_mem _ z)
end Gz
end
section
set_option Elab.async false
set_option linter.all false
set_option maxRecDepth 100000
set_option maxHeartbeats 4000000
namespace Gz
open PySem PySem.Spec PyProof.Rows L2 GenW Gh
variable {X : Cx}
abbrev TQ (T : Type) := Pro T → QE T → Nat → T → L2.St → Hp → Prop
abbrev GpZ := List (Nat × GenState) → Prop
section
variable {T : Type} {Z : GpZ} {st : Stmt} {rest : List Stmt} {pos : Pos}
def tQThen (t u : TQ T) : TQ T := fun P D n γ σ H => t P { D with nx := fun n' γ' σ' H' => u P D n' γ' σ' H' } n γ σ H
end
end Gz
end
section
set_option Elab.async false
set_option linter.all false
set_option maxRecDepth 100000
set_option maxHeartbeats 4000000
namespace Gz
open PySem PySem.Spec PyProof.Rows L2 GenW Gh
section
variable {X : Cx} {ip : List (Addr × Obj)} {σ : L2.St} {H : Hp} {s : Shared}
end
section
variable {T : Type} {X : Cx} {st : Stmt} {rest : List Stmt}
end
abbrev SpQ := (T : Type) → Pro T → Nat → T → Prop
abbrev SpH := Hp → SpQ
end Gz
end
section
set_option Elab.async false
set_option linter.all false
set_option maxRecDepth 100000
set_option maxHeartbeats 4000000
namespace Gz
open PySem PySem.Spec PyProof.Rows L2 GenW Gh
section
variable {P : Program} {w : World} {A : Around} {E : Value → Shared → Prop} {s : Shared}
end
abbrev TQG := L2.St → Hp → (SpH → Hp → Prop) → Prop
section
variable {X : Cx} {k : Nat} {f C : Addr} {fd : FuncData} {ps : List Str} {sp : List V → Hp → XK → SpQ} {dvs : List V} {ds : List Value} {x m : Str} {p pos pos' apos : Pos} {o : Expr} {ta : TE}
end
end Gz
end
section
set_option Elab.async false
set_option linter.all false
set_option maxRecDepth 100000
set_option maxHeartbeats 4000000
namespace Gp
open PySem PySem.Spec PyProof.Rows L2 Gh Gz
structure GT (α : Type) where
  out : List D
  res : Tr α
section
variable {W W' L : Type}
def gbF (m : GT (Fl W' L)) (k : W' → GT (Fl W L)) : GT (Fl W L) := match m.res with
  | .ok (.nx w) => ⟨m.out ++ (k w).out, (k w).res⟩
  | .ok (.rt d) => ⟨m.out, .ok (.rt d)⟩
  | .ok (.bk l) => ⟨m.out, .ok (.bk l)⟩
  | .ok (.ct l) => ⟨m.out, .ok (.ct l)⟩
  | _ => ⟨m.out, .bad⟩
end
structure PY (g : Gw) (all : List D) (N : Nat) {T : Type} (P : Pro T) where
  U : T → Addr → Prop
  B : T → Nat
  ok : Prop
  out : ∀ n γ x H1 d, n + 1 ≤ N → all[N - (n + 1)]? = some d → Den g (U γ) H1 x d → Wd g H1 (B γ) → Fr (P.hp γ) H1 g.p → P.out n γ x H1
  lk : ∀ n γ H1 γ', P.lk n γ H1 γ' → 0 < n ∧ Ev (U γ) H1 (U γ') (P.hp γ') ∧ UOk g (U γ') (P.hp γ') ∧ Wd g (P.hp γ') (B γ')
  fin : ∀ n γ H1, ok → n + all.length = N → Wd g H1 (B γ) → Fr (P.hp γ) H1 g.p → P.fin n γ H1
abbrev TQA := (T : Type) → TQ T
abbrev NoM : Addr → Prop := fun _ => False
section
variable {g : Gw} {T : Type} {P : Pro T} {all : List D} {N : Nat} {W W' L : Type}
def gqP (Y : PY g all N P) (D : QE T) (env : W → Env) (envL : L → Env) (n : Nat) (U : Addr → Prop) (H : Hp) : Fl W L → Prop
  | .nx w => ∀ γ' U' σ' H', Ev U H U' H' → Stt g NoM (Y.U γ') (P.hp γ') U' σ' H' (Y.B γ') (env w) → D.nx n γ' σ' H'
  | .rt _ => False
  | .bk w => ∀ γ' U' σ' H', Ev U H U' H' → Stt g NoM (Y.U γ') (P.hp γ') U' σ' H' (Y.B γ') (envL w) → D.bk n γ' σ' H'
  | .ct w => ∀ γ' U' σ' H', Ev U H U' H' → Stt g NoM (Y.U γ') (P.hp γ') U' σ' H' (Y.B γ') (envL w) → D.ct n γ' σ' H'
theorem gqP.ev {Y : PY g all N P} {D : QE T} {env : W → Env} {envL : L → Env} {n : Nat} {U U1 : Addr → Prop} {H H1 : Hp} (e : Ev U H U1 H1) : ∀ {f : Fl W L}, gqP Y D env envL n U H f → gqP Y D env envL n U1 H1 f
  | .nx w, h => fun γ' U' σ' H' e1 => h γ' U' σ' H' (e.trans e1)
  | .rt _, h => h
  | .bk w, h => fun γ' U' σ' H' e1 => h γ' U' σ' H' (e.trans e1)
  | .ct w, h => fun γ' U' σ' H' e1 => h γ' U' σ' H' (e.trans e1)
def okQ {α : Type} (m : Tr α) (R : α → Prop) : Prop := match m with
  | .ok f => R f
  | _ => False
end
def YS {W L : Type} (g : Gw) (ε : Env) (t : TQA) (env : W → Env) (envL : L → Env) (m : GT (Fl W L)) : Prop := ∀ (T : Type) (P : Pro T) (all : List D) (N : Nat) (Y : PY g all N P) (D : QE T) γ U σ H n pre post,
  Stt g NoM (Y.U γ) (P.hp γ) U σ H (Y.B γ) ε → all = pre ++ (m.out ++ post) → n + pre.length = N → m.out.length ≤ n → ((m.out = [] ∨ m.out.length < n) → okQ m.res (gqP Y D env envL (n - m.out.length) U H)) → t T P D n γ σ H
section
variable {g : Gw} {W W' L : Type} {ε : Env} {env : W → Env} {envL : L → Env} {env' : W' → Env} {u ta tb : TQA} {te : TE} {me : Tr D}
theorem gbF_nx {m : GT (Fl W' L)} {k : W' → GT (Fl W L)} {w : W'} (e : m.res = .ok (.nx w)) : gbF m k = ⟨m.out ++ (k w).out, (k w).res⟩ := by unfold gbF; rw [e]
theorem YS.seq {m : GT (Fl W' L)} {k : W' → GT (Fl W L)} (h1 : YS g ε ta env' envL m) (h2 : ∀ w, YS g (env' w) u env envL (k w)) : YS g ε (fun T => tQThen (ta T) (u T)) env envL (gbF m k) := fun T P all N Y D γ U σ H n pre post s ha hn hl q => by
  have run : ∀ (R : List Gp.D), all = pre ++ (m.out ++ R) → m.out.length ≤ n → ((m.out = [] ∨ m.out.length < n) → okQ m.res (gqP Y { D with nx := fun n' γ' σ' H' => u T P D n' γ' σ' H' } env' envL (n - m.out.length) U H)) → tQThen (ta T) (u T) P D n γ σ H :=
    fun R hR hl' hq => h1 T P all N Y _ γ U σ H n pre R s hR hn hl' hq
  cases e : m.res with
  | ok f =>
    cases f with
    | nx w =>
      rw [gbF_nx e] at ha hl q
      have ha' : all = pre ++ (m.out ++ ((k w).out ++ post)) := by rw [ha]; simp [List.append_assoc]
      have hl' : m.out.length + (k w).out.length ≤ n := by rw [← List.length_append]; exact hl
      refine run _ ha' (by omega) fun hc => ?_
      rw [e]
      intro γ' U' σ' H' ev s'
      refine h2 w T P all N Y D γ' U' σ' H' (n - m.out.length) (pre ++ m.out) post s' (by rw [ha']; simp [List.append_assoc]) (by rw [List.length_append]; omega) (by omega) fun hc2 => ?_
      have z := q (by
        rcases hc2 with z | z
        · rw [z, List.append_nil]; exact hc
        · exact .inr (by show (m.out ++ (k w).out).length < n; rw [List.length_append]; omega))
      have e3 : n - (m.out ++ (k w).out).length = n - m.out.length - (k w).out.length := by rw [List.length_append]; omega
      change okQ (k w).res (gqP Y D env envL (n - (m.out ++ (k w).out).length) U H) at z
      rw [e3] at z
      cases e4 : (k w).res with
      | ok f2 => rw [e4] at z; exact gqP.ev ev z
      | ex c fs => rw [e4] at z; exact z.elim
      | bad => rw [e4] at z; exact z.elim
      | draw _ _ => rw [e4] at z; exact z.elim
    | rt d =>
      have e2 : gbF m k = ⟨m.out, .ok (.rt d)⟩ := by unfold gbF; rw [e]
      rw [e2] at ha hl q
      exact run post ha hl fun hc => by rw [e]; exact q hc
    | bk l =>
      have e2 : gbF m k = ⟨m.out, .ok (.bk l)⟩ := by unfold gbF; rw [e]
      rw [e2] at ha hl q
      exact run post ha hl fun hc => by rw [e]; exact q hc
    | ct l =>
      have e2 : gbF m k = ⟨m.out, .ok (.ct l)⟩ := by unfold gbF; rw [e]
      rw [e2] at ha hl q
      exact run post ha hl fun hc => by rw [e]; exact q hc
  | ex c fs =>
    have e2 : gbF m k = ⟨m.out, .bad⟩ := by unfold gbF; rw [e]
    rw [e2] at ha hl q
    exact run post ha hl fun hc => (q hc).elim
  | bad =>
    have e2 : gbF m k = ⟨m.out, .bad⟩ := by unfold gbF; rw [e]
    rw [e2] at ha hl q
    exact run post ha hl fun hc => (q hc).elim
  | draw _ _ =>
    have e2 : gbF m k = ⟨m.out, .bad⟩ := by unfold gbF; rw [e]
    rw [e2] at ha hl q
    exact run post ha hl fun hc => (q hc).elim
end
end Gp
end
section
set_option Elab.async false
set_option linter.all false
set_option maxRecDepth 100000
set_option maxHeartbeats 4000000
namespace Gp
open PySem PySem.Spec PyProof.Rows L2 Gh Gz
section
variable {X : Cx} {K : PySem.W.Frag}
end
section
variable {g : Gw} {E : XK} {ε : Env}
def fmtD (d : D) : Tr D := match d with
  | .str y => if y.length ≤ sizeLine then .ok (.str y) else .bad
  | .int i => if i.natAbs.log2 < 1920 ∧ (Str.ofString (toString i)).length ≤ sizeLine then .ok (.str (toString i)) else .bad
  | _ => .bad
theorem se_fmt {te : TE} {me : Tr D} (he : SE g E ε te me) : SE g E ε (tFmt te) (bd me fmtD) := fun U σ H b Q R w u q =>
  he.step R w u q fun v d H1 b1 d1 w1 f1 R1 u1 q1 => by
    unfold fmtD at q1
    split at q1
    · split at q1
      · rename_i y hy
        obtain ⟨rfl, _⟩ := den_str d1
        exact .inl ⟨y, rfl, hy, q1 _ H1 (.str _ hy) w1 f1⟩
      · exact q1.elim
    · split at q1
      · rename_i i hi
        cases den_int d1
        exact .inr ⟨i, rfl, hi.1, q1 _ H1 (.str _ hi.2) w1 f1⟩
      · exact q1.elim
    · exact q1.elim
def SJ (g : Gw) (E : XK) (ε : Env) (ts : List TE) (f : Str → Tr D) : Prop := ∀ acc : Str, acc.length ≤ sizeLine → SE g E ε (fun σ H Q => tJs ts acc σ H fun out H1 => Q (.str out) H1) (f acc)
theorem sj_nil : SJ g E ε [] fun acc => .ok (.str acc) := fun acc hl U σ H b Q R w u q => okP.here q w (.str _ hl)
def jnD (f : Str → Tr D) (acc : Str) (d : D) : Tr D := match d with
  | .str y => if (acc ++ y).length ≤ sizeLine then f (acc ++ y) else .bad
  | _ => .bad
theorem sj_cons {t : TE} {ts : List TE} {mt : Tr D} {f : Str → Tr D} (h : SE g E ε t mt) (k : SJ g E ε ts f) : SJ g E ε (t :: ts) fun acc => bd mt (jnD f acc) := fun acc hl U σ H b Q R w u q =>
  h.step R w u q fun v d H1 b1 d1 w1 f1 R1 u1 q1 => by
    unfold jnD at q1
    split at q1
    · split at q1
      · rename_i y hy
        obtain ⟨rfl, _⟩ := den_str d1
        exact ⟨y, rfl, hy, k _ hy U σ H1 b1 Q R1 w1 u1 (q1.mono (fun _ _ h => h.fr f1) (fun _ _ _ h => h))⟩
      · exact q1.elim
    · exact q1.elim
theorem se_joined {ts : List TE} {f : Str → Tr D} (h : SJ g E ε ts f) : SE g E ε (fun σ H Q => tJs ts Str.empty σ H fun out H1 => Q (.str out) H1) (f Str.empty) := h _ (Nat.zero_le _)
end
end Gp
end
section
set_option Elab.async false
set_option linter.all false
set_option maxRecDepth 100000
set_option maxHeartbeats 4000000
namespace Gp
open PySem PySem.Spec PyProof.Rows L2 Gh Gz
section
variable {X : Cx} {CX : CXT} {k : Nat} {f g C : Addr} {E : XK} {m : Str} {apos pos : Pos} {o : Expr} {ta : TE} {tk : TA} {ks : List Str} {kws : List Keyword} {r : List V → List V → Hp → VK → Prop}
end
theorem denL_atO {g : Gw} {U : Addr → Prop} {H : Hp} {vs : List V} {ds : List D} (h : DenL g U H vs ds) : ∀ i : Nat, (vs[i]? = none ∧ ds[i]? = none) ∨ ∃ v d, vs[i]? = some v ∧ ds[i]? = some d ∧ Den g U H v d := by
  induction vs generalizing ds with
  | nil => cases h; exact fun i => .inl ⟨rfl, rfl⟩
  | cons v vs ih =>
    cases h with
    | cons a r =>
      intro i
      cases i with
      | zero => exact .inr ⟨_, _, rfl, rfl, a⟩
      | succ i => exact ih r i
theorem denL_picks {g : Gw} {U : Addr → Prop} {H : Hp} (l : List (Nat ⊕ Nat)) {dvs zs : List V} {dds es : List D} (h1 : DenL g U H dvs dds) (h2 : DenL g U H zs es) : DenL g U H (picks l dvs zs) (picks l dds es) := by
  induction l with
  | nil => exact .nil
  | cons z r ih =>
    unfold picks at ih ⊢
    rw [List.filterMap_cons, List.filterMap_cons]
    cases z with
    | inl i =>
      rcases denL_atO h2 i with ⟨e1, e2⟩ | ⟨x, v, e1, e2, rv⟩
      · simp only [e1, e2]; exact ih
      · simp only [e1, e2]; exact .cons rv ih
    | inr j =>
      rcases denL_atO h1 j with ⟨e1, e2⟩ | ⟨x, v, e1, e2, rv⟩
      · simp only [e1, e2]; exact ih
      · simp only [e1, e2]; exact .cons rv ih
section
variable {g : Gw} {E : XK} {ε : Env} {ta : TE} {ma : Tr D} {t tk : TA} {mt mk : Tr (List D)}
end
end Gp
end
section
set_option Elab.async false
set_option linter.all false
set_option maxRecDepth 100000
set_option maxHeartbeats 4000000
namespace Gp
open PySem PySem.Spec PyProof.Rows L2 Gh
section
variable {X : Cx} {a b : Expr} {pos : Pos} {ta tb : TE}
end
section
variable {g : Gw} {E : XK} {ε : Env} {tk : TE} {mk : Tr D}
end
def unL3 {α : Type} (d : D) (k : D → D → D → Tr α) : Tr α := match d with
  | .lst [x, y, z] => k x y z
  | _ => .bad
section
variable {W L : Type} {g : Gw} {E : XK} {ε : Env} {tb : TS} {env : W → Env} {envL : L → Env}
theorem sx_lst3 {i j l : Nat} {d : D} {m : D → D → D → Tr (Fl W L)} (h : ∀ x y z, SS g E (((ε.set i (.fz x)).set j (.fz y)).set l (.fz z)) tb env envL (m x y z)) : SX g E ε d (gUnl g.K 3 (gCons (gName i) (gCons (gName j) (gCons (gName l) gNil)))) tb env envL (unL3 d m) := fun Mt U0 H0 U D σ H b v s dn q => by
  unfold unL3 at q
  split at q
  · rename_i x y z
    obtain ⟨a, vs, rfl, ha, _, _, k⟩ := den_lst dn
    obtain ⟨v1, v2, v3, rfl, e1, e2, e3⟩ := denL_3 k
    exact ⟨a, [v1, v2, v3], rfl, .inl (.inl ha), rfl, v1, [v2, v3], rfl, v2, [v3], rfl, v3, [], rfl, rfl, h x y z Mt U0 H0 U D _ H b (((s.set i e1).set j e2).set l e3) q⟩
  · exact q.elim
end
end Gp
end
section
set_option Elab.async false
set_option linter.all false
set_option maxRecDepth 100000
set_option maxHeartbeats 4000000
namespace Gp
open PySem PySem.Spec PyProof.Rows L2 Gh
@[irreducible] def rIntT : List V → Hp → VK → Prop := fun xs H Q => rInt xs H Q ∨ ∃ a n, xs = [.str a] ∧ PySem.intText? a = some n ∧ a.length ≤ 640 ∧ Q (.int n) H
theorem cr_intT {X : Cx} : CallR X (.type "int") rIntT := by
  intro pins s σ H xs us Q I r h
  unfold rIntT at h
  rcases h with h | h
  · exact cr_int pins s σ H xs us Q I r h
  · exact call_int_str pins s σ H xs us Q I r h
def intTD (x : D) : Tr D := match x with
  | .str a => if a.length ≤ 640 then (match PySem.intText? a with
    | some n => .ok (.int n)
    | none => .bad) else .bad
  | x => intD x
section
variable {g : Gw} {E : XK} {ε : Env} {te : TE} {me : Tr D}
theorem srl_intT : SRL g E rIntT (ul1 intTD) := fun U H b xs dxs Q dn w u q => by
  obtain ⟨x, rfl, q1⟩ := al_ul1 q
  by_cases hx : ∃ a, x = .str a
  · obtain ⟨a, rfl⟩ := hx
    obtain ⟨v, rfl, d1⟩ := denL_1 dn
    obtain ⟨rfl, _⟩ := den_str d1
    unfold intTD at q1
    dsimp only at q1
    split at q1
    · rename_i hl
      split at q1
      · rename_i n hn
        unfold rIntT
        exact .inr ⟨a, n, rfl, hn, hl, okP.here q1 w (.int _)⟩
      · exact q1.elim
    · exact q1.elim
  · have e : intTD x = intD x := by
      unfold intTD
      split
      · exact absurd ⟨_, rfl⟩ hx
      · rfl
    rw [e] at q1
    unfold rIntT
    exact .inl (srl_int U H b xs [x] Q dn w u q1)
end
end Gp
end
section
set_option Elab.async false
set_option linter.all false
set_option maxRecDepth 100000
set_option maxHeartbeats 4000000
namespace Gp
open PySem PySem.Spec PyProof.Rows L2 Gh
def rIsiX (K : PySem.W.Frag) (a : Addr) (cls : Value) (d : Option Addr) : List V → Hp → VK → Prop := fun xs H Q => ∃ (C dd : Addr) (fs : List (Str × V)) (c : V) (u : Value) (b : Bool), xs = [.ref a, c] ∧ ClsV c u ∧ cls = .ref C ∧ d = some dd ∧ H dd = some (.xd fs) ∧ ErrT K C ∧ PySem.W.kitOne K (.ref C) u = some b ∧ Q (.bl b) H
def BX.te (K : PySem.W.Frag) (a : Addr) (cls : Value) (d : Option Addr) (i : Nat) : BX → TE
  | .lit b => tC (.bl b)
  | .own x => tCB (rIsiX K a cls d) (tCons (tVar i) (tCons (tC (.ref (gd x K))) tNil))
  | .ty x => tCB (rIsiX K a cls d) (tCons (tVar i) (tCons (tC (.ty x)) tNil))
  | .and p q => tAndV (p.te K a cls d i) (q.te K a cls d i)
section
variable {g : Gw} {U : Addr → Prop} {H H' : Hp} {b : Nat} {σ : L2.St} {ε : Env}
end
end Gp
end
section
set_option Elab.async false
set_option linter.all false
set_option maxRecDepth 100000
set_option maxHeartbeats 4000000
namespace Gp
open PySem PySem.Spec PyProof.Rows L2 Gh
def IX.te (K : PySem.W.Frag) (a : Addr) (cls : Value) (d : Option Addr) (i : Nat) : IX → TE
  | .s x => tC (.str x)
  | .n k => tC (.int k)
  | .f cn x => tXf a cls d (gd cn K) x (tVar i)
def ixTs (K : PySem.W.Frag) (a : Addr) (cls : Value) (d : Option Addr) (i : Nat) : List IX → TA
  | [] => tNil
  | x :: r => tCons (x.te K a cls d i) (ixTs K a cls d i r)
def TX.tt (K : PySem.W.Frag) (a : Addr) (cls : Value) (d : Option Addr) (i : Nat) : TX → TT
  | .own x => tB (tCB (rIsiX K a cls d) (tCons (tVar i) (tCons (tC (.ref (gd x K))) tNil)))
  | .not p => tNot (p.tt K a cls d i)
  | .and p q => tAnd (p.tt K a cls d i) (q.tt K a cls d i)
def VX.te (K : PySem.W.Frag) (a : Addr) (cls : Value) (d : Option Addr) (i : Nat) : VX → TE
  | .one x => x.te K a cls d i
  | .lst l => tLst (ixTs K a cls d i l)
def S1X.ts (K : PySem.W.Frag) (a : Addr) (cls : Value) (d : Option Addr) (i j : Nat) : S1X → TS
  | .set v => tAsg (v.te K a cls d i) (gName j)
  | .sel t v u => tAsg (tIf (t.tt K a cls d i) (v.te K a cls d i) (u.te K a cls d i)) (gName j)
section
variable {g : Gw} {U : Addr → Prop} {H : Hp} {b : Nat} {σ : L2.St}
variable {a dd : Addr} {cl : Str} {i j n : Nat} {fvs : List (Str × V)} {fs : Fs} {ki : Str → Str → Option Bool}
end
end Gp
end
section
set_option Elab.async false
set_option linter.all false
set_option maxRecDepth 100000
set_option maxHeartbeats 4000000
namespace Gp
open PySem PySem.Spec PyProof.Rows L2 Gh
def isS {α : Type} (x : D) (k : Str → Tr α) : Tr α := match x with
  | .str a => k a
  | _ => .bad
theorem isS_str {α : Type} (a : Str) (k : Str → Tr α) : isS (.str a) k = k a := rfl
def splitD (x y : D) : Tr D := match x, y with
  | .str a, .str b => if (b.length == 0) = false ∧ a.length + 2 ≤ sizeLine ∧ (Txt.split a b).length ≤ sizeLine ∧ (∀ w ∈ Txt.split a b, w.length ≤ sizeLine) then .ok (.lst ((Txt.split a b).map D.str)) else .bad
  | _, _ => .bad
def joinS (b : Str) (o : Option (List Str)) : Tr D := match o with
  | some l => if (l.map (·.length)).sum + l.length * b.length ≤ 16777216 ∧ (Txt.join b l).length ≤ sizeLine then .ok (.str (Txt.join b l)) else .bad
  | none => .bad
def joinD (x y : D) : Tr D := match x, y with
  | .str b, .lst ds => joinS b (strsD ds)
  | .str b, .tup ds => joinS b (strsD ds)
  | _, _ => .bad
section
variable {g : Gw} {U : Addr → Prop} {H : Hp} {b : Nat} {E : XK} {Q : VK} {ε : Env} {to te : TE} {mo me : Tr D}
theorem denL_strs : ∀ (l : List Str), (∀ w ∈ l, w.length ≤ sizeLine) → DenL g U H (l.map V.str) (l.map D.str)
  | [], _ => .nil
  | a :: r, h => .cons (.str a (h a List.mem_cons_self)) (denL_strs r fun w hw => h w (List.mem_cons_of_mem _ hw))
theorem al_isS {α : Type} {P : α → Nat → Prop} {X : Str → Fs → Nat → Prop} {x : D} {k : Str → Tr α} (h : Al P X (isS x k) b) : ∃ a, x = .str a ∧ Al P X (k a) b := by
  cases x with
  | str a => exact ⟨a, rfl, h⟩
  | _ => exact h.elim
theorem se_split (ho : SE g E ε to mo) (he : SE g E ε te me) : SE g E ε (tM1 (fun x xs H Q => ∃ a b, x = .str a ∧ xs = [.str b] ∧ (b.length == 0) = false ∧ a.length + 2 ≤ sizeLine ∧ rNewStrs (Txt.split a b) H Q) to te) (bd mo fun x => isS x fun _ => bd me fun y => splitD x y) := fun U σ H b Q R W u q =>
  ho.step R W u q fun v x H1 b1 d1 w1 f1 R1 u1 q1 => by
    obtain ⟨a, rfl, q2⟩ := al_isS q1
    cases d1 with
    | str _ hla =>
      refine ⟨⟨a, rfl⟩, he.step R1 w1 u1 q2 fun v2 y H2 b2 d2 w2 f2 R2 u2 q3 => ?_⟩
      cases y with
      | str c =>
        cases d2 with
        | str _ hlc =>
          change Al _ _ (if _ then _ else _) b2 at q3
          split at q3
          · rename_i z
            refine ⟨a, c, rfl, rfl, z.1, z.2.1, fun p np => ?_⟩
            have s := same_new (o := .lst ((Txt.split a c).map V.str)) np
            exact q3 _ _ (.lst upd_same (u2.new np) (by rw [List.length_map]; exact z.2.2.1) ((denL_strs _ z.2.2.2))) (w2.same s) ((f1.trans f2).trans (fr_same s))
          · exact q3.elim
      | _ => exact q3.elim
theorem se_join (ho : SE g E ε to mo) (he : SE g E ε te me) : SE g E ε (tM1 (fun x xs H Q => ∃ a p, ∃ ys : List Str, x = .str a ∧ xs = [.ref p] ∧ (SqL g.K H p (ys.map V.str) ∨ SqT g.K H p (ys.map V.str)) ∧
      (ys.map (·.length)).sum + ys.length * a.length ≤ 16777216 ∧ Q (.str (Txt.join a ys)) H) to te) (bd mo fun x => isS x fun _ => bd me fun y => joinD x y) := fun U σ H b Q R W u q =>
  ho.step R W u q fun v x H1 b1 d1 w1 f1 R1 u1 q1 => by
    obtain ⟨a, rfl, q2⟩ := al_isS q1
    cases d1 with
    | str _ hla =>
      refine ⟨⟨a, rfl⟩, he.step R1 w1 u1 q2 fun v2 y H2 b2 d2 w2 f2 R2 u2 q3 => ?_⟩
      have fin : ∀ {ds : List D} {vs : List V} {p : Addr}, DenL g U H2 vs ds → (SqL g.K H2 p vs ∨ SqT g.K H2 p vs) → Al (okP g U H Q) (exP g U E H2) (joinS a (strsD ds)) b2 → ∃ a' p', ∃ ys : List Str, V.str a = .str a' ∧ [V.ref p] = [.ref p'] ∧ (SqL g.K H2 p' (ys.map V.str) ∨ SqT g.K H2 p' (ys.map V.str)) ∧ (ys.map (·.length)).sum + ys.length * a'.length ≤ 16777216 ∧ Q (.str (Txt.join a' ys)) H2 := fun {ds vs p} dl sq q => by
        cases e : strsD ds with
        | none => rw [e] at q; exact q.elim
        | some l =>
          rw [e] at q
          change Al _ _ (if _ then _ else _) b2 at q
          split at q
          · rename_i z
            have ev := strs_den dl e
            subst ev
            exact ⟨a, p, l, rfl, rfl, sq, z.1, q _ H2 (.str _ z.2) w2 (f1.trans f2)⟩
          · exact q.elim
      cases y with
      | lst ds =>
        obtain ⟨p, vs, rfl, h, n, l, k⟩ := den_lst d2
        exact fin k (.inl (SqL.of h)) q3
      | tup ds =>
        obtain ⟨p, vs, rfl, h, l, k⟩ := den_tup d2
        exact fin k (.inr h) q3
      | _ => exact q3.elim
end
section
variable {X : Cx} {e f : Expr} {te tf : TE} {es : List Expr} {ta : TA} {pos p : Pos}
end
end Gp
end
section
set_option Elab.async false
set_option linter.all false
set_option maxRecDepth 100000
set_option maxHeartbeats 4000000
namespace Gp
open PySem PySem.Spec PyProof.Rows L2 Gh
def stL (n : Nat) (lo hi : Option Int) (st : Int) : List (Nat ⊕ Nat) := (sliceRange (sliceBounds lo hi (some st) n).1 (sliceBounds lo hi (some st) n).2.1 (sliceBounds lo hi (some st) n).2.2).map Sum.inl
def pickS {α : Type} (xs : List α) (lo hi : Option Int) (st : Int) : List α := picks (stL xs.length lo hi st) [] xs
def tSt (K : PySem.W.Frag) (st : Int) (te : TE) (tl th : TO) : TE := fun σ H Q => te σ H fun x H1 => tl σ H1 fun l H2 => th σ H2 fun u H3 => ∃ a xs, x = .ref a ∧ SqL K H3 a xs ∧ (pickS xs l u st).length ≤ sizeLine ∧ ∀ p, H3 p = none → Q (.ref p) (upd H3 p (.lst (pickS xs l u st)))
theorem slicePick_eq (its : List Value) (lo hi : Option Int) (st : Int) : slicePick its.toArray lo hi (some st) = (pickS its lo hi st).toArray := by
  unfold slicePick pickS stL picks
  rw [List.filterMap_map, List.size_toArray]
  congr 1
  refine congrFun (congrArg _ ?_) _
  funext i
  show its.toArray[i]? = its[i]?
  exact List.getElem?_toArray
theorem pe_st {X : Cx} {K : PySem.W.Frag} (hK : X.K = K) {e : Expr} {lo hi : Option Expr} {te : TE} {tl th : TO} {k : Nat} {j : Int} {p1 p2 pos : Pos} (h0 : j ≠ 0) (he : PE X e te) (hl : PO X lo tl) (hh : PO X hi th) : PE X (.Subscript e (.Slice lo hi (some (.Constant (.int j) k p1)) p2) pos) (tSt K j te tl th) := by
  subst hK
  refine ⟨fun pins s σ H Q I h => ?_⟩
  refine Subscript_ (thn (he.run pins s σ H _ I h) fun v s1 ⟨x, H1, I1, r1, q1⟩ => ?_)
  have hst : PO X (some (.Constant (.int j) k p1)) (tPart (tC (.int j))) := po_some pe_int
  refine wpAny_Slice (thn (hl.run pins s1 σ H1 _ I1 q1) fun vl s2 ⟨l, H2, I2, pl, q2⟩ => thn (hh.run pins s2 σ H2 _ I2 q2) fun vu s3 ⟨u, H3, I3, pu, q3⟩ => ?_)
  refine thn (hst.run pins s3 σ H3 (fun o H4 => o = some j ∧ H4 = H3) I3 ⟨j, rfl, rfl, rfl⟩) fun vs s4 ⟨o, H4, I4, ps, eo, e4⟩ => ?_
  subst eo e4
  obtain ⟨a, xs, ex, hx, hz2, q⟩ := q3
  subst ex
  cases r1
  have I5 : Inv X pins σ H4 { s4 with heap := s4.heap.push { cls := .type "slice", data := .fields #[vl, vu, vs] } } := I4.kept (t' := s4.toks) fun b ob q => Heap.get?_push_of_some _ q
  obtain ⟨its, r, ht, hz⟩ := I5.list hx
  have hlen := r.length
  show wpAny (model X.prog X.w) X.A (subscriptTail e (.Slice lo hi (some (.Constant (.int j) k p1)) p2) (.ref a) (.ref s4.heap.objs.size)) (EP X pins σ Q) X.xe { s4 with heap := s4.heap.push { cls := .type "slice", data := .fields #[vl, vu, vs] } }
  refine tail_any (ops := [.ref a, .ref s4.heap.objs.size]) ht.isList.typeIs (PySem.slot_list_getitem.lookup) ?_ (by with_unfolding_all rfl)
  refine wpAny_getItem_list_slice ht.isList (Heap.IsSliceOf.new _ vl vu vs) pl pu ps (by intro z; exact h0 (Option.some.inj z)) ?_ (by rw [List.size_toArray]; omega)
  rw [slicePick_eq]
  have rr : Vals (pickS xs l u j) (pickS its l u j) := by
    unfold pickS
    rw [hlen]
    exact picks_rel _ .nil r
  refine ⟨.ref _, _, I5.laid (t' := s4.toks) (o := .lst (pickS xs l u j)) (fun b ob q => Heap.get?_push_of_some _ q) (Nat.le_refl _) ?_, rfl, q _ (I5.hok.fresh (Nat.le_refl _))⟩
  exact ⟨hz2, _, 0, rr, Heap.get?_push_size _ rfl⟩
section
variable {g : Gw} {E : XK} {ε : Env} {te : TE} {me : Tr D} {tl th : TO} {ml mh : Tr (Option Int)}
def stepD (x : D) (lo hi : Option Int) (st : Int) : Tr D := match x with
  | .lst ds => if (pickS ds lo hi st).length ≤ sizeLine then .ok (.lst (pickS ds lo hi st)) else .bad
  | _ => .bad
theorem se_st {j : Int} (he : SE g E ε te me) (hl : SO g E ε tl ml) (hh : SO g E ε th mh) : SE g E ε (tSt g.K j te tl th) (bd me fun x => bd ml fun lo => bd mh fun hi => stepD x lo hi j) := fun U σ H b Q R W u q =>
  he.step R W u q fun v d H1 b1 d1 w1 f1 R1 u1 q1 => hl.step R1 w1 u1 q1 fun lo H2 b2 w2 f2 R2 u2 q2 => hh.step R2 w2 u2 q2 fun hi H3 b3 w3 f3 R3 u3 q3 => by
    have d3 := d1.fr u1 (f2.trans f3)
    have q4 := q3.mono (P' := okP g U H3 Q) (fun _ _ h => okP.fr ((f1.trans f2).trans f3) h) (fun _ _ _ h => h)
    cases d with
    | lst ds =>
      obtain ⟨p, vs, rfl, h, n, l, k⟩ := den_lst d3
      unfold stepD at q4
      dsimp only at q4
      have kp : DenL g U H3 (pickS vs lo hi j) (pickS ds lo hi j) := by
        unfold pickS
        rw [k.length]
        exact denL_picks _ .nil k
      split at q4
      · rename_i hz
        have hz' : (pickS vs lo hi j).length ≤ sizeLine := by rw [kp.length]; exact hz
        exact ⟨p, vs, rfl, SqL.of h, hz', new_lst q4 w3 u3 hz' kp⟩
      · exact q4.elim
    | _ => exact q3.elim
end
end Gp
end
section
set_option Elab.async false
set_option linter.all false
set_option maxRecDepth 100000
set_option maxHeartbeats 4000000
namespace PySem.W
open Lean Elab Tactic Meta PySem PySem.Calls PyProof.Rows
section
variable {prog : Program} {w : World} {A : Around} {E : Value → Shared → Prop} {s : Shared} {K : Frag} {x C L f g : Addr} {h₀ : Heap} {m : Str → Option Value} {ox : Obj} {od : Option Obj}
theorem gh_try_add {k : Int} {t : Tok} {Q : Option Value → Shared → Prop} (hx : s.heap.get? x = some ox) (hd : ox.data = .plain) (h : Q none s) : wpAny (model prog w) A (tryMethod (.int k t) "__add__" (.ref x)) Q E s := by
  unfold tryMethod
  refine wpAny_bind (wpAny_callSpecial?_slot (typeIs_int s k t) F.slot_int_add (wpAny_call_entry F.slot_int_add (typeIs_int s k t) F.entry_int_add ?_ (F.args_int_add_2 _ _)))
  obtain ⟨hp, g, d, tk, os⟩ := s
  wp_walk using AutoSeq1.wpAny_loadPart' hx
  rw [hd]
  refine wpAny_pure ?_
  wp_walk
  exact ⟨_, rfl, wpAny_pure h⟩
theorem gh_radd {k : Int} {t : Tok} {Q : Value → Shared → Prop} (F' : Fr h₀ L s.heap m) (X₀ : K.In h₀) (I : InstAt s.heap x ox C od) (hd : ox.data = .plain) (hc : selfFirst K C = true) (hs : findIn K (.ref C) (PySem.dunder "add") = some (some (.ref f)))
    (hr : findIn K (.ref C) (dunderR "add") = some (some (.ref g))) (hf : isFn K (.ref g) = true) (hsub : subIn K (.ref C) (.type "int") = some false)
    (h : wpAny (model prog w) A (call (.ref g) [.ref x, .int k t]) (CmpBack Q) E s) : wpAny (model prog w) A (binaryOp .Add (.int k t) (.ref x)) Q E s := by
  have X := X₀.keeps F'.keep
  obtain ⟨cd, rest, hcd, hm⟩ := ksp_first hc
  have one := ksp_try X I hr hf h
  have zero : wpAny (model prog w) A (tryMethod (.int k t) (PySem.dunder "add") (.ref x)) (fun r s' => r = none ∧ s' = s) E s := gh_try_add I.at_ hd ⟨rfl, rfl⟩
  obtain ⟨hh, gg, d, tt, os⟩ := s
  have L1 : Looks (model prog w) hh (typeOf (.int k t)) (.type "int") := Looks.of_pure rfl
  have L2 : Looks (model prog w) hh (typeOf (.ref x)) (.ref C) := I.type
  have L3 : Looks (model prog w) hh (fillsNumberSlot (.type "int") "add") true := Looks.of_pure F.fills_int_add
  have L4 : Looks (model prog w) hh (fillsNumberSlot (.ref C) "add") true := fills_K X hcd hm hs
  have L5 : Looks (model prog w) hh (isSubtype (.ref C) (.type "int")) false := looks_subIn X hsub
  have L7 : Looks (model prog w) hh (numberSlotInPython (.type "int") "add") false := Looks.of_pure rfl
  have hne : (Value.type "int" == Value.ref C) = false := Bool.eq_false_iff.mpr fun q => by cases beq_iff_eq.mp q
  have hi : (Operator.Add).info = ("+", "add") := rfl
  simp only [binaryOp, hi]
  refine wpAny_holding (wpAny_bind ?_)
  unfold binaryOp1
  refine wpAny_bind (L1.at (wpAny_bind (L2.at (wpAny_bind (L3.at ?_)))))
  simp only [hne, Bool.false_eq_true, if_false]
  ksp_lk
  refine wpAny_mono zero (fun r s' hr' => ?_) fun _ _ e => e
  obtain ⟨rfl, rfl⟩ := hr'
  ksp_lk
  refine wpAny_mono one (fun r s' hr' => ?_) fun _ _ e => e
  obtain ⟨v, rfl, hq⟩ := hr'
  ksp_lk
  exact hq
end
end PySem.W
namespace Gp
open PySem PySem.Spec PyProof.Rows L2 Gh
theorem op_radd {X : Cx} {C f g : Addr} {r : List V → Hp → VK → Prop} (hc : PySem.W.selfFirst X.K C = true) (hs : PySem.W.findIn X.K (.ref C) "__add__" = some (some (.ref f))) (hr : PySem.W.findIn X.K (.ref C) "__radd__" = some (some (.ref g)))
    (hf : PySem.W.isFn X.K (.ref g) = true) (hsub : PySem.W.subIn X.K (.ref C) (.type "int") = some false) (R : CallR X (.ref g) r) : OpR X (binaryOp .Add) (rRmul C r) := by
  intro pins s σ H x y v u Q I rx ry h
  unfold rRmul at h
  obtain ⟨a, dx, fs, i, rfl, rfl, ha, q⟩ := h
  cases (show u = Value.ref a from ry)
  obtain ⟨t, z⟩ := (show ∃ t, v = Value.int i t from rx)
  subst z
  obtain ⟨ox, od, J, hd⟩ := StX.insC_at I (.inr ⟨dx, fs, ha⟩)
  obtain ⟨m, hF⟩ := I.fr
  refine PySem.W.gh_radd hF I.ok.mod.kin J hd hc hs hr hf hsub ?_
  exact wpAny_mono (R pins s σ H [.ref a, .int i] [.ref a, .int i t] Q I (.cons rfl (.cons ⟨t, rfl⟩ .nil)) q) (fun w s' z => cmp_back z) fun _ _ x => x
def binR (c : Str) (F : List D → Tr D) (x y : D) : Tr D := match x with
  | .int _ => isO c y fun _ => F [y, x]
  | _ => .bad
section
variable {g : Gw} {E : XK}
theorem sr_binR {c : Str} {r : List V → Hp → VK → Prop} {F : List D → Tr D} (hr : SRL g E r F) : SR2 g E (rRmul (gd c g.K) r) (binR c F) := fun U H b x y dx dy Q d1 d2 w u q => by
  unfold binR at q
  split at q
  · obtain ⟨fs, rfl, q1⟩ := al_isO q
    obtain ⟨a, da, fa, rfl, ea, _, _⟩ := den_obj d2
    have d1' := d1
    cases den_int d1
    unfold rRmul
    exact ⟨a, _, _, _, rfl, rfl, ea, hr U H b _ _ Q (.cons d2 (.cons d1' .nil)) w u q1⟩
  · exact q.elim
end
end Gp
end
section
set_option Elab.async false
set_option linter.all false
set_option maxRecDepth 100000
set_option maxHeartbeats 4000000
namespace Gp
open PySem PySem.Spec PyProof.Rows L2 Gh
section
variable {g : Gw} {E : XK} {ε : Env} {U : Addr → Prop} {H : Hp} {b : Nat} {W L : Type} {tb : TS} {env : W → Env} {envL : L → Env}
def un4 {α : Type} (d : D) (k : D → D → D → D → Tr α) : Tr α := match d with
  | .tup [x, y, z, w] => k x y z w
  | _ => .bad
theorem al_un4 {α : Type} {P : α → Nat → Prop} {X : Str → Fs → Nat → Prop} {d : D} {k : D → D → D → D → Tr α} (h : Al P X (un4 d k) b) : ∃ x y z w, d = .tup [x, y, z, w] ∧ Al P X (k x y z w) b := by
  unfold un4 at h
  split at h
  · exact ⟨_, _, _, _, rfl, h⟩
  · exact h.elim
theorem denL_4 {vs : List V} {x y z w : D} (h : DenL g U H vs [x, y, z, w]) : ∃ a c t u, vs = [a, c, t, u] ∧ Den g U H a x ∧ Den g U H c y ∧ Den g U H t z ∧ Den g U H u w := by
  obtain ⟨v, r, rfl, h1, h2⟩ := denL_cons h
  obtain ⟨c, t, u, rfl, h3, h4, h5⟩ := denL_3 h2
  exact ⟨v, c, t, u, rfl, h1, h3, h4, h5⟩
theorem sx_tup4 {i j l n : Nat} {d : D} {m : D → D → D → D → Tr (Fl W L)} (h : ∀ x y z w, SS g E ((((ε.set i (.fz x)).set j (.fz y)).set l (.fz z)).set n (.fz w)) tb env envL (m x y z w)) : SX g E ε d (gTup g.K 4 (gCons (gName i) (gCons (gName j) (gCons (gName l) (gCons (gName n) gNil))))) tb env envL (un4 d m) := fun Mt U0 H0 U D σ H b v s dn q => by
  obtain ⟨x, y, z, w, rfl, q1⟩ := al_un4 q
  obtain ⟨a, vs, rfl, sq, _, k⟩ := den_tup dn
  obtain ⟨v1, v2, v3, v4, rfl, e1, e2, e3, e4⟩ := denL_4 k
  exact ⟨a, [v1, v2, v3, v4], rfl, sq, rfl, v1, [v2, v3, v4], rfl, v2, [v3, v4], rfl, v3, [v4], rfl, v4, [], rfl, rfl, h x y z w Mt U0 H0 U D _ H b ((((s.set i e1).set j e2).set l e3).set n e4) q1⟩
end
end Gp
end
section
set_option Elab.async false
set_option linter.all false
set_option maxRecDepth 100000
set_option maxHeartbeats 4000000
namespace Gp
open PySem PySem.Spec PyProof.Rows L2 Gh
section
variable {g : Gw} {E : XK} {ε : Env}
theorem se_prX {c : Str} {F : List D → Tr D} {ta : TE} {ma : Tr D} (ha : SE g E ε ta ma) : SE g E ε (tPr (gd c g.K) (spF g.K g.T F) [] EF ta) (bd ma fun o => isO c o fun _ => nox (F [o])) := fun U σ H b Q R W u q =>
  ha.step R W u q fun v d H1 b1 d1 w1 f1 R1 u1 q1 => by
    obtain ⟨fs, rfl, q2⟩ := al_isO q1
    obtain ⟨a, dx, fvs, rfl, ea, na, df⟩ := den_obj d1
    exact ⟨a, dx, fvs, rfl, ea, g.p, g.c, U, [.obj c fs], b1, .cons d1 .nil, w1, u1, (al_nox (E' := fun _ _ _ => False) q2).mono (fun _ _ h => h.fr f1) (fun _ _ _ h => h.elim)⟩
end
end Gp
end
section
set_option Elab.async false
set_option linter.all false
set_option maxRecDepth 100000
set_option maxHeartbeats 0
namespace Lw
open PySem PySem.Spec PyProof.Rows L2 Gh Gp
theorem ob_eq (s : PySem.W.SharedT) : ob s = hk.obs s.abs := Gp.obsL_eq (HandSHeadRun.getT_eq s)
structure Tx (K : PySem.W.Frag) (mg : Str → Option Value) : Prop where
  f_abs : mg "abs" = none
  f_all : mg "all" = none
  f_bool : mg "bool" = none
  f_int : mg "int" = none
  f_isinstance : mg "isinstance" = none
  f_len : mg "len" = none
  f_list : mg "list" = none
  f_range : mg "range" = none
  f_str : mg "str" = none
  g__law_pen : mg "_law_pen" = some (.ref (gd "_law_pen" K))
  k__law_pen : PySem.W.keepIn K (.ref (gd "_law_pen" K)) = true
  g__law_draw : mg "_law_draw" = some (.ref (gd "_law_draw" K))
  k__law_draw : PySem.W.keepIn K (.ref (gd "_law_draw" K)) = true
  g_is_integer : mg "is_integer" = some (.ref (gd "is_integer" K))
  k_is_integer : PySem.W.keepIn K (.ref (gd "is_integer" K)) = true
  g_is_within : mg "is_within" = some (.ref (gd "is_within" K))
  k_is_within : PySem.W.keepIn K (.ref (gd "is_within" K)) = true
  g_number_in : mg "number_in" = some (.ref (gd "number_in" K))
  k_number_in : PySem.W.keepIn K (.ref (gd "number_in" K)) = true
  g_are_parts : mg "are_parts" = some (.ref (gd "are_parts" K))
  k_are_parts : PySem.W.keepIn K (.ref (gd "are_parts" K)) = true
  g__law_pick : mg "_law_pick" = some (.ref (gd "_law_pick" K))
  k__law_pick : PySem.W.keepIn K (.ref (gd "_law_pick" K)) = true
  g__law_heard : mg "_law_heard" = some (.ref (gd "_law_heard" K))
  k__law_heard : PySem.W.keepIn K (.ref (gd "_law_heard" K)) = true
  g__law_part : mg "_law_part" = some (.ref (gd "_law_part" K))
  k__law_part : PySem.W.keepIn K (.ref (gd "_law_part" K)) = true
  g__law_fault : mg "_law_fault" = some (.ref (gd "_law_fault" K))
  k__law_fault : PySem.W.keepIn K (.ref (gd "_law_fault" K)) = true
  g__law_told : mg "_law_told" = some (.ref (gd "_law_told" K))
  k__law_told : PySem.W.keepIn K (.ref (gd "_law_told" K)) = true
  g__law_text : mg "_law_text" = some (.ref (gd "_law_text" K))
  k__law_text : PySem.W.keepIn K (.ref (gd "_law_text" K)) = true
  g__law_joined_right : mg "_law_joined_right" = some (.ref (gd "_law_joined_right" K))
  k__law_joined_right : PySem.W.keepIn K (.ref (gd "_law_joined_right" K)) = true
  g__law_read_right : mg "_law_read_right" = some (.ref (gd "_law_read_right" K))
  k__law_read_right : PySem.W.keepIn K (.ref (gd "_law_read_right" K)) = true
  g_BadSpan : mg "BadSpan" = some (.ref (gd "BadSpan" K))
  k_BadSpan : PySem.W.keepIn K (.ref (gd "BadSpan" K)) = true
  g_BadText : mg "BadText" = some (.ref (gd "BadText" K))
  k_BadText : PySem.W.keepIn K (.ref (gd "BadText" K)) = true
  g_Span : mg "Span" = some (.ref (gd "Span" K))
  k_Span : PySem.W.keepIn K (.ref (gd "Span" K)) = true
  g_HuntError : mg "HuntError" = some (.ref (gd "HuntError" K))
  k_HuntError : PySem.W.keepIn K (.ref (gd "HuntError" K)) = true
  m_MOST_HALVES : ∃ t, mg "MOST_HALVES" = some (.int 8 t)
  m_MOST_MORE : ∃ t, mg "MOST_MORE" = some (.int 60 t)
  m_MOST_ODD : ∃ t, mg "MOST_ODD" = some (.int 9 t)
  m_MOST_WHOLE : ∃ t, mg "MOST_WHOLE" = some (.int 4 t)
  n_BadSpan_part : NoAttr K (gd "BadSpan" K) "part"
  er_BadSpan : ErrT K (gd "BadSpan" K)
  ox_BadSpan : OexC K (gd "BadSpan" K)
  in_BadSpan : IniT K (gd "BadSpan" K) (md "BadSpan" "__init__" K)
  xh_BadSpan : PySem.W.exmOne K (.ref (gd "BadSpan" K)) (.ref (gd "HuntError" K)) = some true
  n_BadText_line : NoAttr K (gd "BadText" K) "line"
  n_BadText_word : NoAttr K (gd "BadText" K) "word"
  er_BadText : ErrT K (gd "BadText" K)
  ox_BadText : OexC K (gd "BadText" K)
  in_BadText : IniT K (gd "BadText" K) (md "BadText" "__init__" K)
  xh_BadText : PySem.W.exmOne K (.ref (gd "BadText" K)) (.ref (gd "HuntError" K)) = some true
  cl_Span : Cls K (gd "Span" K)
  ty_Span : InsT K (gd "Span" K)
  n_Span_own_parts : NoAttr K (gd "Span" K) "own_parts"
  mk_Span : Mk K (gd "Span" K) (md "Span" "__init__" K)
  st_Span_whole : StaT K (gd "Span" K) "whole" (He.ma K (He.ga K "Span") "whole") (staG "Span" "whole" K)
  pr_Span_halves : PropOf K (gd "Span" K) "halves" (He.ma K (He.ga K "Span") "halves") (propG "Span" "halves" K)
  pr_Span_more : PropOf K (gd "Span" K) "more" (He.ma K (He.ga K "Span") "more") (propG "Span" "more" K)
  pr_Span_odd : PropOf K (gd "Span" K) "odd" (He.ma K (He.ga K "Span") "odd") (propG "Span" "odd" K)
  mt_Span___eq__ : Meth K (gd "Span" K) "__eq__" (md "Span" "__eq__" K)
  ow_Span : OwnT K (gd "Span" K)
  mt_Span___str__ : Meth K (gd "Span" K) "__str__" (md "Span" "__str__" K)
  mt_Span_plus : Meth K (gd "Span" K) "plus" (md "Span" "plus" K)
  mt_Span___add__ : Meth K (gd "Span" K) "__add__" (md "Span" "__add__" K)
  op_Span_Add : OpT K (gd "Span" K) .Add
  mt_Span___radd__ : Meth K (gd "Span" K) "__radd__" (md "Span" "__radd__" K)
  mt_Span___sub__ : Meth K (gd "Span" K) "__sub__" (md "Span" "__sub__" K)
  op_Span_Sub : OpT K (gd "Span" K) .Sub
  mt_Span___mul__ : Meth K (gd "Span" K) "__mul__" (md "Span" "__mul__" K)
  op_Span_Mult : OpT K (gd "Span" K) .Mult
  mt_Span___rmul__ : Meth K (gd "Span" K) "__rmul__" (md "Span" "__rmul__" K)
  cv_Span_MOST : CvT K (gd "Span" K) "MOST" (.int 60)
  cm_Span_read : ClmT K (gd "Span" K) "read" (He.ma K (He.ga K "Span") "read") (clsG "Span" "read" K)
  si_Span : PySem.W.subIn K (.ref (gd "Span" K)) (.type "int") = some false
  tn__law_joined_right__law_read_right : (He.cT K ("_law_joined_right", none)).2 ≠ (He.cT K ("_law_read_right", none)).2
  tn__law_joined_right_law : (He.cT K ("_law_joined_right", none)).2 ≠ (He.cT K ("law", none)).2
  tn__law_read_right_law : (He.cT K ("_law_read_right", none)).2 ≠ (He.cT K ("law", none)).2
  ki_BadSpan_BadSpan : PySem.W.kitOne K (.ref (gd "BadSpan" K)) (.ref (gd "BadSpan" K)) = some true
  ki_BadText_BadSpan : PySem.W.kitOne K (.ref (gd "BadText" K)) (.ref (gd "BadSpan" K)) = some false
  ki_BadSpan_BadText : PySem.W.kitOne K (.ref (gd "BadSpan" K)) (.ref (gd "BadText" K)) = some false
  ki_BadText_BadText : PySem.W.kitOne K (.ref (gd "BadText" K)) (.ref (gd "BadText" K)) = some true
  nf_Span : NfT K (gd "Span" K)
  ne_Span : NeT K (gd "Span" K)
  nf_Span_Span : PySem.W.notFirst K (gd "Span" K) (.ref (gd "Span" K)) = true
theorem tx_of {K : PySem.W.Frag} {h : Heap} {mg : Str → Option Value} (X : K.In h) (G : h.Ns mainGlobals mg) (c : Says exs fns K) : Tx K mg :=
  ⟨(He.free_ok X G (c.fact 0 rfl)), (He.free_ok X G (c.fact 1 rfl)), (He.free_ok X G (c.fact 2 rfl)), (He.free_ok X G (c.fact 3 rfl)), (He.free_ok X G (c.fact 4 rfl)), (He.free_ok X G (c.fact 5 rfl)), (He.free_ok X G (c.fact 6 rfl)), (He.free_ok X G (c.fact 7 rfl)), (He.free_ok X G (c.fact 8 rfl)), (He.glo_ok X G (c.fact 9 rfl)), ((c.fact 10 rfl)), (He.glo_ok X G (c.fact 11 rfl)), ((c.fact 12 rfl)), (He.glo_ok X G (c.fact 13 rfl)), ((c.fact 14 rfl)), (He.glo_ok X G (c.fact 15 rfl)), ((c.fact 16 rfl)), (He.glo_ok X G (c.fact 17 rfl)), ((c.fact 18 rfl)), (He.glo_ok X G (c.fact 19 rfl)), ((c.fact 20 rfl)), (He.glo_ok X G (c.fact 21 rfl)), ((c.fact 22 rfl)), (He.glo_ok X G (c.fact 23 rfl)), ((c.fact 24 rfl)), (He.glo_ok X G (c.fact 25 rfl)), ((c.fact 26 rfl)), (He.glo_ok X G (c.fact 27 rfl)), ((c.fact 28 rfl)), (He.glo_ok X G (c.fact 29 rfl)), ((c.fact 30 rfl)), (He.glo_ok X G (c.fact 31 rfl)), ((c.fact 32 rfl)), (He.glo_ok X G (c.fact 33 rfl)), ((c.fact 34 rfl)), (He.glo_ok X G (c.fact 35 rfl)), ((c.fact 36 rfl)), (He.glo_ok X G (c.fact 37 rfl)), ((c.fact 38 rfl)), (He.glo_ok X G (c.fact 39 rfl)), ((c.fact 40 rfl)), (He.glo_ok X G (c.fact 41 rfl)), ((c.fact 42 rfl)), (He.glo_ok X G (c.fact 43 rfl)), ((c.fact 44 rfl)), (He.int_ok X G (c.fact 45 rfl)), (He.int_ok X G (c.fact 46 rfl)), (He.int_ok X G (c.fact 47 rfl)), (He.int_ok X G (c.fact 48 rfl)), (He.eqO_ok (c.fact 49 rfl)), (errB_ok (c.fact 50 rfl)), (oexB_ok (c.fact 51 rfl)), (iniB_ok (c.fact 52 rfl)), (of_decide_eq_true (c.fact 53 rfl)), (He.eqO_ok (c.fact 54 rfl)), (He.eqO_ok (c.fact 55 rfl)), (errB_ok (c.fact 56 rfl)), (oexB_ok (c.fact 57 rfl)), (iniB_ok (c.fact 58 rfl)), (of_decide_eq_true (c.fact 59 rfl)), (He.cls_ok (c.fact 60 rfl)), (insB_ok (c.fact 61 rfl)), (He.eqO_ok (c.fact 62 rfl)), (He.mkr_ok (c.fact 63 rfl)), (staB_ok (c.fact 64 rfl)), (propB_ok (c.fact 65 rfl)), (propB_ok (c.fact 66 rfl)), (propB_ok (c.fact 67 rfl)), (He.meth_ok (c.fact 68 rfl)), (ownB_ok (c.fact 69 rfl)), (He.meth_ok (c.fact 70 rfl)), (He.meth_ok (c.fact 71 rfl)), (He.meth_ok (c.fact 72 rfl)), (opB_ok (c.fact 73 rfl)), (He.meth_ok (c.fact 74 rfl)), (He.meth_ok (c.fact 75 rfl)), (opB_ok (c.fact 76 rfl)), (He.meth_ok (c.fact 77 rfl)), (opB_ok (c.fact 78 rfl)), (He.meth_ok (c.fact 79 rfl)), (cvB_ok (c.fact 80 rfl)), (clmB_ok (c.fact 81 rfl)), (of_decide_eq_true (c.fact 82 rfl)), (of_decide_eq_true (c.fact 83 rfl)), (of_decide_eq_true (c.fact 84 rfl)), (of_decide_eq_true (c.fact 85 rfl)), (of_decide_eq_true (c.fact 86 rfl)), (of_decide_eq_true (c.fact 87 rfl)), (of_decide_eq_true (c.fact 88 rfl)), (of_decide_eq_true (c.fact 89 rfl)), (nfB_ok (c.fact 90 rfl)), (neB_ok (c.fact 91 rfl)), ((c.fact 92 rfl))⟩
section
variable {K : PySem.W.Frag} {mg : Str → Option Value} {Tb : List (Addr × Str)} {p c : Addr}
theorem xt_line (T : Tx K mg) : ∀ c ∈ (["BadText"] : List Str), ErrT K (gd c K) ∧ PySem.W.findIn K (.ref (gd c K)) "line" = some none := by
  intro c h
  simp only [List.mem_cons, List.mem_nil_iff, or_false] at h
  rcases h with rfl
  · exact ⟨T.er_BadText, T.n_BadText_line⟩
theorem xt_part (T : Tx K mg) : ∀ c ∈ (["BadSpan"] : List Str), ErrT K (gd c K) ∧ PySem.W.findIn K (.ref (gd c K)) "part" = some none := by
  intro c h
  simp only [List.mem_cons, List.mem_nil_iff, or_false] at h
  rcases h with rfl
  · exact ⟨T.er_BadSpan, T.n_BadSpan_part⟩
theorem xt_word (T : Tx K mg) : ∀ c ∈ (["BadText"] : List Str), ErrT K (gd c K) ∧ PySem.W.findIn K (.ref (gd c K)) "word" = some none := by
  intro c h
  simp only [List.mem_cons, List.mem_nil_iff, or_false] at h
  rcases h with rfl
  · exact ⟨T.er_BadText, T.n_BadText_word⟩
def isi_int : D → Option Bool := isF (fun n => kitB n "int") [("Span", false)] []
theorem isT_int (T : Tx K mg) : IsT ⟨K, Tb, p, c⟩ (.type "int") isi_int := isT_of (fun n k h => kit_ty h) (fun c k h => (look_cons h).elim (fun e => by obtain ⟨rfl, rfl⟩ := e; exact ⟨T.cl_Span, T.ty_Span, T.ty_Span.out _ (by decide)⟩) (fun h => nomatch h)) (fun c k h => nomatch h)
def isi_bool : D → Option Bool := isF (fun n => kitB n "bool") [("Span", false)] []
theorem isT_bool (T : Tx K mg) : IsT ⟨K, Tb, p, c⟩ (.type "bool") isi_bool := isT_of (fun n k h => kit_ty h) (fun c k h => (look_cons h).elim (fun e => by obtain ⟨rfl, rfl⟩ := e; exact ⟨T.cl_Span, T.ty_Span, T.ty_Span.out _ (by decide)⟩) (fun h => nomatch h)) (fun c k h => nomatch h)
def isi_Span : D → Option Bool := isF (fun n => if n ∈ (["NoneType", "bool", "int", "str", "list", "tuple", "dict"] : List String) then some false else none) [("Span", true)] []
theorem isT_Span (T : Tx K mg) : IsT ⟨K, Tb, p, c⟩ (.ref (gd "Span" K)) isi_Span := isT_of (fun n k h => by
  split at h
  · rename_i z
    cases h
    exact T.ty_Span.no n z
  · cases h) (fun c k h => (look_cons h).elim (fun e => by obtain ⟨rfl, rfl⟩ := e; exact ⟨T.cl_Span, T.ty_Span, T.ty_Span.yes⟩) (fun h => nomatch h)) (fun c k h => nomatch h)
def isi_str : D → Option Bool := isF (fun n => kitB n "str") [("Span", false)] []
theorem isT_str (T : Tx K mg) : IsT ⟨K, Tb, p, c⟩ (.type "str") isi_str := isT_of (fun n k h => kit_ty h) (fun c k h => (look_cons h).elim (fun e => by obtain ⟨rfl, rfl⟩ := e; exact ⟨T.cl_Span, T.ty_Span, T.ty_Span.out _ (by decide)⟩) (fun h => nomatch h)) (fun c k h => nomatch h)
def isi_BadSpan : D → Option Bool := isF (fun _ => none) [] [("BadSpan", true), ("BadText", false)]
theorem isT_BadSpan (T : Tx K mg) : IsT ⟨K, Tb, p, c⟩ (.ref (gd "BadSpan" K)) isi_BadSpan := isT_of (fun n k h => nomatch h) (fun c k h => nomatch h) (fun c k h => (look_cons h).elim (fun e => by obtain ⟨rfl, rfl⟩ := e; exact ⟨T.er_BadSpan, T.ki_BadSpan_BadSpan⟩) (fun h => (look_cons h).elim (fun e => by obtain ⟨rfl, rfl⟩ := e; exact ⟨T.er_BadText, T.ki_BadText_BadSpan⟩) (fun h => nomatch h)))
def isi_BadText : D → Option Bool := isF (fun _ => none) [] [("BadSpan", false), ("BadText", true)]
theorem isT_BadText (T : Tx K mg) : IsT ⟨K, Tb, p, c⟩ (.ref (gd "BadText" K)) isi_BadText := isT_of (fun n k h => nomatch h) (fun c k h => nomatch h) (fun c k h => (look_cons h).elim (fun e => by obtain ⟨rfl, rfl⟩ := e; exact ⟨T.er_BadSpan, T.ki_BadSpan_BadText⟩) (fun h => (look_cons h).elim (fun e => by obtain ⟨rfl, rfl⟩ := e; exact ⟨T.er_BadText, T.ki_BadText_BadText⟩) (fun h => nomatch h)))
def eqr_Span : D → Bool := eqF0 ["Span"]
theorem eqR_Span (T : Tx K mg) : EqR ⟨K, Tb, p, c⟩ "Span" eqr_Span := eqR_of (fun n hn => T.nf_Span.ok n hn) (fun c h => by
  simp only [List.mem_cons, List.mem_nil_iff, or_false] at h
  rcases h with rfl
  · exact ⟨T.cl_Span, T.ty_Span, T.nf_Span_Span⟩)
end
end Lw
end
section
set_option Elab.async false
set_option linter.all false
set_option maxRecDepth 100000
set_option maxHeartbeats 4000000
set_option pp.maxSteps 600
namespace Lw
open PySem PySem.Spec PyProof.Rows L2 Gh
local macro_rules | `(tactic| nofun) => `(tactic| (first | assumption | exact Ne.symm (by assumption) | (apply nw_pen'; (· assumption); (· assumption); (· ac_rfl)) | (apply Ne.symm; apply nw_pen'; (· assumption); (· assumption); (· ac_rfl)) | (apply nw_cell'; (· assumption); (· assumption); (· ac_rfl)) | (apply Ne.symm; apply nw_cell'; (· assumption); (· assumption); (· ac_rfl)) | (apply none_pen'; (· assumption); (· assumption); (· ac_rfl)) | (apply Ne.symm; apply none_pen'; (· assumption); (· assumption); (· ac_rfl)) | (apply none_cell'; (· assumption); (· assumption); (· ac_rfl)) | (apply Ne.symm; apply none_cell'; (· assumption); (· assumption); (· ac_rfl)) | (apply tup_pen'; (· assumption); (· assumption); (· ac_rfl)) | (apply Ne.symm; apply tup_pen'; (· assumption); (· assumption); (· ac_rfl)) | (apply tup_cell'; (· assumption); (· assumption); (· ac_rfl)) | (apply Ne.symm; apply tup_cell'; (· assumption); (· assumption); (· ac_rfl)) | (apply ins_pen'; (· assumption); (· assumption); (· ac_rfl)) | (apply Ne.symm; apply ins_pen'; (· assumption); (· assumption); (· ac_rfl)) | (apply ins_cell'; (· assumption); (· assumption); (· ac_rfl)) | (apply Ne.symm; apply ins_cell'; (· assumption); (· assumption); (· ac_rfl)) | (apply ins_lst; (· assumption); (· infer_instance)) | (apply Ne.symm; apply ins_lst; (· assumption); (· infer_instance)) | (apply ins_tup; (· assumption); (· infer_instance)) | (apply Ne.symm; apply ins_tup; (· assumption); (· infer_instance)) | (apply tup_lst; (· assumption); (· infer_instance)) | (apply Ne.symm; apply tup_lst; (· assumption); (· infer_instance)) | (apply nw_ne; (· assumption); (· infer_instance)) | (apply Ne.symm; apply nw_ne; (· assumption); (· infer_instance)) | (apply none_ne; (· assumption); (· infer_instance)) | (apply Ne.symm; apply none_ne; (· assumption); (· infer_instance))))
local macro_rules | `(tactic| ac_rfl) => `(tactic| ((repeat (first | assumption | (apply Pen.nw; (focus assumption)) | (apply Pen.same; (focus assumption)) | (apply Pen.mu; (focus assumption); (focus nofun); (focus nofun)) | (apply Pen.keep; (focus assumption); (focus nofun); (focus nofun)))); done))
local macro_rules | `(tactic| infer_instance) => `(tactic| ((repeat (first | assumption | (apply Nw.at_; assumption) | (apply Mu.at_; assumption) | (apply Nw.up; (focus assumption)) | (apply same_up; (focus assumption)) | (apply Mu.up; (focus assumption); (focus nofun)) | (apply keep_up; (focus assumption); (focus nofun)) | (apply keep2_up; (focus assumption); (focus nofun); (focus nofun)))); done))
local macro_rules | `(tactic| symm_saturate) => `(tactic| (repeat (first | with_reducible refine st_seq ?_ | with_reducible refine st_asg ?_ | with_reducible refine st_name ?_ | with_reducible refine st_ret ?_ | with_reducible refine st_drop ?_ | with_reducible refine st_ifS ?_ | with_reducible refine st_nx ?_ | with_reducible refine st_brk ?_ | with_reducible refine st_cnt ?_ | with_reducible refine st_c ?_ | with_reducible refine st_op ?_ | with_reducible refine st_un ?_ | with_reducible refine st_rI0 ?_ | with_reducible refine st_cons ?_ | with_reducible refine st_nil ?_ | with_reducible refine st_cl ?_ | with_reducible refine st_cb ?_ | with_reducible refine st_mt ?_ | with_reducible refine st_pr ?_ | with_reducible refine st_test ?_ | with_reducible refine st_ebl ?_ | with_reducible refine st_eint ?_ | with_reducible refine st_par ?_ | with_reducible refine st_par2 ?_ | with_reducible refine st_and ?_ | with_reducible refine st_or ?_ | with_reducible refine st_not ?_ | with_reducible refine st_andV ?_ | with_reducible refine st_orV ?_ | with_reducible refine st_notV ?_ | with_reducible refine st_ifE ?_ | with_reducible refine st_chain ?_ | with_reducible refine st_lst ?_ | with_reducible refine st_tup ?_ | with_reducible refine st_retN ?_ | with_reducible refine st_rU ?_ | with_reducible refine st_rAdd ?_ | with_reducible refine st_rSub ?_ | with_reducible refine st_isN ?_ | with_reducible refine st_notN ?_ | with_reducible refine st_sF ?_ | with_reducible refine st_int ?_ | with_reducible refine st_intB ?_ | with_reducible refine st_abs ?_ | with_reducible refine st_sl ?_ | with_reducible refine st_part ?_ | with_reducible refine st_nopart ?_ | with_reducible refine st_bm ?_ | with_reducible refine st_bm0 ?_ | with_reducible refine st_tyS ?_ | with_reducible refine st_gsub ?_ | with_reducible refine st_gcons ?_ | with_reducible refine st_gnil ?_ | with_reducible refine st_chain3 ?_ | with_reducible refine st_gsl ?_ | with_reducible refine st_clK ?_ | with_reducible refine st_mtK ?_ | with_reducible refine st_lcR1 ?_ | with_reducible refine st_lcR2 ?_ | with_reducible refine st_lcL ?_ | with_reducible refine st_lcT ?_ | with_reducible refine st_yes ?_ | with_reducible refine st_forR1 ?_ | with_reducible refine st_forR2 ?_ | with_reducible refine st_forL ?_ | with_reducible refine st_forT ?_ | with_reducible refine st_forE ?_ | with_reducible refine st_list ?_ | with_reducible refine st_itup ?_ | with_reducible refine st_tB ?_ | ((with_reducible apply st_var); exact rfl) | ((with_reducible apply st_aug); exact rfl) | ((with_reducible apply st_eq); exact rfl) | ((with_reducible apply st_ne); exact rfl) | ((with_reducible apply st_spK); (focus exact rfl); (focus exact rfl)) | ((with_reducible apply st_rI); (first | decide | (refine Or.inl ⟨?_, ?_⟩ <;> omega) | (refine Or.inr ⟨?_, ?_⟩ <;> omega) | (show (0 : Int) < _; omega) | exact ⟨by omega, log_of (by omega) (by omega)⟩ | exact ⟨by decide, by decide, by decide⟩)) | ((with_reducible apply st_powK); (focus exact ⟨by decide, by decide, by decide⟩); (focus decide)) | ((with_reducible apply st_eR1); (focus omega); (focus omega)) | ((with_reducible apply st_eR2); (focus omega)) | ((with_reducible apply st_if1); (first | with_reducible rfl | assumption | exact rfl | decide | (simp only [decide_eq_true_eq, decide_eq_false_iff_not, Bool.not_eq_true', Bool.not_eq_false', Bool.not_true, Bool.not_false, Bool.true_and, Bool.and_true, Bool.false_and, Bool.and_false, V.int.injEq, V.str.injEq, V.bl.injEq, V.ref.injEq, reduceCtorEq, not_true, not_false_eq_true, decide_true, decide_false, Int.not_lt, Int.not_le, ne_eq, List.length_cons, List.length_nil, List.length_map, List.length_append, List.length_set, List.length_take, List.length_drop] <;> omega))) | ((with_reducible apply st_if0); (first | with_reducible rfl | assumption | exact rfl | decide | (simp only [decide_eq_true_eq, decide_eq_false_iff_not, Bool.not_eq_true', Bool.not_eq_false', Bool.not_true, Bool.not_false, Bool.true_and, Bool.and_true, Bool.false_and, Bool.and_false, V.int.injEq, V.str.injEq, V.bl.injEq, V.ref.injEq, reduceCtorEq, not_true, not_false_eq_true, decide_true, decide_false, Int.not_lt, Int.not_le, ne_eq, List.length_cons, List.length_nil, List.length_map, List.length_append, List.length_set, List.length_take, List.length_drop] <;> omega))) | ((with_reducible apply st_lenL); (focus infer_instance)) | ((with_reducible apply st_lenT); (focus infer_instance)) | ((with_reducible apply st_tupT); (focus infer_instance)) | ((with_reducible apply st_tyL); (focus infer_instance)) | ((with_reducible apply st_elist); (focus infer_instance)) | ((with_reducible apply st_eitup); (focus infer_instance)) | ((with_reducible apply st_eE); (focus infer_instance)) | ((with_reducible apply st_epr); (focus infer_instance)) | ((with_reducible apply st_setO); (focus infer_instance)) | ((with_reducible apply st_ixO); (focus infer_instance)) | ((with_reducible apply st_ixLs); (focus assumption); (focus (first | exact rfl | exact atI_nat (by assumption)))) | ((with_reducible apply st_ixTs); (focus assumption); (focus (first | exact rfl | exact atI_nat (by assumption)))) | ((with_reducible apply st_fld); (focus infer_instance); (focus exact rfl)) | ((with_reducible apply st_const); (focus infer_instance); (focus exact rfl)) | ((with_reducible apply st_emt); (focus infer_instance); (focus exact rfl)) | ((with_reducible apply st_ixL); (focus infer_instance); (focus (first | exact rfl | exact atI_nat (by assumption)))) | ((with_reducible apply st_ixT); (focus infer_instance); (focus (first | exact rfl | exact atI_nat (by assumption)))) | ((with_reducible apply st_gtup); (focus infer_instance); (focus (first | exact rfl | exact atI_nat (by assumption)))))))
local macro_rules | `(tactic| subst_eqs) => `(tactic| (repeat (first | with_reducible refine st_seq ?_ | with_reducible refine st_asg ?_ | with_reducible refine st_name ?_ | with_reducible refine st_ret ?_ | with_reducible refine st_drop ?_ | with_reducible refine st_ifS ?_ | with_reducible refine st_nx ?_ | with_reducible refine st_brk ?_ | with_reducible refine st_cnt ?_ | with_reducible refine st_c ?_ | with_reducible refine st_op ?_ | with_reducible refine st_un ?_ | with_reducible refine st_rI0 ?_ | with_reducible refine st_cons ?_ | with_reducible refine st_nil ?_ | with_reducible refine st_cl ?_ | with_reducible refine st_cb ?_ | with_reducible refine st_mt ?_ | with_reducible refine st_pr ?_ | with_reducible refine st_test ?_ | with_reducible refine st_ebl ?_ | with_reducible refine st_eint ?_ | with_reducible refine st_par ?_ | with_reducible refine st_par2 ?_ | with_reducible refine st_and ?_ | with_reducible refine st_or ?_ | with_reducible refine st_not ?_ | with_reducible refine st_andV ?_ | with_reducible refine st_orV ?_ | with_reducible refine st_notV ?_ | with_reducible refine st_ifE ?_ | with_reducible refine st_chain ?_ | with_reducible refine st_lst ?_ | with_reducible refine st_tup ?_ | with_reducible refine st_retN ?_ | with_reducible refine st_rU ?_ | with_reducible refine st_rAdd ?_ | with_reducible refine st_rSub ?_ | with_reducible refine st_isN ?_ | with_reducible refine st_notN ?_ | with_reducible refine st_sF ?_ | with_reducible refine st_int ?_ | with_reducible refine st_intB ?_ | with_reducible refine st_abs ?_ | with_reducible refine st_sl ?_ | with_reducible refine st_part ?_ | with_reducible refine st_nopart ?_ | with_reducible refine st_bm ?_ | with_reducible refine st_bm0 ?_ | with_reducible refine st_tyS ?_ | with_reducible refine st_gsub ?_ | with_reducible refine st_gcons ?_ | with_reducible refine st_gnil ?_ | with_reducible refine st_chain3 ?_ | with_reducible refine st_gsl ?_ | with_reducible refine st_clK ?_ | with_reducible refine st_mtK ?_ | with_reducible refine st_lcR1 ?_ | with_reducible refine st_lcR2 ?_ | with_reducible refine st_lcL ?_ | with_reducible refine st_lcT ?_ | with_reducible refine st_yes ?_ | with_reducible refine st_forR1 ?_ | with_reducible refine st_forR2 ?_ | with_reducible refine st_forL ?_ | with_reducible refine st_forT ?_ | with_reducible refine st_forE ?_ | with_reducible refine st_list ?_ | with_reducible refine st_itup ?_ | with_reducible refine st_tB ?_ | ((with_reducible apply st_var); exact rfl) | ((with_reducible apply st_aug); exact rfl) | ((with_reducible apply st_eq); exact rfl) | ((with_reducible apply st_ne); exact rfl) | ((with_reducible apply st_spK); (focus exact rfl); (focus exact rfl)) | ((with_reducible apply st_rI); (first | decide | (refine Or.inl ⟨?_, ?_⟩ <;> omega) | (refine Or.inr ⟨?_, ?_⟩ <;> omega) | (show (0 : Int) < _; omega) | exact ⟨by omega, log_of (by omega) (by omega)⟩ | exact ⟨by decide, by decide, by decide⟩)) | ((with_reducible apply st_powK); (focus exact ⟨by decide, by decide, by decide⟩); (focus decide)) | ((with_reducible apply st_eR1); (focus omega); (focus omega)) | ((with_reducible apply st_eR2); (focus omega)) | ((with_reducible apply st_if1); (first | with_reducible rfl | assumption | exact rfl | decide | (simp only [decide_eq_true_eq, decide_eq_false_iff_not, Bool.not_eq_true', Bool.not_eq_false', Bool.not_true, Bool.not_false, Bool.true_and, Bool.and_true, Bool.false_and, Bool.and_false, V.int.injEq, V.str.injEq, V.bl.injEq, V.ref.injEq, reduceCtorEq, not_true, not_false_eq_true, decide_true, decide_false, Int.not_lt, Int.not_le, ne_eq, List.length_cons, List.length_nil, List.length_map, List.length_append, List.length_set, List.length_take, List.length_drop] <;> omega))) | ((with_reducible apply st_if0); (first | with_reducible rfl | assumption | exact rfl | decide | (simp only [decide_eq_true_eq, decide_eq_false_iff_not, Bool.not_eq_true', Bool.not_eq_false', Bool.not_true, Bool.not_false, Bool.true_and, Bool.and_true, Bool.false_and, Bool.and_false, V.int.injEq, V.str.injEq, V.bl.injEq, V.ref.injEq, reduceCtorEq, not_true, not_false_eq_true, decide_true, decide_false, Int.not_lt, Int.not_le, ne_eq, List.length_cons, List.length_nil, List.length_map, List.length_append, List.length_set, List.length_take, List.length_drop] <;> omega))) | ((with_reducible apply st_lenL); (focus infer_instance)) | ((with_reducible apply st_lenT); (focus infer_instance)) | ((with_reducible apply st_tupT); (focus infer_instance)) | ((with_reducible apply st_tyL); (focus infer_instance)) | ((with_reducible apply st_elist); (focus infer_instance)) | ((with_reducible apply st_eitup); (focus infer_instance)) | ((with_reducible apply st_eE); (focus infer_instance)) | ((with_reducible apply st_epr); (focus infer_instance)) | ((with_reducible apply st_setO); (focus infer_instance)) | ((with_reducible apply st_ixO); (focus infer_instance)) | ((with_reducible apply st_ixLs); (focus assumption); (focus (first | exact rfl | exact atI_nat (by assumption)))) | ((with_reducible apply st_ixTs); (focus assumption); (focus (first | exact rfl | exact atI_nat (by assumption)))) | ((with_reducible apply st_fld); (focus infer_instance); (focus exact rfl)) | ((with_reducible apply st_const); (focus infer_instance); (focus exact rfl)) | ((with_reducible apply st_emt); (focus infer_instance); (focus exact rfl)) | ((with_reducible apply st_ixL); (focus infer_instance); (focus (first | exact rfl | exact atI_nat (by assumption)))) | ((with_reducible apply st_ixT); (focus infer_instance); (focus (first | exact rfl | exact atI_nat (by assumption)))) | ((with_reducible apply st_gtup); (focus infer_instance); (focus (first | exact rfl | exact atI_nat (by assumption)))) | ((with_reducible apply st_newL); (focus (refine len_ok ?_; simp only [List.length_cons, List.length_nil, List.length_append, List.length_map, List.length_set, List.length_take, List.length_drop]; omega)); intro l Hn nw) | ((with_reducible apply st_newT); (focus (refine len_ok ?_; simp only [List.length_cons, List.length_nil, List.length_append, List.length_map, List.length_set, List.length_take, List.length_drop]; omega)); intro l Hn nw) | ((with_reducible apply st_listL); (focus infer_instance); intro l Hn nw) | ((with_reducible apply st_listT); (focus infer_instance); intro l Hn nw) | ((with_reducible apply st_tupL); (focus infer_instance); intro l Hn nw) | ((with_reducible apply st_slL); (focus infer_instance); intro l Hn nw) | ((with_reducible apply st_cat); (focus infer_instance); (focus infer_instance); (focus (refine len_ok ?_; simp only [List.length_cons, List.length_nil, List.length_append, List.length_map, List.length_set, List.length_take, List.length_drop]; omega)); intro l Hn nw))))
section
variable {P : Program} {w : World} {K : PySem.W.Frag} {mg : Str → Option Value} {base : Heap} {f : Addr} {fd : FuncData} {Tb : List (Addr × Str)}
abbrev N__law_pen : List Str := ["_law_script"]
theorem sc__law_pen : FnScope N__law_pen ["_law_script"] (defScope s__law_pen) := ⟨rfl, rfl, rfl, by decide +kernel, rfl, by decide +kernel, by decide +kernel⟩
theorem ok0__law_pen (F : FnA K d__law_pen fd) (T : Tx K mg) : FnOk P w K mg base CX0 1 (d__law_pen.adr K) fd ["_law_script"] (spPn K) := by
  refine fnO0 F sc__law_pen (fun vs H Q E h => by (repeat (first | (obtain ⟨rfl, _⟩ := h; rfl) | (obtain ⟨_, h⟩ := h)))) (fun cdv A outer s H vs Q E hr h => ?_)
  refine ⟨_, (pss_one (ps_ret (pe_lst (pa_cons (pe_callTy (cr_listOf (K := K) rfl) (by rfl) T.f_list (by decide +kernel) (pa_cons (pe_slice (sl_listK (K := K) rfl) (pv 0) po_none (po_some pe_int)) pa_nil)) (pa_cons pe_int (pa_cons pe_int pa_nil)))))), ?_⟩
  obtain ⟨a, ns, rfl, hS, hl, q⟩ := h
  have ec : cutV (ns.map V.int) none (some 63) = ns.map V.int := cut_all (by rw [List.length_map]; exact hl)
  symm_saturate
  refine st_slLs hS fun c H1 n1 => ?_
  rw [ec] at n1
  symm_saturate
  refine st_listL (by infer_instance) fun e H2 n2 => ?_
  symm_saturate
  refine st_newL (by (refine len_ok ?_; simp only [List.length_cons, List.length_nil, List.length_append, List.length_map, List.length_set, List.length_take, List.length_drop]; omega)) fun p H3 n3 => ?_
  refine q p e _ (n1.same.free (n2.same.free n3.no)) ⟨ns, 0, 0, by infer_instance, by infer_instance, hl, Int.le_refl _, by decide, Int.le_refl _⟩ (n1.same.trans (n2.same.trans n3.same))
abbrev N__law_draw : List Str := ["_law_pen_here", "_law_many", "_law_at", "_law_cell", "_law_mixed", "_law_digit", "_law_great"]
theorem sc__law_draw : FnScope N__law_draw ["_law_pen_here", "_law_many"] (defScope s__law_draw) := ⟨rfl, rfl, rfl, by decide +kernel, rfl, by decide +kernel, by decide +kernel⟩
theorem ok0__law_draw (F : FnA K d__law_draw fd) (T : Tx K mg) : FnOk P w K mg base CX0 1 (d__law_draw.adr K) fd ["_law_pen_here", "_law_many"] spDr := by
  refine fnO0 F sc__law_draw (fun vs H Q E h => by (repeat (first | (obtain ⟨rfl, _⟩ := h; rfl) | (obtain ⟨_, h⟩ := h)))) (fun cdv A outer s H vs Q E hr h => ?_)
  refine ⟨_, (pss_cons (ps_if (pt_cmpR op_gt (pe_ix (ix_listK (K := K) rfl) (pv 0) pe_int (fun _ _ => rfl)) pe_int (nomark _))
      (pss_cons (ps_set (i := 5) sc__law_draw.nd rfl (.inl rfl) (pe_op op_mod (pe_callTy cr_int (by rfl) T.f_int (by decide +kernel) (pa_cons (pe_ix (ix_listK (K := K) rfl) (pv 0) pe_int (fun _ _ => rfl)) pa_nil)) (pv 1)))
      (pss_cons (ps_asg (pe_op op_fdivW (pe_callTy cr_int (by rfl) T.f_int (by decide +kernel) (pa_cons (pe_ix (ix_listK (K := K) rfl) (pv 0) pe_int (fun _ _ => rfl)) pa_nil)) (pv 1)) (pg_sub (pv 0) pe_int set_list))
      (pss_one (ps_ret (pv 5))))) pss_nil)
      (pss_cons (ps_set (i := 2) sc__law_draw.nd rfl (.inl rfl) (pe_ix (ix_listK (K := K) rfl) (pv 0) pe_int (fun _ _ => rfl)))
      (pss_cons (ps_asg (pe_op op_add (pv 2) pe_int) (pg_sub (pv 0) pe_int set_list))
      (pss_cons (ps_set (i := 3) sc__law_draw.nd rfl (.inl rfl) (pe_op op_add (pe_op op_mul pe_int (pv 2)) pe_int))
      (pss_cut (ps_if (pt_cmpR (op_neDK (K := K) rfl hr.units) (pe_ix (ix_listK (K := K) rfl) (pv 0) pe_int (fun _ _ => rfl)) (pe_lst pa_nil) (nomark _))
      (pss_one (ps_set (i := 3) sc__law_draw.nd rfl (.inl rfl) (pe_ix (ix_listK (K := K) rfl) (pe_ix (ix_listK (K := K) rfl) (pv 0) pe_int (fun _ _ => rfl)) (pe_op op_mod (pe_callTy cr_int (by rfl) T.f_int (by decide +kernel) (pa_cons (pv 2) pa_nil)) (pe_callB (cr_len (K := K) rfl) (by rfl) T.f_len (by decide +kernel) (pa_cons (pe_ix (ix_listK (K := K) rfl) (pv 0) pe_int (fun _ _ => rfl)) pa_nil))) (fun _ _ => rfl)))) pss_nil)
      (pss_cut (ps_if (PW.pt (pw_and (pt_cmpR op_lt (pv 2) (pe_callB (cr_len (K := K) rfl) (by rfl) T.f_len (by decide +kernel) (pa_cons (pe_ix (ix_listK (K := K) rfl) (pv 0) pe_int (fun _ _ => rfl)) pa_nil)) (nomark _)) (pw_and1 (pt_cmpR op_ge (pe_callB cr_abs (by rfl) T.f_abs (by decide +kernel) (pa_cons (pv 3) pa_nil)) (pe_op (op_powK 1000000000000000000) pe_int pe_int) (nomark _)))))
      (pss_cons (ps_set (i := 6) sc__law_draw.nd rfl (.inl rfl) (pe_op op_add (pe_op op_mul pe_int (pe_op op_sub (pe_callB cr_abs (by rfl) T.f_abs (by decide +kernel) (pa_cons (pv 3) pa_nil)) (pe_op (op_powK 1000000000000000000) pe_int pe_int))) (pe_callTy cr_int (by rfl) T.f_int (by decide +kernel) (pa_cons (pe_cmpR op_lt (pv 3) pe_int (nomark _)) pa_nil))))
      (pss_cons (ps_asg (pe_op op_fdivW (pe_callTy cr_int (by rfl) T.f_int (by decide +kernel) (pa_cons (pv 6) pa_nil)) (pv 1)) (pg_sub (pv 0) pe_int set_list))
      (pss_one (ps_ret (pe_op op_mod (pe_callTy cr_int (by rfl) T.f_int (by decide +kernel) (pa_cons (pv 6) pa_nil)) (pv 1)))))) pss_nil)
      (pss_cons (ps_set (i := 4) sc__law_draw.nd rfl (.inl rfl) (pe_op op_mod (pe_callTy cr_int (by rfl) T.f_int (by decide +kernel) (pa_cons (pe_op op_pow (pe_op op_add (pe_op op_add (pe_op op_mod (pe_callTy cr_int (by rfl) T.f_int (by decide +kernel) (pa_cons (pv 3) pa_nil)) pe_int) (pe_op op_mul pe_int (pv 2))) pe_int) pe_int) pa_nil)) pe_int))
      (pss_cons (ps_set (i := 4) sc__law_draw.nd rfl (.inl rfl) (pe_op op_mod (pe_callTy cr_int (by rfl) T.f_int (by decide +kernel) (pa_cons (pe_op op_pow (pe_op op_add (pe_op op_add (pe_op op_mul (pv 4) (pe_op op_add (pe_op op_mul pe_int (pv 2)) pe_int)) (pe_op op_mul (pe_op op_mul pe_int (pv 2)) (pv 2))) pe_int) pe_int) pa_nil)) pe_int))
      (pss_one (ps_ret (pe_op op_mod (pe_callTy cr_int (by rfl) T.f_int (by decide +kernel) (pa_cons (pe_op op_fdivW (pv 4) pe_int) pa_nil)) (pv 1)))))))))))), ?_⟩
  obtain ⟨p, c, b, m, rfl, hm, hlog, ⟨ns, i, z, hp, hc, hl, hi, hb, hz⟩, q⟩ := h
  have ncp : c ≠ p := pen_ne hp hc
  have mm := fun x : Int => mod_lt x hm
  have hdiv : ∀ x, CDivW x m := fun _ => ⟨hm, hlog⟩
  symm_saturate
  refine ite2 (fun h1 => ?_) (fun h1 => ?_)
  · symm_saturate
    refine st_rI (hdiv _) ?_
    symm_saturate
    refine st_setL hp rfl fun H1 n1 => ?_
    symm_saturate
    exact q _ _ (mm z).1 (mm z).2 ⟨ns, i, z / m, by infer_instance, by infer_instance, hl, hi, by omega, Int.ediv_nonneg hz (by omega)⟩ n1.keep
  · have z0 : z = 0 := by
      have : ¬ (z > 0) := by simpa using h1
      omega
    subst z0
    symm_saturate
    refine st_setL hp rfl fun H2 n2 => ?_
    have hp2 : H2 p = some (.lst [.ref c, .int (i + 1), .int 0]) := n2.at_
    have hc2 : H2 c = some (.lst (ns.map V.int)) := by infer_instance
    have k2 := n2.keep
    clear n2
    symm_saturate
    refine ⟨fun σ' H' => ∃ cell : Int, σ' = [some (.ref p), some (.int m), some (.int i), some (.int cell), none, none, none] ∧ H' p = some (.lst [.ref c, .int (i + 1), .int 0]) ∧ H' c = some (.lst (ns.map V.int)) ∧ Keep H H' p, ?_, ?_⟩
    · -- if the cells are not empty
      symm_saturate
      refine st_newL (by (refine len_ok ?_; simp only [List.length_cons, List.length_nil, List.length_append, List.length_map, List.length_set, List.length_take, List.length_drop]; omega)) fun e H3 n3 => ?_
      have hp3 : H3 p = some (.lst [.ref c, .int (i + 1), .int 0]) := by infer_instance
      have hc3 : H3 c = some (.lst (ns.map V.int)) := by infer_instance
      have k3 : Keep H H3 p := fun a o h1 h2 => n3.up (k2 _ _ h1 h2)
      refine st_neD (.lst (SqL.of hc3) (dp_ints K _ ns)) (.lst (SqL.of n3.at_) .nil) (PySem.W.ke_shaped_ints ns) (by decide +kernel) ?_
      clear n3
      symm_saturate
      refine ite2 (fun h2 => ?_) (fun h2 => ?_)
      · have hne : 0 < ns.length := by
          rw [eqv_nil] at h2
          cases ns with
          | nil => cases h2
          | cons a r => exact Nat.succ_pos _
        have hlen : (0 : Int) < ((ns.map V.int).length : Int) := by rw [List.length_map]; omega
        have mi := mod_lt i hlen
        obtain ⟨v, ev, _⟩ := atI_int (ns := ns) (i := i % ((ns.map V.int).length : Int)) mi.1 (by have := mi.2; rw [List.length_map] at this ⊢; exact this)
        symm_saturate
        refine st_ixL hc3 ev ?_
        symm_saturate
        exact ⟨v, rfl, hp3, hc3, k3⟩
      · symm_saturate
        exact ⟨_, rfl, hp3, hc3, k3⟩
    · rintro σ' H' ⟨cell, rfl, hp3, hc3, k3⟩
      -- a great cell?
      refine ⟨fun σ1 H1 => σ1 = [some (.ref p), some (.int m), some (.int i), some (.int cell), none, none, none] ∧ H1 = H', ?_, ?_⟩
      · symm_saturate
        refine ite2 (fun _ => ?_) (fun _ => ?_)
        · symm_saturate
          refine ite2 (fun h3 => ?_) (fun _ => ?_)
          · have hab : 1000000000000000000 ≤ (if cell < 0 then -cell else cell) := by simpa using h3
            symm_saturate
            have hgr : 0 ≤ 2 * ((if cell < 0 then -cell else cell) - 1000000000000000000) + (if decide (cell < 0) = true then 1 else 0) := by
              have : (0 : Int) ≤ (if decide (cell < 0) = true then 1 else 0) := by split <;> decide
              omega
            refine st_rI (hdiv _) ?_
            symm_saturate
            refine st_setL hp3 rfl fun H4 n4 => ?_
            symm_saturate
            refine q _ _ (mm _).1 (mm _).2 ⟨ns, i + 1, _, n4.at_, by infer_instance, hl, by omega, by omega, Int.ediv_nonneg hgr (by omega)⟩ (k3.trans n4.keep)
          · symm_saturate
            exact ⟨rfl, rfl⟩
        · symm_saturate
          exact ⟨rfl, rfl⟩
      · rintro σ1 H1 ⟨rfl, rfl⟩
        have hi2 : i ≤ 1000000 := by omega
        -- the first mix
        symm_saturate
        refine st_rI ⟨by decide, by decide, ?_⟩ ?_
        · refine pow_lt ?_ ?_ <;> omega
        have hx := mod_lt ((cell % 2147483587 + 45071 * i + 213) ^ (5 : Int).toNat) (show (0 : Int) < 2147483549 by decide)
        -- the second one
        symm_saturate
        refine st_rI ⟨by decide, by decide, ?_⟩ ?_
        · exact mix_ok hx.1 (Int.lt_trans hx.2 (by decide)) hi hi2 ⟨by decide, by decide⟩ ⟨by decide, by decide⟩ ⟨by decide, by decide⟩
        symm_saturate
        exact q _ _ (mm _).1 (mm _).2 ⟨ns, i + 1, 0, hp3, hc3, hl, by omega, by omega, Int.le_refl _⟩ k3
theorem ok__law_pen (F : FnA K d__law_pen fd) (T : Tx K mg) : FnOk P w K mg base CX0 1 (d__law_pen.adr K) fd ["_law_script"] (spPn K) := ok0__law_pen F T
theorem ok__law_draw (F : FnA K d__law_draw fd) (T : Tx K mg) : FnOk P w K mg base CX0 1 (d__law_draw.adr K) fd ["_law_pen_here", "_law_many"] (Gp.spF K Tb (Gp.ul2 Gp.F_draw)) := Gp.fnOk_weak (ok0__law_draw F T) fun _ _ _ _ => Gp.draw_of
end
end Lw
end
section
set_option Elab.async false
set_option linter.all false
set_option maxRecDepth 100000
set_option maxHeartbeats 4000000
set_option pp.maxSteps 600
namespace Lw
open PySem PySem.Spec PyProof.Rows L2 Gh Gp Gz
section
variable {P : Program} {w : World} {K : PySem.W.Frag} {mg : Str → Option Value} {base : Heap} {f : Addr} {fd : FuncData} {Tb : List (Addr × Str)}
abbrev N_BadSpan___init__ : List Str := ["self", "part"]
theorem sc_BadSpan___init__ : FnScope N_BadSpan___init__ ["self", "part"] (defScope s_BadSpan___init__) := ⟨rfl, rfl, rfl, by decide +kernel, rfl, by decide +kernel, by decide +kernel⟩
theorem ok_BadSpan___init__ (F : FnA K d_BadSpan___init__ fd) (T : Tx K mg) : FnOk P w K mg base CX0 1 (d_BadSpan___init__.adr K) fd ["self", "part"] (spErr1 (gd "BadSpan" K) "part") := by
  refine fnO0 F sc_BadSpan___init__ (fun vs H Q E h => ?_) (fun cdv A outer s H vs Q E hr h => ?_)
  · obtain ⟨a, v, rfl, _⟩ := h
    rfl
  · obtain ⟨a, v, rfl, ha, q⟩ := h
    refine ⟨_, pss_one (ps_ost (pv 0) (pv 1)), ?_⟩
    exact ⟨_, rfl, _, rfl, a, _, rfl, T.ox_BadSpan, T.n_BadSpan_part, .inl ⟨ha, q⟩⟩
abbrev N_BadText___init__ : List Str := ["self", "line", "word"]
theorem sc_BadText___init__ : FnScope N_BadText___init__ ["self", "line", "word"] (defScope s_BadText___init__) := ⟨rfl, rfl, rfl, by decide +kernel, rfl, by decide +kernel, by decide +kernel⟩
theorem ok_BadText___init__ (F : FnA K d_BadText___init__ fd) (T : Tx K mg) : FnOk P w K mg base CX0 1 (d_BadText___init__.adr K) fd ["self", "line", "word"] (spErr2 (gd "BadText" K) "line" "word") := by
  refine fnO0 F sc_BadText___init__ (fun vs H Q E h => ?_) (fun cdv A outer s H vs Q E hr h => ?_)
  · obtain ⟨a, v, v2, rfl, _⟩ := h
    rfl
  · obtain ⟨a, v, v2, rfl, ha, q⟩ := h
    refine ⟨_, pss_cons (ps_ost (pv 0) (pv 1)) (pss_one (ps_ost (pv 0) (pv 2))), ?_⟩
    exact ⟨_, rfl, _, rfl, a, _, rfl, T.ox_BadText, T.n_BadText_line, .inl ⟨ha, fun d nd ne => ⟨_, rfl, _, rfl, a, _, rfl, T.ox_BadText, T.n_BadText_word, .inr ⟨d, _, upd_same, (upd_ne ne).trans upd_same, (by show 1 ≤ 900; decide), q d nd ne⟩⟩⟩⟩
abbrev N_is_integer : List Str := ["value"]
theorem sc_is_integer : FnScope N_is_integer ["value"] (defScope s_is_integer) := ⟨rfl, rfl, rfl, by decide +kernel, rfl, by decide +kernel, by decide +kernel⟩
def F_is_integer (value : D) : Tr D :=
  fin (bd (bd (bd (bd (.ok value) fun d => bd (opt (isi_int d)) fun k => .ok (.bl k)) asB) fun k => if k = true then (bd (bd (bd (.ok value) fun d => bd (opt (isi_bool d)) fun k => .ok (.bl k)) asB) fun k => .ok (.bl (!k))) else .ok (.bl false)) fun d => .ok (.rt d))
theorem ok_is_integer (F : FnA K d_is_integer fd) (T : Tx K mg)  : FnOk P w K mg base CX0 1 (d_is_integer.adr K) fd ["value"] (spF K Tb (ul1 F_is_integer)) := by
  refine fnO0 F sc_is_integer (fun vs H Q E h => spF_len len1 h) (fun cdv A outer s H vs Q E hr h => ?_)
  refine ⟨_, (pss_cons (ps_ret (pe_and (pe_callB (call_isiZ (K := K) rfl) (by rfl) T.f_isinstance (by decide +kernel) (pa_cons (pv 0) (pa_cons (pe_bltn (v := .ty "int") (by rfl) T.f_int (by decide +kernel) rfl) pa_nil))) (pe_one (pe_not (pe_callB (call_isiZ (K := K) rfl) (by rfl) T.f_isinstance (by decide +kernel) (pa_cons (pv 0) (pa_cons (pe_bltn (v := .ty "bool") (by rfl) T.f_bool (by decide +kernel) rfl) pa_nil))))))) pss_nil), ?_⟩
  exact fn_of1 (F := F_is_integer) (envU := fun _ => List.replicate 1 .no) h (fun value => rfl) (fun p c value => (ss_ret (se_andV (se_isi (.ty _) (isT_int T) se_var) (se_notV (se_isi (.ty _) (isT_bool T) se_var)))))
abbrev N_is_within : List Str := ["value", "least", "most"]
theorem sc_is_within : FnScope N_is_within ["value", "least", "most"] (defScope s_is_within) := ⟨rfl, rfl, rfl, by decide +kernel, rfl, by decide +kernel, by decide +kernel⟩
def F_is_within (value least most : D) : Tr D :=
  fin (bd (bd (bd (bd (bd (.ok value) fun v1 => (bd (.ok []) fun r2 => .ok (v1 :: r2))) (ul1 F_is_integer)) asB) fun k => if k = true then (bd (.ok least) fun v3 => (bd (.ok value) fun v4 => (bd (bd (leD v3 v4) asB) fun k => if k = true then (bd (.ok most) fun v5 => leD v4 v5) else .ok (.bl false)))) else .ok (.bl false)) fun d => .ok (.rt d))
theorem ok_is_within (F : FnA K d_is_within fd) (T : Tx K mg) (G_is_integer : PromO P w K mg base CX0 1 (gd "is_integer" K) [] (spF K Tb (ul1 F_is_integer))) : FnOk P w K mg base CX0 2 (d_is_within.adr K) fd ["value", "least", "most"] (spF K Tb (ul3 F_is_within)) := by
  refine fnO0 F sc_is_within (fun vs H Q E h => spF_len len3 h) (fun cdv A outer s H vs Q E hr h => ?_)
  refine ⟨_, (pss_cons (ps_ret (pe_and (pe_g (PromO.call G_is_integer (hr.mono (by decide)) (passA (E := E))) (by rfl) T.g_is_integer T.k_is_integer (pa_cons (pv 0) pa_nil)) (pe_one (pe_chain op_le op_le (pv 1) (pv 0) (pv 2))))) pss_nil), ?_⟩
  exact fn_of3 (F := F_is_within) (envU := fun _ => List.replicate 3 .no) h (fun value least most => rfl) (fun p c value least most => (ss_ret (se_andV (se_cl srl_sp0 (sa_cons se_var sa_nil)) (se_chain sr_le sr_le se_var se_var se_var))))
abbrev N_Span___init__ : List Str := ["self", "halves", "more", "odd"]
theorem sc_Span___init__ : FnScope N_Span___init__ ["self", "halves", "more", "odd"] (defScope s_Span___init__) := ⟨rfl, rfl, rfl, by decide +kernel, rfl, by decide +kernel, by decide +kernel⟩
def F_Span___init__ (fs : Fs) (halves more odd : D) : Tr Fs :=
  finI (bdF (W' := Unit) (bd (bd (bd (bd (bd (.ok halves) fun v5 => (bd (bd (.ok (.int 0)) fun v3 => (bd (bd (.ok (.int 8)) fun v1 => (bd (.ok []) fun r2 => .ok (v1 :: r2))) fun r4 => .ok (v3 :: r4))) fun r6 => .ok (v5 :: r6))) (ul3 F_is_within)) asB) fun k => .ok (!k)) fun k => if k = true then (bd (.ok (.str "halves")) fun d => .ex "BadSpan" [("part", d)]) else (.ok (.nx ()))) fun (w7 : Unit) => (bdF (W' := Unit) (bd (bd (bd (bd (bd (.ok more) fun v14 => (bd (bd (bd (.ok (.int 60)) negD) fun v12 => (bd (bd (.ok (.int 60)) fun v10 => (bd (.ok []) fun r11 => .ok (v10 :: r11))) fun r13 => .ok (v12 :: r13))) fun r15 => .ok (v14 :: r15))) (ul3 F_is_within)) asB) fun k => .ok (!k)) fun k => if k = true then (bd (.ok (.str "more")) fun d => .ex "BadSpan" [("part", d)]) else (.ok (.nx ()))) fun (w16 : Unit) => (bdF (W' := Unit) (bd (bd (bd (bd (bd (.ok odd) fun v23 => (bd (bd (bd (.ok (.int 9)) negD) fun v21 => (bd (bd (.ok (.int 9)) fun v19 => (bd (.ok []) fun r20 => .ok (v19 :: r20))) fun r22 => .ok (v21 :: r22))) fun r24 => .ok (v23 :: r24))) (ul3 F_is_within)) asB) fun k => .ok (!k)) fun k => if k = true then (bd (.ok (.str "odd")) fun d => .ex "BadSpan" [("part", d)]) else (.ok (.nx ()))) fun (w25 : Unit) => (bd (bd (bd (.ok halves) fun v32 => (bd (bd (.ok more) fun v30 => (bd (bd (.ok odd) fun v28 => (bd (.ok []) fun r29 => .ok (v28 :: r29))) fun r31 => .ok (v30 :: r31))) fun r33 => .ok (v32 :: r33))) fun ds => if ds.length ≤ sizeLine then .ok (.tup ds) else .bad) fun own_parts34 => if fs.length < 900 then (.ok (.nx (putD "own_parts" own_parts34 fs))) else .bad))))
theorem ok_Span___init__ (F : FnA K d_Span___init__ fd) (T : Tx K mg) (G_is_within : PromO P w K mg base CX0 2 (gd "is_within" K) [] (spF K Tb (ul3 F_is_within))) (G_BadSpan___init__ : PromO P w K mg base CX0 1 (md "BadSpan" "__init__" K) [] (spErr1 (gd "BadSpan" K) "part")) : FnOk P w K mg base (L2.CX P w) 3 (d_Span___init__.adr K) fd ["self", "halves", "more", "odd"] (spI K Tb "Span" (fun fs => ul3 (F_Span___init__ fs))) := by
  refine F.ok sc_Span___init__ (fun vs H Q E h => spI_len lenI3 h) (fun cdv A outer s H vs Q E hr h => ?_)
  refine ⟨_, (pss_cons (ps_if (pt_not (pt_val (pe_g (PromO.call G_is_within (hr.mono (by decide)) (passA (E := E))) (by rfl) T.g_is_within T.k_is_within (pa_cons (pv 1) (pa_cons pe_int (pa_cons (pe_gi T.m_MOST_HALVES (by rfl)) pa_nil))))))
      (pss_cons (ps_raise rfl (takes_of rfl rfl rfl rfl) (pmk_po T.ox_BadSpan T.in_BadSpan.iC T.in_BadSpan.tI G_BadSpan___init__ (hr.mono (by decide)) pass0 T.g_BadSpan (pa_cons pe_str pa_nil))) pss_nil) pss_nil)
      (pss_cons (ps_if (pt_not (pt_val (pe_g (PromO.call G_is_within (hr.mono (by decide)) (passA (E := E))) (by rfl) T.g_is_within T.k_is_within (pa_cons (pv 2) (pa_cons (pe_un un_neg (pe_gi T.m_MOST_MORE (by rfl))) (pa_cons (pe_gi T.m_MOST_MORE (by rfl)) pa_nil))))))
      (pss_cons (ps_raise rfl (takes_of rfl rfl rfl rfl) (pmk_po T.ox_BadSpan T.in_BadSpan.iC T.in_BadSpan.tI G_BadSpan___init__ (hr.mono (by decide)) pass0 T.g_BadSpan (pa_cons pe_str pa_nil))) pss_nil) pss_nil)
      (pss_cons (ps_if (pt_not (pt_val (pe_g (PromO.call G_is_within (hr.mono (by decide)) (passA (E := E))) (by rfl) T.g_is_within T.k_is_within (pa_cons (pv 3) (pa_cons (pe_un un_neg (pe_gi T.m_MOST_ODD (by rfl))) (pa_cons (pe_gi T.m_MOST_ODD (by rfl)) pa_nil))))))
      (pss_cons (ps_raise rfl (takes_of rfl rfl rfl rfl) (pmk_po T.ox_BadSpan T.in_BadSpan.iC T.in_BadSpan.tI G_BadSpan___init__ (hr.mono (by decide)) pass0 T.g_BadSpan (pa_cons pe_str pa_nil))) pss_nil) pss_nil)
      (pss_cons (ps_f (pv 0) (pe_tup (pa_cons (pv 1) (pa_cons (pv 2) (pa_cons (pv 3) pa_nil)))) T.cl_Span T.n_Span_own_parts)
      pss_nil)))), ?_⟩
  exact ini_of3 (F := F_Span___init__) (envI := fun fs => .oi "Span" fs :: List.replicate 3 .no) h (fun fs halves more odd => rfl) (fun p c fs halves more odd => (ss_if (fun (w7 : Unit) => [.oi "Span" fs, .fz halves, .fz more, .fz odd]) (sb_not (sb_tb (se_cl srl_sp0 (sa_cons se_var (sa_cons se_int (sa_cons se_int sa_nil)))))) (ss_raise1 (se_str (by decide))) (ss_nx (.s (.s (.s (.s .nil))))) (fun (w7 : Unit) => (ss_if (fun (w16 : Unit) => [.oi "Span" fs, .fz halves, .fz more, .fz odd]) (sb_not (sb_tb (se_cl srl_sp0 (sa_cons se_var (sa_cons (se_un sr_neg se_int) (sa_cons se_int sa_nil)))))) (ss_raise1 (se_str (by decide))) (ss_nx (.s (.s (.s (.s .nil))))) (fun (w16 : Unit) => (ss_if (fun (w25 : Unit) => [.oi "Span" fs, .fz halves, .fz more, .fz odd]) (sb_not (sb_tb (se_cl srl_sp0 (sa_cons se_var (sa_cons (se_un sr_neg se_int) (sa_cons se_int sa_nil)))))) (ss_raise1 (se_str (by decide))) (ss_nx (.s (.s (.s (.s .nil))))) (fun (w25 : Unit) => (ss_setf (se_tup (sa_cons se_var (sa_cons se_var (sa_cons se_var sa_nil)))) (fun own_parts34 => (ss_nx (.s (le_no _ rfl))))))))))))
abbrev N_Span_whole : List Str := ["k", "more"]
theorem sc_Span_whole : FnScope N_Span_whole ["k", "more"] (defScope s_Span_whole) := ⟨rfl, rfl, rfl, by decide +kernel, rfl, by decide +kernel, by decide +kernel⟩
def F_Span_whole (k_ more : D) : Tr D :=
  fin (bdF (W' := Unit) (bd (bd (bd (bd (bd (.ok k_) fun v5 => (bd (bd (.ok (.int 0)) fun v3 => (bd (bd (.ok (.int 4)) fun v1 => (bd (.ok []) fun r2 => .ok (v1 :: r2))) fun r4 => .ok (v3 :: r4))) fun r6 => .ok (v5 :: r6))) (ul3 F_is_within)) asB) fun k => .ok (!k)) fun k => if k = true then (bd (.ok (.str "halves")) fun d => .ex "BadSpan" [("part", d)]) else (.ok (.nx ()))) fun (w7 : Unit) => (bd (bd (bd (bd (.ok (.int 2)) fun v10 => (bd (.ok k_) fun v11 => mulD v10 v11)) fun v16 => (bd (bd (.ok more) fun v14 => (bd (bd (.ok k_) fun v12 => (bd (.ok []) fun r13 => .ok (v12 :: r13))) fun r15 => .ok (v14 :: r15))) fun r17 => .ok (v16 :: r17))) (fun ds => bd ((fun fs => ul3 (F_Span___init__ fs)) [] ds) fun fs => .ok (.obj "Span" fs))) fun d => .ok (.rt d)))
theorem ok_Span_whole (F : FnA K d_Span_whole fd) (T : Tx K mg) (G_is_within : PromO P w K mg base CX0 2 (gd "is_within" K) [] (spF K Tb (ul3 F_is_within))) (G_BadSpan___init__ : PromO P w K mg base CX0 1 (md "BadSpan" "__init__" K) [] (spErr1 (gd "BadSpan" K) "part")) (G_Span___init__ : PromO P w K mg base (L2.CX P w) 3 (md "Span" "__init__" K) [] (spI K Tb "Span" (fun fs => ul3 (F_Span___init__ fs)))) : FnOk P w K mg base (L2.CX P w) 5 (d_Span_whole.adr K) fd ["k", "more"] (spF K Tb (ul2 F_Span_whole)) := by
  refine F.ok sc_Span_whole (fun vs H Q E h => spF_len len2 h) (fun cdv A outer s H vs Q E hr h => ?_)
  refine ⟨_, (pss_cons (ps_if (pt_not (pt_val (pe_g (PromO.call G_is_within (hr.mono (by decide)) (passA (E := E))) (by rfl) T.g_is_within T.k_is_within (pa_cons (pv 0) (pa_cons pe_int (pa_cons (pe_gi T.m_MOST_WHOLE (by rfl)) pa_nil))))))
      (pss_cons (ps_raise rfl (takes_of rfl rfl rfl rfl) (pmk_po T.ox_BadSpan T.in_BadSpan.iC T.in_BadSpan.tI G_BadSpan___init__ (hr.mono (by decide)) pass0 T.g_BadSpan (pa_cons pe_str pa_nil))) pss_nil) pss_nil)
      (pss_cons (ps_ret (pe_g (PromO.make T.mk_Span G_Span___init__ (hr.mono (by decide)) (pass_on rfl rfl rfl rfl)) (by rfl) T.g_Span T.k_Span (pa_cons (pe_op op_mulA pe_int (pv 0)) (pa_cons (pv 1) (pa_cons (pv 0) pa_nil))))) pss_nil)), ?_⟩
  exact fn_of2 (F := F_Span_whole) (envU := fun _ => List.replicate 2 .no) h (fun k_ more => rfl) (fun p c k_ more => (ss_if (fun (w7 : Unit) => [.fz k_, .fz more]) (sb_not (sb_tb (se_cl srl_sp0 (sa_cons se_var (sa_cons se_int (sa_cons se_int sa_nil)))))) (ss_raise1 (se_str (by decide))) (ss_nx (.s (.s .nil))) (fun (w7 : Unit) => (ss_ret (se_cl srl_mk0 (sa_cons (se_op sr_mul se_int se_var) (sa_cons se_var (sa_cons se_var sa_nil))))))))
abbrev N_Span_halves : List Str := ["self"]
theorem sc_Span_halves : FnScope N_Span_halves ["self"] (defScope s_Span_halves) := ⟨rfl, rfl, rfl, by decide +kernel, rfl, by decide +kernel, by decide +kernel⟩
def F_Span_halves (self : D) : Tr D :=
  fin (bd (bd (bd (.ok self) (fldD "Span" "own_parts")) fun v1 => (bd (.ok (.int 0)) fun v2 => ixD v1 v2)) fun d => .ok (.rt d))
theorem ok_Span_halves (F : FnA K d_Span_halves fd) (T : Tx K mg)  : FnOk P w K mg base CX0 1 (d_Span_halves.adr K) fd ["self"] (spF K Tb (ul1 F_Span_halves)) := by
  refine fnO0 F sc_Span_halves (fun vs H Q E h => spF_len len1 h) (fun cdv A outer s H vs Q E hr h => ?_)
  refine ⟨_, (pss_cons (ps_ret (pe_ix (ix_seqK (K := K) rfl) (pe_f (pv 0) T.cl_Span T.n_Span_own_parts) pe_int (fun _ _ => rfl))) pss_nil), ?_⟩
  exact fn_of1 (F := F_Span_halves) (envU := fun _ => List.replicate 1 .no) h (fun self => rfl) (fun p c self => (ss_ret (se_op sr_ix (se_un sr_fld se_var) se_int)))
abbrev N_Span_more : List Str := ["self"]
theorem sc_Span_more : FnScope N_Span_more ["self"] (defScope s_Span_more) := ⟨rfl, rfl, rfl, by decide +kernel, rfl, by decide +kernel, by decide +kernel⟩
def F_Span_more (self : D) : Tr D :=
  fin (bd (bd (bd (.ok self) (fldD "Span" "own_parts")) fun v1 => (bd (.ok (.int 1)) fun v2 => ixD v1 v2)) fun d => .ok (.rt d))
theorem ok_Span_more (F : FnA K d_Span_more fd) (T : Tx K mg)  : FnOk P w K mg base CX0 1 (d_Span_more.adr K) fd ["self"] (spF K Tb (ul1 F_Span_more)) := by
  refine fnO0 F sc_Span_more (fun vs H Q E h => spF_len len1 h) (fun cdv A outer s H vs Q E hr h => ?_)
  refine ⟨_, (pss_cons (ps_ret (pe_ix (ix_seqK (K := K) rfl) (pe_f (pv 0) T.cl_Span T.n_Span_own_parts) pe_int (fun _ _ => rfl))) pss_nil), ?_⟩
  exact fn_of1 (F := F_Span_more) (envU := fun _ => List.replicate 1 .no) h (fun self => rfl) (fun p c self => (ss_ret (se_op sr_ix (se_un sr_fld se_var) se_int)))
abbrev N_Span_odd : List Str := ["self"]
theorem sc_Span_odd : FnScope N_Span_odd ["self"] (defScope s_Span_odd) := ⟨rfl, rfl, rfl, by decide +kernel, rfl, by decide +kernel, by decide +kernel⟩
def F_Span_odd (self : D) : Tr D :=
  fin (bd (bd (bd (.ok self) (fldD "Span" "own_parts")) fun v1 => (bd (.ok (.int 2)) fun v2 => ixD v1 v2)) fun d => .ok (.rt d))
theorem ok_Span_odd (F : FnA K d_Span_odd fd) (T : Tx K mg)  : FnOk P w K mg base CX0 1 (d_Span_odd.adr K) fd ["self"] (spF K Tb (ul1 F_Span_odd)) := by
  refine fnO0 F sc_Span_odd (fun vs H Q E h => spF_len len1 h) (fun cdv A outer s H vs Q E hr h => ?_)
  refine ⟨_, (pss_cons (ps_ret (pe_ix (ix_seqK (K := K) rfl) (pe_f (pv 0) T.cl_Span T.n_Span_own_parts) pe_int (fun _ _ => rfl))) pss_nil), ?_⟩
  exact fn_of1 (F := F_Span_odd) (envU := fun _ => List.replicate 1 .no) h (fun self => rfl) (fun p c self => (ss_ret (se_op sr_ix (se_un sr_fld se_var) se_int)))
abbrev N_Span___eq__ : List Str := ["self", "other"]
theorem sc_Span___eq__ : FnScope N_Span___eq__ ["self", "other"] (defScope s_Span___eq__) := ⟨rfl, rfl, rfl, by decide +kernel, rfl, by decide +kernel, by decide +kernel⟩
def F_Span___eq__ (self other : D) : Tr D :=
  fin (bd (bd (bd (bd (.ok other) fun d => bd (opt (isi_Span d)) fun k => .ok (.bl k)) asB) fun k => if k = true then (bd (bd (.ok self) (fldD "Span" "own_parts")) fun v1 => (bd (bd (.ok other) (fldD "Span" "own_parts")) fun v2 => eqD v1 v2)) else .ok (.bl false)) fun d => .ok (.rt d))
theorem ok_Span___eq__ (F : FnA K d_Span___eq__ fd) (T : Tx K mg)  : FnOk P w K mg base CX0 1 (d_Span___eq__.adr K) fd ["self", "other"] (spF K Tb (ul2 F_Span___eq__)) := by
  refine fnO0 F sc_Span___eq__ (fun vs H Q E h => spF_len len2 h) (fun cdv A outer s H vs Q E hr h => ?_)
  refine ⟨_, (pss_cons (ps_ret (pe_and (pe_callB (call_isiZ (K := K) rfl) (by rfl) T.f_isinstance (by decide +kernel) (pa_cons (pv 1) (pa_cons (pe_glob (v := .ref _) rfl T.g_Span rfl) pa_nil))) (pe_one (pe_cmpR (op_eqA (K := K) rfl hr.units) (pe_f (pv 0) T.cl_Span T.n_Span_own_parts) (pe_f (pv 1) T.cl_Span T.n_Span_own_parts) (nomark _))))) pss_nil), ?_⟩
  exact fn_of2 (F := F_Span___eq__) (envU := fun _ => List.replicate 2 .no) h (fun self other => rfl) (fun p c self other => (ss_ret (se_andV (se_isi (.own _) (isT_Span T) se_var) (se_op sr_eq (se_un sr_fld se_var) (se_un sr_fld se_var)))))
abbrev N_Span___str__ : List Str := ["self"]
theorem sc_Span___str__ : FnScope N_Span___str__ ["self"] (defScope s_Span___str__) := ⟨rfl, rfl, rfl, by decide +kernel, rfl, by decide +kernel, by decide +kernel⟩
def F_Span___str__ (self : D) : Tr D :=
  fin (bd ((fun acc => bd (bd (bd (.ok self) fun o3 => (isO "Span" o3 fun _ => nox ((ul1 F_Span_halves) [o3]))) fmtD) (jnD (fun acc => bd (.ok (.str " halves ")) (jnD (fun acc => bd (bd (bd (.ok self) fun o2 => (isO "Span" o2 fun _ => nox ((ul1 F_Span_odd) [o2]))) fmtD) (jnD (fun acc => bd (.ok (.str " odd ")) (jnD (fun acc => bd (bd (bd (.ok self) fun o1 => (isO "Span" o1 fun _ => nox ((ul1 F_Span_more) [o1]))) fmtD) (jnD (fun acc => bd (.ok (.str " more")) (jnD (fun acc => .ok (.str acc)) acc)) acc)) acc)) acc)) acc)) acc)) Str.empty) fun d => .ok (.rt d))
theorem ok_Span___str__ (F : FnA K d_Span___str__ fd) (T : Tx K mg) (G_Span_more : PromO P w K mg base CX0 1 (propG "Span" "more" K) [] (spF K Tb (ul1 F_Span_more))) (G_Span_odd : PromO P w K mg base CX0 1 (propG "Span" "odd" K) [] (spF K Tb (ul1 F_Span_odd))) (G_Span_halves : PromO P w K mg base CX0 1 (propG "Span" "halves" K) [] (spF K Tb (ul1 F_Span_halves))) : FnOk P w K mg base CX0 3 (d_Span___str__.adr K) fd ["self"] (spF K Tb (ul1 F_Span___str__)) := by
  refine fnO0 F sc_Span___str__ (fun vs H Q E h => spF_len len1 h) (fun cdv A outer s H vs Q E hr h => ?_)
  refine ⟨_, (pss_cons (ps_ret (pe_joined (PJ.cons (pe_fmt (pe_po (pv 0) T.cl_Span T.pr_Span_halves G_Span_halves (hr.mono (by decide)) (passA (E := EF)))) (PJ.cons pe_str (PJ.cons (pe_fmt (pe_po (pv 0) T.cl_Span T.pr_Span_odd G_Span_odd (hr.mono (by decide)) (passA (E := EF)))) (PJ.cons pe_str (PJ.cons (pe_fmt (pe_po (pv 0) T.cl_Span T.pr_Span_more G_Span_more (hr.mono (by decide)) (passA (E := EF)))) (PJ.cons pe_str PJ.nil)))))))) pss_nil), ?_⟩
  exact fn_of1 (F := F_Span___str__) (envU := fun _ => List.replicate 1 .no) h (fun self => rfl) (fun p c self => (ss_ret (se_joined (sj_cons (se_fmt (se_prX se_var)) (sj_cons (se_str (by decide)) (sj_cons (se_fmt (se_prX se_var)) (sj_cons (se_str (by decide)) (sj_cons (se_fmt (se_prX se_var)) (sj_cons (se_str (by decide)) sj_nil)))))))))
abbrev N_number_in : List Str := ["word", "figures", "found", "sign"]
theorem sc_number_in : FnScope N_number_in ["word"] (defScope s_number_in) := ⟨rfl, rfl, rfl, by decide +kernel, rfl, by decide +kernel, by decide +kernel⟩
def F_number_in (word : D) : Tr D :=
  fin (bd (bd (bd (bd (bd (.ok word) fun v2 => (bd (.ok none) fun lo => bd (bd (.ok (.int 1)) asI) fun hi => slD v2 lo hi)) fun v4 => (bd (.ok (.str "-")) fun v5 => eqD v4 v5)) asB) fun k => if k = true then (bd (.ok word) fun v6 => (bd (bd (.ok (.int 1)) asI) fun lo => bd (.ok none) fun hi => slD v6 lo hi)) else (.ok word)) fun figures0 => (bdF (W' := Unit) (bd (bd (bd (bd (bd (.ok (.int 1)) fun v10 => (bd (bd (bd (.ok figures0) fun v8 => (bd (.ok []) fun r9 => .ok (v8 :: r9))) (ul1 lenD)) fun v11 => (bd (bd (leD v10 v11) asB) fun k => if k = true then (bd (.ok (.int 60)) fun v12 => leD v11 v12) else .ok (.bl false)))) asB) fun k => .ok (!k)) fun k => if k = true then .ok true else (bd (bd (bd (bd (bd (bd (.ok figures0) itD) fun ds => bd (lcF (fun sign12 => nox (bd (bd (.ok sign12) fun v14 => (bd (.ok (.str "0123456789")) fun v15 => inOD v14 v15)) fun y => .ok (some y))) ds) fun r => .ok (.lst r)) fun v16 => (bd (.ok []) fun r17 => .ok (v16 :: r17))) (ul1 allD)) asB) fun k => .ok (!k))) fun k => if k = true then (bd (.ok .non) fun d => .ok (.rt d)) else (.ok (.nx ()))) fun (w18 : Unit) => (bd (bd (bd (.ok word) fun v20 => (bd (.ok []) fun r21 => .ok (v20 :: r21))) (ul1 intTD)) fun found18 => (bd (bd (bd (bd (bd (bd (.ok found18) fun v22 => (bd (.ok []) fun r23 => .ok (v22 :: r23))) (ul1 strD)) fun v24 => (bd (.ok word) fun v25 => eqD v24 v25)) asB) fun k => if k = true then (.ok found18) else (.ok .non)) fun d => .ok (.rt d)))))
theorem ok_number_in (F : FnA K d_number_in fd) (T : Tx K mg)  : FnOk P w K mg base CX0 1 (d_number_in.adr K) fd ["word"] (spF K Tb (ul1 F_number_in)) := by
  refine fnO0 F sc_number_in (fun vs H Q E h => spF_len len1 h) (fun cdv A outer s H vs Q E hr h => ?_)
  refine ⟨_, (pss_cons (ps_set (i := 1) sc_number_in.nd rfl (.inl rfl) (pe_ifExp (pt_cmpR (op_eqA (K := K) rfl hr.units) (pe_slice (sl_all (K := K) rfl) (pv 0) po_none (po_some pe_int)) pe_str (nomark _)) (pe_slice (sl_all (K := K) rfl) (pv 0) (po_some pe_int) po_none) (pv 0)))
      (pss_cons (ps_if (PW.pt (pw_or (pt_not (pt_chain op_le op_le pe_int (pe_callB (cr_len (K := K) rfl) (by rfl) T.f_len (by decide +kernel) (pa_cons (pv 1) pa_nil)) pe_int)) (pw_or1 (pt_not (pt_val (pe_callB (cr_allK (K := K) rfl rfl) (by rfl) T.f_all (by decide +kernel) (pa_cons (pe_lc (own := [("sign", 3)]) (g := gName 3) (by rfl) sc_number_in.nd (pi_seq (K := K) rfl (pv 1)) (blkOk_by (own := [("sign", 3)]) (N := N_number_in) (sc := defScope s_number_in) (by decide +kernel)) (fun _ _ _ _ _ => pg_name (i := 3) sc_number_in.nd rfl (Or.inl rfl)) (fun _ _ _ _ _ => pts_nil) (fun _ _ _ _ _ => (pe_cmpR (op_inA (K := K) rfl) (pv 3) pe_str (by rfl)))) pa_nil)))))))
      (pss_cons (ps_ret pe_non) pss_nil) pss_nil)
      (pss_cons (ps_set (i := 2) sc_number_in.nd rfl (.inl rfl) (pe_callTy cr_intT (by rfl) T.f_int (by decide +kernel) (pa_cons (pv 0) pa_nil)))
      (pss_cons (ps_ret (pe_ifExp (pt_cmpR (op_eqA (K := K) rfl hr.units) (pe_callTy cr_strI (by rfl) T.f_str (by decide +kernel) (pa_cons (pv 2) pa_nil)) (pv 0) (nomark _)) (pv 2) pe_non)) pss_nil)))), ?_⟩
  exact fn_of1 (F := F_number_in) (envU := fun _ => List.replicate 4 .no) h (fun word => rfl) (fun p c word => (ss_asg (se_if (sb_tst (se_op sr_eq (se_sl se_var so_none (so_some se_int)) (se_str (by decide)))) (se_sl se_var (so_some se_int) so_none) se_var) (fun figures0 => (ss_if (fun (w18 : Unit) => [.fz word, .fz figures0, .no, .no]) (sb_or (sb_not (sb_tst (se_chain sr_le sr_le se_int (se_cb srl_len (sa_cons se_var sa_nil)) se_int))) (sb_not (sb_tb (se_cb srl_all (sa_cons (se_lc (si_seq se_var) (fun sign12 => (sc_map (se_op sr_in se_var (se_str (by decide)))))) sa_nil))))) (ss_ret se_non) (ss_nx (.s (.s (.s (.s .nil))))) (fun (w18 : Unit) => (ss_asg (se_cb srl_intT (sa_cons se_var sa_nil)) (fun found18 => (ss_ret (se_if (sb_tst (se_op sr_eq (se_cb srl_str (sa_cons se_var sa_nil)) se_var)) se_var se_non)))))))))
abbrev N_are_parts : List Str := ["halves", "more", "odd"]
theorem sc_are_parts : FnScope N_are_parts ["halves", "more", "odd"] (defScope s_are_parts) := ⟨rfl, rfl, rfl, by decide +kernel, rfl, by decide +kernel, by decide +kernel⟩
def F_are_parts (halves more odd : D) : Tr D :=
  fin (bdF (W' := Unit) (bd (bd (bd (bd (bd (bd (.ok halves) fun v5 => (bd (bd (.ok (.int 0)) fun v3 => (bd (bd (.ok (.int 8)) fun v1 => (bd (.ok []) fun r2 => .ok (v1 :: r2))) fun r4 => .ok (v3 :: r4))) fun r6 => .ok (v5 :: r6))) (ul3 F_is_within)) asB) fun k => .ok (!k)) fun k => if k = true then .ok true else (bd (bd (bd (bd (.ok more) fun v11 => (bd (bd (bd (.ok (.int 60)) negD) fun v9 => (bd (bd (.ok (.int 60)) fun v7 => (bd (.ok []) fun r8 => .ok (v7 :: r8))) fun r10 => .ok (v9 :: r10))) fun r12 => .ok (v11 :: r12))) (ul3 F_is_within)) asB) fun k => .ok (!k))) fun k => if k = true then (bd (.ok (.bl false)) fun d => .ok (.rt d)) else (.ok (.nx ()))) fun (w13 : Unit) => (bd (bd (bd (.ok odd) fun v18 => (bd (bd (bd (.ok (.int 9)) negD) fun v16 => (bd (bd (.ok (.int 9)) fun v14 => (bd (.ok []) fun r15 => .ok (v14 :: r15))) fun r17 => .ok (v16 :: r17))) fun r19 => .ok (v18 :: r19))) (ul3 F_is_within)) fun d => .ok (.rt d)))
theorem ok_are_parts (F : FnA K d_are_parts fd) (T : Tx K mg) (G_is_within : PromO P w K mg base CX0 2 (gd "is_within" K) [] (spF K Tb (ul3 F_is_within))) : FnOk P w K mg base CX0 3 (d_are_parts.adr K) fd ["halves", "more", "odd"] (spF K Tb (ul3 F_are_parts)) := by
  refine fnO0 F sc_are_parts (fun vs H Q E h => spF_len len3 h) (fun cdv A outer s H vs Q E hr h => ?_)
  refine ⟨_, (pss_cons (ps_if (PW.pt (pw_or (pt_not (pt_val (pe_g (PromO.call G_is_within (hr.mono (by decide)) (passA (E := E))) (by rfl) T.g_is_within T.k_is_within (pa_cons (pv 0) (pa_cons pe_int (pa_cons (pe_gi T.m_MOST_HALVES (by rfl)) pa_nil)))))) (pw_or1 (pt_not (pt_val (pe_g (PromO.call G_is_within (hr.mono (by decide)) (passA (E := E))) (by rfl) T.g_is_within T.k_is_within (pa_cons (pv 1) (pa_cons (pe_un un_neg (pe_gi T.m_MOST_MORE (by rfl))) (pa_cons (pe_gi T.m_MOST_MORE (by rfl)) pa_nil)))))))))
      (pss_cons (ps_ret pe_bl) pss_nil) pss_nil)
      (pss_cons (ps_ret (pe_g (PromO.call G_is_within (hr.mono (by decide)) (passA (E := E))) (by rfl) T.g_is_within T.k_is_within (pa_cons (pv 2) (pa_cons (pe_un un_neg (pe_gi T.m_MOST_ODD (by rfl))) (pa_cons (pe_gi T.m_MOST_ODD (by rfl)) pa_nil))))) pss_nil)), ?_⟩
  exact fn_of3 (F := F_are_parts) (envU := fun _ => List.replicate 3 .no) h (fun halves more odd => rfl) (fun p c halves more odd => (ss_if (fun (w13 : Unit) => [.fz halves, .fz more, .fz odd]) (sb_or (sb_not (sb_tb (se_cl srl_sp0 (sa_cons se_var (sa_cons se_int (sa_cons se_int sa_nil)))))) (sb_not (sb_tb (se_cl srl_sp0 (sa_cons se_var (sa_cons (se_un sr_neg se_int) (sa_cons se_int sa_nil))))))) (ss_ret se_bl) (ss_nx (.s (.s (.s .nil)))) (fun (w13 : Unit) => (ss_ret (se_cl srl_sp0 (sa_cons se_var (sa_cons (se_un sr_neg se_int) (sa_cons se_int sa_nil))))))))
abbrev N_Span_read : List Str := ["cls", "text", "words", "numbers", "halves", "odd", "more", "word"]
theorem sc_Span_read : FnScope N_Span_read ["cls", "text"] (defScope s_Span_read) := ⟨rfl, rfl, rfl, by decide +kernel, rfl, by decide +kernel, by decide +kernel⟩
def F_Span_read (text : D) : Tr D :=
  fin (bd (bd (bd (bd (.ok text) fun d => bd (opt (isi_str d)) fun k => .ok (.bl k)) asB) fun k => if k = true then (bd (.ok text) fun v2 => (isS v2 fun _ => (bd (.ok (.str " ")) fun v3 => splitD v2 v3))) else (bd (.ok []) fun ds => if ds.length ≤ sizeLine then .ok (.lst ds) else .bad)) fun words0 => (bdF (W' := Unit) (bd (bd (bd (bd (bd (bd (.ok words0) fun v4 => (bd (.ok []) fun r5 => .ok (v4 :: r5))) (ul1 lenD)) fun v6 => (bd (.ok (.int 6)) fun v7 => neD v6 v7)) asB) fun k => if k = true then .ok true else (bd (bd (bd (.ok words0) fun v8 => (bd (bd (.ok (.int 1)) asI) fun lo => bd (.ok none) fun hi => stepD v8 lo hi 2)) fun v16 => (bd (bd (bd (.ok (.str "halves")) fun v14 => (bd (bd (.ok (.str "odd")) fun v12 => (bd (bd (.ok (.str "more")) fun v10 => (bd (.ok []) fun r11 => .ok (v10 :: r11))) fun r13 => .ok (v12 :: r13))) fun r15 => .ok (v14 :: r15))) fun ds => if ds.length ≤ sizeLine then .ok (.lst ds) else .bad) fun v17 => neD v16 v17)) asB)) fun k => if k = true then (bd (bd (.ok (.int 0)) fun v21 => (bd (bd (.ok (.int 0)) fun v19 => (bd (.ok []) fun r20 => .ok (v19 :: r20))) fun r22 => .ok (v21 :: r22))) (ul2 fun d1 d2 => .ex "BadText" [("word", d2), ("line", d1)])) else (.ok (.nx ()))) fun (w18 : Unit) => (bd (bd (bd (bd (.ok words0) fun v24 => (bd (.ok none) fun lo => bd (.ok none) fun hi => stepD v24 lo hi 2)) itD) fun ds => bd (lcF (fun word25 => nox (bd (bd (bd (.ok word25) fun v27 => (bd (.ok []) fun r28 => .ok (v27 :: r28))) (ul1 F_number_in)) fun y => .ok (some y))) ds) fun r => .ok (.lst r)) fun numbers22 => (bdF (W' := Unit) (bd (bd (bd (.ok .non) fun v29 => (bd (.ok numbers22) fun v30 => inOD v29 v30)) asB) fun k => if k = true then (bd (bd (.ok (.int 0)) fun v34 => (bd (bd (.ok (.int 0)) fun v32 => (bd (.ok []) fun r33 => .ok (v32 :: r33))) fun r35 => .ok (v34 :: r35))) (ul2 fun d1 d2 => .ex "BadText" [("word", d2), ("line", d1)])) else (.ok (.nx ()))) fun (w31 : Unit) => (bd (.ok numbers22) fun d37 => unL3 d37 fun halves35 odd35 more35 => (bdF (W' := Unit) (bd (bd (bd (bd (bd (.ok halves35) fun v42 => (bd (bd (.ok more35) fun v40 => (bd (bd (.ok odd35) fun v38 => (bd (.ok []) fun r39 => .ok (v38 :: r39))) fun r41 => .ok (v40 :: r41))) fun r43 => .ok (v42 :: r43))) (ul3 F_are_parts)) asB) fun k => .ok (!k)) fun k => if k = true then (bd (bd (.ok (.int 0)) fun v47 => (bd (bd (.ok (.int 0)) fun v45 => (bd (.ok []) fun r46 => .ok (v45 :: r46))) fun r48 => .ok (v47 :: r48))) (ul2 fun d1 d2 => .ex "BadText" [("word", d2), ("line", d1)])) else (.ok (.nx ()))) fun (w44 : Unit) => (bd (bd (bd (.ok halves35) fun v53 => (bd (bd (.ok more35) fun v51 => (bd (bd (.ok odd35) fun v49 => (bd (.ok []) fun r50 => .ok (v49 :: r50))) fun r52 => .ok (v51 :: r52))) fun r54 => .ok (v53 :: r54))) (fun ds => bd ((fun fs => ul3 (F_Span___init__ fs)) [] ds) fun fs => .ok (.obj "Span" fs))) fun d => .ok (.rt d))))))))
theorem ok_Span_read (F : FnA K d_Span_read fd) (T : Tx K mg) (G_BadText___init__ : PromO P w K mg base CX0 1 (md "BadText" "__init__" K) [] (spErr2 (gd "BadText" K) "line" "word")) (G_number_in : PromO P w K mg base CX0 1 (gd "number_in" K) [] (spF K Tb (ul1 F_number_in))) (G_are_parts : PromO P w K mg base CX0 3 (gd "are_parts" K) [] (spF K Tb (ul3 F_are_parts))) (G_Span___init__ : PromO P w K mg base (L2.CX P w) 3 (md "Span" "__init__" K) [] (spI K Tb "Span" (fun fs => ul3 (F_Span___init__ fs)))) : FnOk P w K mg base (L2.CX P w) 5 (d_Span_read.adr K) fd ["cls", "text"] (spK K Tb "Span" (ul1 F_Span_read)) := by
  refine F.ok sc_Span_read (fun vs H Q E h => spK_len len1 h) (fun cdv A outer s H vs Q E hr h => ?_)
  refine ⟨_, (pss_cons (ps_set (i := 2) sc_Span_read.nd rfl (.inl rfl) (pe_ifExp (pt_val (pe_callB (call_isiZ (K := K) rfl) (by rfl) T.f_isinstance (by decide +kernel) (pa_cons (pv 1) (pa_cons (pe_bltn (v := .ty "str") (by rfl) T.f_str (by decide +kernel) rfl) pa_nil)))) (pe_split (pv 1) pe_str) (pe_lst pa_nil)))
      (pss_cons (ps_if (PW.pt (pw_or (pt_cmpR (op_neA (K := K) rfl hr.units) (pe_callB (cr_len (K := K) rfl) (by rfl) T.f_len (by decide +kernel) (pa_cons (pv 2) pa_nil)) pe_int (nomark _)) (pw_or1 (pt_cmpR (op_neA (K := K) rfl hr.units) (pe_st (K := K) rfl (by decide) (pv 2) (po_some pe_int) po_none) (pe_lst (pa_cons pe_str (pa_cons pe_str (pa_cons pe_str pa_nil)))) (nomark _)))))
      (pss_cons (ps_raise rfl (takes_of rfl rfl rfl rfl) (pmk_po T.ox_BadText T.in_BadText.iC T.in_BadText.tI G_BadText___init__ (hr.mono (by decide)) pass0 T.g_BadText (pa_cons pe_int (pa_cons pe_int pa_nil)))) pss_nil) pss_nil)
      (pss_cons (ps_setLc (i := 3) (own := [("word", 7)]) (g := gName 7) (by rfl) sc_Span_read.nd rfl rfl (sw_true rfl rfl rfl (by decide +kernel)) (pi_seq (K := K) rfl (pe_st (K := K) rfl (by decide) (pv 2) po_none po_none)) (blkOk_by (own := [("word", 7)]) (N := N_Span_read) (sc := defScope s_Span_read) (by decide +kernel)) (fun _ _ _ _ _ => pg_name (i := 7) sc_Span_read.nd rfl (Or.inl rfl)) (fun _ _ _ _ _ => pts_nil) (fun _ _ _ _ _ => (pe_g (PromO.call G_number_in (hr.mono (by decide)) (passA (E := EF))) (by rfl) T.g_number_in T.k_number_in (pa_cons (pv 7) pa_nil))))
      (pss_cons (ps_if (pt_cmpR (op_inA (K := K) rfl) pe_non (pv 3) (by rfl))
      (pss_cons (ps_raise rfl (takes_of rfl rfl rfl rfl) (pmk_po T.ox_BadText T.in_BadText.iC T.in_BadText.tI G_BadText___init__ (hr.mono (by decide)) pass0 T.g_BadText (pa_cons pe_int (pa_cons pe_int pa_nil)))) pss_nil) pss_nil)
      (pss_cons (ps_asg (pv 3) (pg_unl rfl (pgs_cons (pg_name (i := 4) sc_Span_read.nd rfl (.inl rfl)) (pgs_cons (pg_name (i := 5) sc_Span_read.nd rfl (.inl rfl)) (pgs_cons (pg_name (i := 6) sc_Span_read.nd rfl (.inl rfl)) pgs_nil)))))
      (pss_cons (ps_if (pt_not (pt_val (pe_g (PromO.call G_are_parts (hr.mono (by decide)) (passA (E := E))) (by rfl) T.g_are_parts T.k_are_parts (pa_cons (pv 4) (pa_cons (pv 6) (pa_cons (pv 5) pa_nil))))))
      (pss_cons (ps_raise rfl (takes_of rfl rfl rfl rfl) (pmk_po T.ox_BadText T.in_BadText.iC T.in_BadText.tI G_BadText___init__ (hr.mono (by decide)) pass0 T.g_BadText (pa_cons pe_int (pa_cons pe_int pa_nil)))) pss_nil) pss_nil)
      (pss_cons (ps_ret (pe_callV (pv 0) T.k_Span (PromO.make T.mk_Span G_Span___init__ (hr.mono (by decide)) (pass_on rfl rfl rfl rfl)) (pa_cons (pv 4) (pa_cons (pv 6) (pa_cons (pv 5) pa_nil))))) pss_nil))))))), ?_⟩
  exact fn_ofK1 (F := F_Span_read) (envU := fun _ => List.replicate 8 .no) h (fun text => rfl) (fun p c text => (ss_asg (se_if (sb_tb (se_isi (.ty _) (isT_str T) se_var)) (se_split se_var (se_str (by decide))) (se_lst sa_nil)) (fun words0 => (ss_if (fun (w18 : Unit) => [.fz (.cls "Span"), .fz text, .fz words0, .no, .no, .no, .no, .no]) (sb_or (sb_tst (se_op sr_ne (se_cb srl_len (sa_cons se_var sa_nil)) se_int)) (sb_tst (se_op sr_ne (se_st se_var (so_some se_int) so_none) (se_lst (sa_cons (se_str (by decide)) (sa_cons (se_str (by decide)) (sa_cons (se_str (by decide)) sa_nil))))))) (ss_raise2 (sa_cons se_int (sa_cons se_int sa_nil))) (ss_nx (.s (.s (.s (.s (.s (.s (.s (.s .nil))))))))) (fun (w18 : Unit) => (ss_asg (se_lc (si_seq (se_st se_var so_none so_none)) (fun word25 => (sc_map (se_cl srl_sp0 (sa_cons se_var sa_nil))))) (fun numbers22 => (ss_if (fun (w31 : Unit) => [.fz (.cls "Span"), .fz text, .fz words0, .fz numbers22, .no, .no, .no, .no]) (sb_tst (se_op sr_in se_non se_var)) (ss_raise2 (sa_cons se_int (sa_cons se_int sa_nil))) (ss_nx (.s (.s (.s (.s (.s (.s (.s (.s .nil))))))))) (fun (w31 : Unit) => (ss_unp se_var (fun d37 => sx_lst3 (fun halves35 odd35 more35 => (ss_if (fun (w44 : Unit) => [.fz (.cls "Span"), .fz text, .fz words0, .fz numbers22, .fz halves35, .fz odd35, .fz more35, .no]) (sb_not (sb_tb (se_cl srl_sp0 (sa_cons se_var (sa_cons se_var (sa_cons se_var sa_nil)))))) (ss_raise2 (sa_cons se_int (sa_cons se_int sa_nil))) (ss_nx (.s (.s (.s (.s (.s (.s (.s (.s .nil))))))))) (fun (w44 : Unit) => (ss_ret (se_callK (i := 0) srl_mk0 (sa_cons se_var (sa_cons se_var (sa_cons se_var sa_nil)))))))))))))))))))
abbrev N_Span_plus : List Str := ["self", "other", "sign"]
theorem sc_Span_plus : FnScope N_Span_plus ["self", "other", "sign"] (defScope s_Span_plus) := ⟨rfl, rfl, rfl, by decide +kernel, rfl, by decide +kernel, by decide +kernel⟩
def F_Span_plus (self other sign : D) : Tr D :=
  fin (bdF (W' := Unit) (bd (bd (bd (.ok other) fun d => bd (opt (isi_Span d)) fun k => .ok (.bl k)) asB) fun k => if k = true then (bd (bd (bd (bd (bd (.ok self) fun o2 => (isO "Span" o2 fun _ => nox ((ul1 F_Span_halves) [o2]))) fun v6 => (bd (bd (.ok sign) fun v4 => (bd (bd (.ok other) fun o3 => (isO "Span" o3 fun _ => nox ((ul1 F_Span_halves) [o3]))) fun v5 => mulD v4 v5)) fun v7 => addD v6 v7)) fun v24 => (bd (bd (bd (bd (.ok self) fun o8 => (isO "Span" o8 fun _ => nox ((ul1 F_Span_more) [o8]))) fun v12 => (bd (bd (.ok sign) fun v10 => (bd (bd (.ok other) fun o9 => (isO "Span" o9 fun _ => nox ((ul1 F_Span_more) [o9]))) fun v11 => mulD v10 v11)) fun v13 => addD v12 v13)) fun v22 => (bd (bd (bd (bd (.ok self) fun o14 => (isO "Span" o14 fun _ => nox ((ul1 F_Span_odd) [o14]))) fun v18 => (bd (bd (.ok sign) fun v16 => (bd (bd (.ok other) fun o15 => (isO "Span" o15 fun _ => nox ((ul1 F_Span_odd) [o15]))) fun v17 => mulD v16 v17)) fun v19 => addD v18 v19)) fun v20 => (bd (.ok []) fun r21 => .ok (v20 :: r21))) fun r23 => .ok (v22 :: r23))) fun r25 => .ok (v24 :: r25))) (fun ds => bd ((fun fs => ul3 (F_Span___init__ fs)) [] ds) fun fs => .ok (.obj "Span" fs))) fun d => .ok (.rt d)) else (.ok (.nx ()))) fun (w1 : Unit) => (bd (bd (bd (bd (.ok self) fun o26 => (isO "Span" o26 fun _ => nox ((ul1 F_Span_halves) [o26]))) fun v37 => (bd (bd (bd (bd (.ok self) fun o27 => (isO "Span" o27 fun _ => nox ((ul1 F_Span_more) [o27]))) fun v30 => (bd (bd (.ok sign) fun v28 => (bd (.ok other) fun v29 => mulD v28 v29)) fun v31 => addD v30 v31)) fun v35 => (bd (bd (bd (.ok self) fun o32 => (isO "Span" o32 fun _ => nox ((ul1 F_Span_odd) [o32]))) fun v33 => (bd (.ok []) fun r34 => .ok (v33 :: r34))) fun r36 => .ok (v35 :: r36))) fun r38 => .ok (v37 :: r38))) (fun ds => bd ((fun fs => ul3 (F_Span___init__ fs)) [] ds) fun fs => .ok (.obj "Span" fs))) fun d => .ok (.rt d)))
theorem ok_Span_plus (F : FnA K d_Span_plus fd) (T : Tx K mg) (G_Span___init__ : PromO P w K mg base (L2.CX P w) 3 (md "Span" "__init__" K) [] (spI K Tb "Span" (fun fs => ul3 (F_Span___init__ fs)))) (G_Span_halves : PromO P w K mg base CX0 1 (propG "Span" "halves" K) [] (spF K Tb (ul1 F_Span_halves))) (G_Span_more : PromO P w K mg base CX0 1 (propG "Span" "more" K) [] (spF K Tb (ul1 F_Span_more))) (G_Span_odd : PromO P w K mg base CX0 1 (propG "Span" "odd" K) [] (spF K Tb (ul1 F_Span_odd))) : FnOk P w K mg base (L2.CX P w) 5 (d_Span_plus.adr K) fd ["self", "other", "sign"] (spF K Tb (ul3 F_Span_plus)) := by
  refine F.ok sc_Span_plus (fun vs H Q E h => spF_len len3 h) (fun cdv A outer s H vs Q E hr h => ?_)
  refine ⟨_, (pss_cons (ps_if (pt_val (pe_callB (call_isiZ (K := K) rfl) (by rfl) T.f_isinstance (by decide +kernel) (pa_cons (pv 1) (pa_cons (pe_glob (v := .ref _) rfl T.g_Span rfl) pa_nil))))
      (pss_cons (ps_ret (pe_g (PromO.make T.mk_Span G_Span___init__ (hr.mono (by decide)) (pass_on rfl rfl rfl rfl)) (by rfl) T.g_Span T.k_Span (pa_cons (pe_op (op_addA (K := K) rfl) (pe_po (pv 0) T.cl_Span T.pr_Span_halves G_Span_halves (hr.mono (by decide)) (passA (E := EF))) (pe_op op_mulA (pv 2) (pe_po (pv 1) T.cl_Span T.pr_Span_halves G_Span_halves (hr.mono (by decide)) (passA (E := EF))))) (pa_cons (pe_op (op_addA (K := K) rfl) (pe_po (pv 0) T.cl_Span T.pr_Span_more G_Span_more (hr.mono (by decide)) (passA (E := EF))) (pe_op op_mulA (pv 2) (pe_po (pv 1) T.cl_Span T.pr_Span_more G_Span_more (hr.mono (by decide)) (passA (E := EF))))) (pa_cons (pe_op (op_addA (K := K) rfl) (pe_po (pv 0) T.cl_Span T.pr_Span_odd G_Span_odd (hr.mono (by decide)) (passA (E := EF))) (pe_op op_mulA (pv 2) (pe_po (pv 1) T.cl_Span T.pr_Span_odd G_Span_odd (hr.mono (by decide)) (passA (E := EF))))) pa_nil))))) pss_nil) pss_nil)
      (pss_cons (ps_ret (pe_g (PromO.make T.mk_Span G_Span___init__ (hr.mono (by decide)) (pass_on rfl rfl rfl rfl)) (by rfl) T.g_Span T.k_Span (pa_cons (pe_po (pv 0) T.cl_Span T.pr_Span_halves G_Span_halves (hr.mono (by decide)) (passA (E := EF))) (pa_cons (pe_op (op_addA (K := K) rfl) (pe_po (pv 0) T.cl_Span T.pr_Span_more G_Span_more (hr.mono (by decide)) (passA (E := EF))) (pe_op op_mulA (pv 2) (pv 1))) (pa_cons (pe_po (pv 0) T.cl_Span T.pr_Span_odd G_Span_odd (hr.mono (by decide)) (passA (E := EF))) pa_nil))))) pss_nil)), ?_⟩
  exact fn_of3 (F := F_Span_plus) (envU := fun _ => List.replicate 3 .no) h (fun self other sign => rfl) (fun p c self other sign => (ss_if (fun (w1 : Unit) => [.fz self, .fz other, .fz sign]) (sb_tb (se_isi (.own _) (isT_Span T) se_var)) (ss_ret (se_cl srl_mk0 (sa_cons (se_op sr_add (se_prX se_var) (se_op sr_mul se_var (se_prX se_var))) (sa_cons (se_op sr_add (se_prX se_var) (se_op sr_mul se_var (se_prX se_var))) (sa_cons (se_op sr_add (se_prX se_var) (se_op sr_mul se_var (se_prX se_var))) sa_nil))))) (ss_nx (.s (.s (.s .nil)))) (fun (w1 : Unit) => (ss_ret (se_cl srl_mk0 (sa_cons (se_prX se_var) (sa_cons (se_op sr_add (se_prX se_var) (se_op sr_mul se_var se_var)) (sa_cons (se_prX se_var) sa_nil))))))))
abbrev N_Span___add__ : List Str := ["self", "other"]
theorem sc_Span___add__ : FnScope N_Span___add__ ["self", "other"] (defScope s_Span___add__) := ⟨rfl, rfl, rfl, by decide +kernel, rfl, by decide +kernel, by decide +kernel⟩
def F_Span___add__ (self other : D) : Tr D :=
  fin (bd (bd (.ok self) fun o5 => (isO "Span" o5 fun fs => if fs.lookup ("plus" : Str) = none then bd (bd (.ok other) fun v3 => (bd (bd (.ok (.int 1)) fun v1 => (bd (.ok []) fun r2 => .ok (v1 :: r2))) fun r4 => .ok (v3 :: r4))) fun ds => (ul3 F_Span_plus) (o5 :: ds) else .bad)) fun d => .ok (.rt d))
theorem ok_Span___add__ (F : FnA K d_Span___add__ fd) (T : Tx K mg) (G_Span_plus : PromO P w K mg base (L2.CX P w) 5 (md "Span" "plus" K) [] (spF K Tb (ul3 F_Span_plus))) : FnOk P w K mg base (L2.CX P w) 6 (d_Span___add__.adr K) fd ["self", "other"] (spF K Tb (ul2 F_Span___add__)) := by
  refine F.ok sc_Span___add__ (fun vs H Q E h => spF_len len2 h) (fun cdv A outer s H vs Q E hr h => ?_)
  refine ⟨_, (pss_cons (ps_ret (pe_m (pv 0) T.cl_Span T.mt_Span_plus (PromO.call G_Span_plus (hr.mono (by decide)) (pass_on rfl rfl rfl rfl)) (pa_cons (pv 1) (pa_cons pe_int pa_nil)))) pss_nil), ?_⟩
  exact fn_of2 (F := F_Span___add__) (envU := fun _ => List.replicate 2 .no) h (fun self other => rfl) (fun p c self other => (ss_ret (se_mt srl_sp0 se_var (sa_cons se_var (sa_cons se_int sa_nil)))))
abbrev N_Span___radd__ : List Str := ["self", "other"]
theorem sc_Span___radd__ : FnScope N_Span___radd__ ["self", "other"] (defScope s_Span___radd__) := ⟨rfl, rfl, rfl, by decide +kernel, rfl, by decide +kernel, by decide +kernel⟩
def F_Span___radd__ (self other : D) : Tr D :=
  fin (bd (bd (.ok self) fun o5 => (isO "Span" o5 fun fs => if fs.lookup ("plus" : Str) = none then bd (bd (.ok other) fun v3 => (bd (bd (.ok (.int 1)) fun v1 => (bd (.ok []) fun r2 => .ok (v1 :: r2))) fun r4 => .ok (v3 :: r4))) fun ds => (ul3 F_Span_plus) (o5 :: ds) else .bad)) fun d => .ok (.rt d))
theorem ok_Span___radd__ (F : FnA K d_Span___radd__ fd) (T : Tx K mg) (G_Span_plus : PromO P w K mg base (L2.CX P w) 5 (md "Span" "plus" K) [] (spF K Tb (ul3 F_Span_plus))) : FnOk P w K mg base (L2.CX P w) 6 (d_Span___radd__.adr K) fd ["self", "other"] (spF K Tb (ul2 F_Span___radd__)) := by
  refine F.ok sc_Span___radd__ (fun vs H Q E h => spF_len len2 h) (fun cdv A outer s H vs Q E hr h => ?_)
  refine ⟨_, (pss_cons (ps_ret (pe_m (pv 0) T.cl_Span T.mt_Span_plus (PromO.call G_Span_plus (hr.mono (by decide)) (pass_on rfl rfl rfl rfl)) (pa_cons (pv 1) (pa_cons pe_int pa_nil)))) pss_nil), ?_⟩
  exact fn_of2 (F := F_Span___radd__) (envU := fun _ => List.replicate 2 .no) h (fun self other => rfl) (fun p c self other => (ss_ret (se_mt srl_sp0 se_var (sa_cons se_var (sa_cons se_int sa_nil)))))
abbrev N_Span___sub__ : List Str := ["self", "other"]
theorem sc_Span___sub__ : FnScope N_Span___sub__ ["self", "other"] (defScope s_Span___sub__) := ⟨rfl, rfl, rfl, by decide +kernel, rfl, by decide +kernel, by decide +kernel⟩
def F_Span___sub__ (self other : D) : Tr D :=
  fin (bd (bd (.ok self) fun o5 => (isO "Span" o5 fun fs => if fs.lookup ("plus" : Str) = none then bd (bd (.ok other) fun v3 => (bd (bd (bd (.ok (.int 1)) negD) fun v1 => (bd (.ok []) fun r2 => .ok (v1 :: r2))) fun r4 => .ok (v3 :: r4))) fun ds => (ul3 F_Span_plus) (o5 :: ds) else .bad)) fun d => .ok (.rt d))
theorem ok_Span___sub__ (F : FnA K d_Span___sub__ fd) (T : Tx K mg) (G_Span_plus : PromO P w K mg base (L2.CX P w) 5 (md "Span" "plus" K) [] (spF K Tb (ul3 F_Span_plus))) : FnOk P w K mg base (L2.CX P w) 6 (d_Span___sub__.adr K) fd ["self", "other"] (spF K Tb (ul2 F_Span___sub__)) := by
  refine F.ok sc_Span___sub__ (fun vs H Q E h => spF_len len2 h) (fun cdv A outer s H vs Q E hr h => ?_)
  refine ⟨_, (pss_cons (ps_ret (pe_m (pv 0) T.cl_Span T.mt_Span_plus (PromO.call G_Span_plus (hr.mono (by decide)) (pass_on rfl rfl rfl rfl)) (pa_cons (pv 1) (pa_cons (pe_un un_neg pe_int) pa_nil)))) pss_nil), ?_⟩
  exact fn_of2 (F := F_Span___sub__) (envU := fun _ => List.replicate 2 .no) h (fun self other => rfl) (fun p c self other => (ss_ret (se_mt srl_sp0 se_var (sa_cons se_var (sa_cons (se_un sr_neg se_int) sa_nil)))))
abbrev N_Span___mul__ : List Str := ["self", "other"]
theorem sc_Span___mul__ : FnScope N_Span___mul__ ["self", "other"] (defScope s_Span___mul__) := ⟨rfl, rfl, rfl, by decide +kernel, rfl, by decide +kernel, by decide +kernel⟩
def F_Span___mul__ (self other : D) : Tr D :=
  fin (bd (bd (bd (bd (bd (.ok self) fun o1 => (isO "Span" o1 fun _ => nox ((ul1 F_Span_halves) [o1]))) fun v2 => (bd (.ok other) fun v3 => mulD v2 v3)) fun v14 => (bd (bd (bd (bd (.ok self) fun o4 => (isO "Span" o4 fun _ => nox ((ul1 F_Span_more) [o4]))) fun v5 => (bd (.ok other) fun v6 => mulD v5 v6)) fun v12 => (bd (bd (bd (bd (.ok self) fun o7 => (isO "Span" o7 fun _ => nox ((ul1 F_Span_odd) [o7]))) fun v8 => (bd (.ok other) fun v9 => mulD v8 v9)) fun v10 => (bd (.ok []) fun r11 => .ok (v10 :: r11))) fun r13 => .ok (v12 :: r13))) fun r15 => .ok (v14 :: r15))) (fun ds => bd ((fun fs => ul3 (F_Span___init__ fs)) [] ds) fun fs => .ok (.obj "Span" fs))) fun d => .ok (.rt d))
theorem ok_Span___mul__ (F : FnA K d_Span___mul__ fd) (T : Tx K mg) (G_Span___init__ : PromO P w K mg base (L2.CX P w) 3 (md "Span" "__init__" K) [] (spI K Tb "Span" (fun fs => ul3 (F_Span___init__ fs)))) (G_Span_halves : PromO P w K mg base CX0 1 (propG "Span" "halves" K) [] (spF K Tb (ul1 F_Span_halves))) (G_Span_more : PromO P w K mg base CX0 1 (propG "Span" "more" K) [] (spF K Tb (ul1 F_Span_more))) (G_Span_odd : PromO P w K mg base CX0 1 (propG "Span" "odd" K) [] (spF K Tb (ul1 F_Span_odd))) : FnOk P w K mg base (L2.CX P w) 5 (d_Span___mul__.adr K) fd ["self", "other"] (spF K Tb (ul2 F_Span___mul__)) := by
  refine F.ok sc_Span___mul__ (fun vs H Q E h => spF_len len2 h) (fun cdv A outer s H vs Q E hr h => ?_)
  refine ⟨_, (pss_cons (ps_ret (pe_g (PromO.make T.mk_Span G_Span___init__ (hr.mono (by decide)) (pass_on rfl rfl rfl rfl)) (by rfl) T.g_Span T.k_Span (pa_cons (pe_op op_mulA (pe_po (pv 0) T.cl_Span T.pr_Span_halves G_Span_halves (hr.mono (by decide)) (passA (E := EF))) (pv 1)) (pa_cons (pe_op op_mulA (pe_po (pv 0) T.cl_Span T.pr_Span_more G_Span_more (hr.mono (by decide)) (passA (E := EF))) (pv 1)) (pa_cons (pe_op op_mulA (pe_po (pv 0) T.cl_Span T.pr_Span_odd G_Span_odd (hr.mono (by decide)) (passA (E := EF))) (pv 1)) pa_nil))))) pss_nil), ?_⟩
  exact fn_of2 (F := F_Span___mul__) (envU := fun _ => List.replicate 2 .no) h (fun self other => rfl) (fun p c self other => (ss_ret (se_cl srl_mk0 (sa_cons (se_op sr_mul (se_prX se_var) se_var) (sa_cons (se_op sr_mul (se_prX se_var) se_var) (sa_cons (se_op sr_mul (se_prX se_var) se_var) sa_nil))))))
abbrev N_Span___rmul__ : List Str := ["self", "other"]
theorem sc_Span___rmul__ : FnScope N_Span___rmul__ ["self", "other"] (defScope s_Span___rmul__) := ⟨rfl, rfl, rfl, by decide +kernel, rfl, by decide +kernel, by decide +kernel⟩
def F_Span___rmul__ (self other : D) : Tr D :=
  fin (bd (bd (bd (bd (bd (.ok self) fun o1 => (isO "Span" o1 fun _ => nox ((ul1 F_Span_halves) [o1]))) fun v2 => (bd (.ok other) fun v3 => mulD v2 v3)) fun v14 => (bd (bd (bd (bd (.ok self) fun o4 => (isO "Span" o4 fun _ => nox ((ul1 F_Span_more) [o4]))) fun v5 => (bd (.ok other) fun v6 => mulD v5 v6)) fun v12 => (bd (bd (bd (bd (.ok self) fun o7 => (isO "Span" o7 fun _ => nox ((ul1 F_Span_odd) [o7]))) fun v8 => (bd (.ok other) fun v9 => mulD v8 v9)) fun v10 => (bd (.ok []) fun r11 => .ok (v10 :: r11))) fun r13 => .ok (v12 :: r13))) fun r15 => .ok (v14 :: r15))) (fun ds => bd ((fun fs => ul3 (F_Span___init__ fs)) [] ds) fun fs => .ok (.obj "Span" fs))) fun d => .ok (.rt d))
theorem ok_Span___rmul__ (F : FnA K d_Span___rmul__ fd) (T : Tx K mg) (G_Span___init__ : PromO P w K mg base (L2.CX P w) 3 (md "Span" "__init__" K) [] (spI K Tb "Span" (fun fs => ul3 (F_Span___init__ fs)))) (G_Span_halves : PromO P w K mg base CX0 1 (propG "Span" "halves" K) [] (spF K Tb (ul1 F_Span_halves))) (G_Span_more : PromO P w K mg base CX0 1 (propG "Span" "more" K) [] (spF K Tb (ul1 F_Span_more))) (G_Span_odd : PromO P w K mg base CX0 1 (propG "Span" "odd" K) [] (spF K Tb (ul1 F_Span_odd))) : FnOk P w K mg base (L2.CX P w) 5 (d_Span___rmul__.adr K) fd ["self", "other"] (spF K Tb (ul2 F_Span___rmul__)) := by
  refine F.ok sc_Span___rmul__ (fun vs H Q E h => spF_len len2 h) (fun cdv A outer s H vs Q E hr h => ?_)
  refine ⟨_, (pss_cons (ps_ret (pe_g (PromO.make T.mk_Span G_Span___init__ (hr.mono (by decide)) (pass_on rfl rfl rfl rfl)) (by rfl) T.g_Span T.k_Span (pa_cons (pe_op op_mulA (pe_po (pv 0) T.cl_Span T.pr_Span_halves G_Span_halves (hr.mono (by decide)) (passA (E := EF))) (pv 1)) (pa_cons (pe_op op_mulA (pe_po (pv 0) T.cl_Span T.pr_Span_more G_Span_more (hr.mono (by decide)) (passA (E := EF))) (pv 1)) (pa_cons (pe_op op_mulA (pe_po (pv 0) T.cl_Span T.pr_Span_odd G_Span_odd (hr.mono (by decide)) (passA (E := EF))) (pv 1)) pa_nil))))) pss_nil), ?_⟩
  exact fn_of2 (F := F_Span___rmul__) (envU := fun _ => List.replicate 2 .no) h (fun self other => rfl) (fun p c self other => (ss_ret (se_cl srl_mk0 (sa_cons (se_op sr_mul (se_prX se_var) se_var) (sa_cons (se_op sr_mul (se_prX se_var) se_var) (sa_cons (se_op sr_mul (se_prX se_var) se_var) sa_nil))))))
end
end Lw
end
section
set_option Elab.async false
set_option linter.all false
set_option maxRecDepth 100000
set_option maxHeartbeats 4000000
set_option pp.maxSteps 600
namespace Lw
open PySem PySem.Spec PyProof.Rows L2 Gh Gp Gz
section
variable {P : Program} {w : World} {K : PySem.W.Frag} {mg : Str → Option Value} {base : Heap} {f : Addr} {fd : FuncData} {Tb : List (Addr × Str)}
abbrev N__law_pick : List Str := ["_law_pen_here", "_law_some"]
theorem sc__law_pick : FnScope N__law_pick ["_law_pen_here", "_law_some"] (defScope s__law_pick) := ⟨rfl, rfl, rfl, by decide +kernel, rfl, by decide +kernel, by decide +kernel⟩
def F__law_pick (l_pen_here l_some : D) : Tr D :=
  fin (bd (bd (.ok l_some) fun v1 => (bd (bd (bd (.ok l_pen_here) fun v7 => (bd (bd (bd (bd (.ok l_some) fun v3 => (bd (.ok []) fun r4 => .ok (v3 :: r4))) (ul1 lenD)) fun v5 => (bd (.ok []) fun r6 => .ok (v5 :: r6))) fun r8 => .ok (v7 :: r8))) (ul2 F_draw)) fun v2 => ixD v1 v2)) fun d => .ok (.rt d))
theorem ok__law_pick (F : FnA K d__law_pick fd) (T : Tx K mg) (G__law_draw : PromO P w K mg base CX0 1 (gd "_law_draw" K) [] (spF K Tb (ul2 F_draw))) : FnOk P w K mg base CX0 2 (d__law_pick.adr K) fd ["_law_pen_here", "_law_some"] (spF K Tb (ul2 F__law_pick)) := by
  refine fnO0 F sc__law_pick (fun vs H Q E h => spF_len len2 h) (fun cdv A outer s H vs Q E hr h => ?_)
  refine ⟨_, (pss_cons (ps_ret (pe_ix (ix_seqK (K := K) rfl) (pv 1) (pe_g (PromO.call G__law_draw (hr.mono (by decide)) (passA (E := E))) (by rfl) T.g__law_draw T.k__law_draw (pa_cons (pv 0) (pa_cons (pe_callB (cr_len (K := K) rfl) (by rfl) T.f_len (by decide +kernel) (pa_cons (pv 1) pa_nil)) pa_nil))) (fun _ _ => rfl))) pss_nil), ?_⟩
  exact fn_of2 (F := F__law_pick) (envU := fun _ => List.replicate 2 .no) h (fun l_pen_here l_some => rfl) (fun p c l_pen_here l_some => (ss_ret (se_op sr_ix se_var (se_cl srl_sp0 (sa_cons se_var (sa_cons (se_cb srl_len (sa_cons se_var sa_nil)) sa_nil))))))
abbrev N__law_heard : List Str := ["_law_ask", "_law_caught", "error"]
theorem sc__law_heard : FnScope N__law_heard ["_law_ask"] (defScope s__law_heard) := ⟨rfl, rfl, rfl, by decide +kernel, rfl, by decide +kernel, by decide +kernel⟩
def xh__law_heard (cl : Str) : Bool := decide (cl ∈ (["BadSpan", "BadText"] : List Str))
theorem xhT__law_heard (T : Tx K mg) : ∀ cl, xh__law_heard cl = true → PySem.W.exmOne K (.ref (gd cl K)) (.ref (gd "HuntError" K)) = some true := by
  intro cl h
  unfold xh__law_heard at h
  simp only [decide_eq_true_eq, List.mem_cons, List.mem_nil_iff, or_false] at h
  rcases h with rfl | rfl
  · exact T.xh_BadSpan
  · exact T.xh_BadText
def F__law_heard (m : Tr D) : Tr D := tryT (bd m fun d => .ok (.tup [.str "told", d])) .ok (fun cl fs => if xh__law_heard cl = true then nox (fin (bdF (W' := Unit) (bd (bd (bd (.ok (.err cl fs)) fun d => bd (opt (isi_BadSpan d)) fun k => .ok (.bl k)) asB) fun k => if k = true then (bd (bd (bd (.ok (.str "span")) fun v4 => (bd (bd (bd (.ok (.err cl fs)) (xaD ["BadSpan"] "part")) fun v2 => (bd (.ok []) fun r3 => .ok (v2 :: r3))) fun r5 => .ok (v4 :: r5))) fun ds => if ds.length ≤ sizeLine then .ok (.tup ds) else .bad) fun d => .ok (.rt d)) else (.ok (.nx ()))) fun (w1 : Unit) => (bd (bd (bd (bd (.ok (.err cl fs)) fun d => bd (opt (isi_BadText d)) fun k => .ok (.bl k)) asB) fun k => if k = true then (bd (bd (.ok (.str "text")) fun v10 => (bd (bd (bd (.ok (.err cl fs)) (xaD ["BadText"] "line")) fun v8 => (bd (bd (bd (.ok (.err cl fs)) (xaD ["BadText"] "word")) fun v6 => (bd (.ok []) fun r7 => .ok (v6 :: r7))) fun r9 => .ok (v8 :: r9))) fun r11 => .ok (v10 :: r11))) fun ds => if ds.length ≤ sizeLine then .ok (.tup ds) else .bad) else (.ok (.str "odd"))) fun d => .ok (.rt d)))) else .bad)
theorem ok__law_heard {X : Cx} {Tb : List (Addr × Str)} (T : Tx X.K X.mg) {g : Addr} {cdv : Value} {q : Str} : LamX.GivesTo X N__law_heard "_law_heard" (defScope s__law_heard) g cdv (defBody s__law_heard) "_law_ask" q (THd X.K Tb F__law_heard) := by
  intro f c' s H Q tl act hc h
  obtain ⟨p, c, U, b, m, wd, u, ha, al⟩ := h

  refine ⟨_, pss_cons (ps_set (i := 1) sc__law_heard.nd rfl (.inl rfl) pe_non) (pss_cons (ps_try_keep (X := (cxOf C8.CX0 X.prog X.w X.K X.mg X.base N__law_heard "_law_heard" (defScope s__law_heard) g cdv X.A X.stack s H C8.E0).nox) (i := 2) (c := .ref (gd "HuntError" X.K)) (Wout := fun _ _ _ _ => False) (tb := fun W => tTry 3 (fun E => tRet (tTup (tCons (tC (.str "told")) (tCons (tAct f c' q (tl E)) tNil)))) W) rfl rfl rfl sc__law_heard.nd rfl rfl ⟨rfl, by decide, .inl T.g_HuntError⟩ LamX.takes0 (fun W pn xe tk _ => try_act 3 rfl tk fun E ⟨W', tk', hW⟩ => pss_one (ps_ret (pe_tup (pa_cons pe_str (pa_cons (act W' pn xe E _ _ tk' hW) pa_nil))))) (fun a oe cls d pn _ _ => pss_one (ps_set (i := 1) sc__law_heard.nd rfl (.inl rfl) (pv 2))))
      (pss_cons (ps_if (pt_val (pe_callB (call_isiZ (K := X.K) rfl) (by rfl) T.f_isinstance (by decide +kernel) (pa_cons (pv 1) (pa_cons (pe_glob (v := .ref _) rfl T.g_BadSpan rfl) pa_nil))))
      (pss_cons (ps_ret (pe_tup (pa_cons pe_str (pa_cons (pe_xa (K := X.K) rfl (pv 1)) pa_nil)))) pss_nil) pss_nil)
      (pss_cons (ps_ret (pe_ifExp (pt_val (pe_callB (call_isiZ (K := X.K) rfl) (by rfl) T.f_isinstance (by decide +kernel) (pa_cons (pv 1) (pa_cons (pe_glob (v := .ref _) rfl T.g_BadText rfl) pa_nil)))) (pe_tup (pa_cons pe_str (pa_cons (pe_xa (K := X.K) rfl (pv 1)) (pa_cons (pe_xa (K := X.K) rfl (pv 1)) pa_nil)))) pe_str)) pss_nil))), ?_⟩
  exact heardA (g := ⟨X.K, Tb, p, c⟩) (n := 3) (i := 2) (j := 1) (mrest := fun x => match x with | .err cl fs => (bdF (W' := Unit) (bd (bd (bd (.ok (.err cl fs)) fun d => bd (opt (isi_BadSpan d)) fun k => .ok (.bl k)) asB) fun k => if k = true then (bd (bd (bd (.ok (.str "span")) fun v4 => (bd (bd (bd (.ok (.err cl fs)) (xaD ["BadSpan"] "part")) fun v2 => (bd (.ok []) fun r3 => .ok (v2 :: r3))) fun r5 => .ok (v4 :: r5))) fun ds => if ds.length ≤ sizeLine then .ok (.tup ds) else .bad) fun d => .ok (.rt d)) else (.ok (.nx ()))) fun (w1 : Unit) => (bd (bd (bd (bd (.ok (.err cl fs)) fun d => bd (opt (isi_BadText d)) fun k => .ok (.bl k)) asB) fun k => if k = true then (bd (bd (.ok (.str "text")) fun v10 => (bd (bd (bd (.ok (.err cl fs)) (xaD ["BadText"] "line")) fun v8 => (bd (bd (bd (.ok (.err cl fs)) (xaD ["BadText"] "word")) fun v6 => (bd (.ok []) fun r7 => .ok (v6 :: r7))) fun r9 => .ok (v8 :: r9))) fun r11 => .ok (v10 :: r11))) fun ds => if ds.length ≤ sizeLine then .ok (.tup ds) else .bad) else (.ok (.str "odd"))) fun d => .ok (.rt d))) | _ => .bad) (envU := fun _ => List.replicate 3 .no) (xh := xh__law_heard) (HE := gd "HuntError" X.K) rfl (by decide) (by decide) (by decide) (by decide) (xhT__law_heard T) (fun cl fs => (ss_if (fun (w1 : Unit) => [.no, .fz (.err cl fs), .no]) (sb_tb (se_isi (.own _) (isT_BadSpan T) se_var)) (ss_ret (se_tup (sa_cons (se_str (by decide)) (sa_cons (se_xa (xt_part T) se_var) sa_nil)))) (ss_nx (.s (.s (.s .nil)))) (fun (w1 : Unit) => (ss_ret (se_if (sb_tb (se_isi (.own _) (isT_BadText T) se_var)) (se_tup (sa_cons (se_str (by decide)) (sa_cons (se_xa (xt_line T) se_var) (sa_cons (se_xa (xt_word T) se_var) sa_nil)))) (se_str (by decide))))))) (act_tup (by decide) hc (code_np wd hc) ha) wd u al
abbrev N__law_part : List Str := ["_law_pen_here", "_law_least", "_law_most"]
theorem sc__law_part : FnScope N__law_part ["_law_pen_here", "_law_least", "_law_most"] (defScope s__law_part) := ⟨rfl, rfl, rfl, by decide +kernel, rfl, by decide +kernel, by decide +kernel⟩
def F__law_part (l_pen_here l_least l_most : D) : Tr D :=
  fin (bdF (W' := Unit) (bd (bd (bd (bd (bd (.ok l_pen_here) fun v3 => (bd (bd (.ok (.int 5)) fun v1 => (bd (.ok []) fun r2 => .ok (v1 :: r2))) fun r4 => .ok (v3 :: r4))) (ul2 F_draw)) fun v5 => (bd (.ok (.int 0)) fun v6 => gtD v5 v6)) asB) fun k => if k = true then (bd (bd (bd (.ok l_pen_here) fun v30 => (bd (bd (bd (bd (.ok l_least) fun v26 => (bd (bd (.ok l_most) fun v24 => (bd (bd (bd (.ok l_least) fun v16 => (bd (bd (bd (.ok l_pen_here) fun v14 => (bd (bd (bd (bd (.ok l_most) fun v8 => (bd (.ok l_least) fun v9 => subD v8 v9)) fun v10 => (bd (.ok (.int 1)) fun v11 => addD v10 v11)) fun v12 => (bd (.ok []) fun r13 => .ok (v12 :: r13))) fun r15 => .ok (v14 :: r15))) (ul2 F_draw)) fun v17 => addD v16 v17)) fun v22 => (bd (bd (.ok (.int 0)) fun v20 => (bd (bd (.ok (.int 1)) fun v18 => (bd (.ok []) fun r19 => .ok (v18 :: r19))) fun r21 => .ok (v20 :: r21))) fun r23 => .ok (v22 :: r23))) fun r25 => .ok (v24 :: r25))) fun r27 => .ok (v26 :: r27))) fun ds => if ds.length ≤ sizeLine then .ok (.lst ds) else .bad) fun v28 => (bd (.ok []) fun r29 => .ok (v28 :: r29))) fun r31 => .ok (v30 :: r31))) (ul2 F__law_pick)) fun d => .ok (.rt d)) else (.ok (.nx ()))) fun (w7 : Unit) => (bd (bd (bd (.ok l_pen_here) fun v62 => (bd (bd (bd (bd (bd (.ok l_least) fun v32 => (bd (.ok (.int 1)) fun v33 => subD v32 v33)) fun v58 => (bd (bd (bd (.ok l_most) fun v34 => (bd (.ok (.int 1)) fun v35 => addD v34 v35)) fun v56 => (bd (bd (.ok .non) fun v54 => (bd (bd (.ok (.bl true)) fun v52 => (bd (bd (.ok (.bl false)) fun v50 => (bd (bd (.ok (.str "1")) fun v48 => (bd (bd (bd (bd (.ok (.int 1)) fun v36 => (bd (.ok []) fun r37 => .ok (v36 :: r37))) fun ds => if ds.length ≤ sizeLine then .ok (.tup ds) else .bad) fun v46 => (bd (bd (.ok (.int 10000000000000000000000000000000000000000)) fun v44 => (bd (bd (bd (.ok (.int 10000000000000000000000000000000000000000)) negD) fun v42 => (bd (bd (bd (.ok []) fun ds => if ds.length ≤ sizeLine then .ok (.lst ds) else .bad) fun v40 => (bd (bd (.ok .dct) fun v38 => (bd (.ok []) fun r39 => .ok (v38 :: r39))) fun r41 => .ok (v40 :: r41))) fun r43 => .ok (v42 :: r43))) fun r45 => .ok (v44 :: r45))) fun r47 => .ok (v46 :: r47))) fun r49 => .ok (v48 :: r49))) fun r51 => .ok (v50 :: r51))) fun r53 => .ok (v52 :: r53))) fun r55 => .ok (v54 :: r55))) fun r57 => .ok (v56 :: r57))) fun r59 => .ok (v58 :: r59))) fun ds => if ds.length ≤ sizeLine then .ok (.lst ds) else .bad) fun v60 => (bd (.ok []) fun r61 => .ok (v60 :: r61))) fun r63 => .ok (v62 :: r63))) (ul2 F__law_pick)) fun d => .ok (.rt d)))
theorem ok__law_part (F : FnA K d__law_part fd) (T : Tx K mg) (G__law_draw : PromO P w K mg base CX0 1 (gd "_law_draw" K) [] (spF K Tb (ul2 F_draw))) (G__law_pick : PromO P w K mg base CX0 2 (gd "_law_pick" K) [] (spF K Tb (ul2 F__law_pick))) : FnOk P w K mg base CX0 3 (d__law_part.adr K) fd ["_law_pen_here", "_law_least", "_law_most"] (spF K Tb (ul3 F__law_part)) := by
  refine fnO0 F sc__law_part (fun vs H Q E h => spF_len len3 h) (fun cdv A outer s H vs Q E hr h => ?_)
  refine ⟨_, (pss_cons (ps_if (pt_cmpR op_gt (pe_g (PromO.call G__law_draw (hr.mono (by decide)) (passA (E := E))) (by rfl) T.g__law_draw T.k__law_draw (pa_cons (pv 0) (pa_cons pe_int pa_nil))) pe_int (nomark _))
      (pss_cons (ps_ret (pe_g (PromO.call G__law_pick (hr.mono (by decide)) (passA (E := E))) (by rfl) T.g__law_pick T.k__law_pick (pa_cons (pv 0) (pa_cons (pe_lst (pa_cons (pv 1) (pa_cons (pv 2) (pa_cons (pe_op (op_addA (K := K) rfl) (pv 1) (pe_g (PromO.call G__law_draw (hr.mono (by decide)) (passA (E := E))) (by rfl) T.g__law_draw T.k__law_draw (pa_cons (pv 0) (pa_cons (pe_op (op_addA (K := K) rfl) (pe_op op_sub (pv 2) (pv 1)) pe_int) pa_nil)))) (pa_cons pe_int (pa_cons pe_int pa_nil)))))) pa_nil)))) pss_nil) pss_nil)
      (pss_cons (ps_ret (pe_g (PromO.call G__law_pick (hr.mono (by decide)) (passA (E := E))) (by rfl) T.g__law_pick T.k__law_pick (pa_cons (pv 0) (pa_cons (pe_lst (pa_cons (pe_op op_sub (pv 1) pe_int) (pa_cons (pe_op (op_addA (K := K) rfl) (pv 2) pe_int) (pa_cons pe_non (pa_cons pe_bl (pa_cons pe_bl (pa_cons pe_str (pa_cons (pe_tup (pa_cons pe_int pa_nil)) (pa_cons (pe_op (op_powK 10000000000000000000000000000000000000000) pe_int pe_int) (pa_cons (pe_un un_neg (pe_op (op_powK 10000000000000000000000000000000000000000) pe_int pe_int)) (pa_cons (pe_lst pa_nil) (pa_cons pe_dnewK pa_nil)))))))))))) pa_nil)))) pss_nil)), ?_⟩
  exact fn_of3 (F := F__law_part) (envU := fun _ => List.replicate 3 .no) h (fun l_pen_here l_least l_most => rfl) (fun p c l_pen_here l_least l_most => (ss_if (fun (w7 : Unit) => [.fz l_pen_here, .fz l_least, .fz l_most]) (sb_tst (se_op sr_gt (se_cl srl_sp0 (sa_cons se_var (sa_cons se_int sa_nil))) se_int)) (ss_ret (se_cl srl_sp0 (sa_cons se_var (sa_cons (se_lst (sa_cons se_var (sa_cons se_var (sa_cons (se_op sr_add se_var (se_cl srl_sp0 (sa_cons se_var (sa_cons (se_op sr_add (se_op sr_sub se_var se_var) se_int) sa_nil)))) (sa_cons se_int (sa_cons se_int sa_nil)))))) sa_nil)))) (ss_nx (.s (.s (.s .nil)))) (fun (w7 : Unit) => (ss_ret (se_cl srl_sp0 (sa_cons se_var (sa_cons (se_lst (sa_cons (se_op sr_sub se_var se_int) (sa_cons (se_op sr_add se_var se_int) (sa_cons se_non (sa_cons se_bl (sa_cons se_bl (sa_cons (se_str (by decide)) (sa_cons (se_tup (sa_cons se_int sa_nil)) (sa_cons (se_powK (by decide) (by decide) (by decide)) (sa_cons (se_un sr_neg (se_powK (by decide) (by decide) (by decide))) (sa_cons (se_lst sa_nil) (sa_cons se_dct sa_nil)))))))))))) sa_nil)))))))
abbrev N__law_fault : List Str := ["_law_halves", "_law_more", "_law_odd", "_law_part_here", "_law_value", "_law_least", "_law_most"]
theorem sc__law_fault : FnScope N__law_fault ["_law_halves", "_law_more", "_law_odd"] (defScope s__law_fault) := ⟨rfl, rfl, rfl, by decide +kernel, rfl, by decide +kernel, by decide +kernel⟩
def F__law_fault (l_halves l_more l_odd : D) : Tr D :=
  fin (bdF (bd (bd (bd (bd (bd (bd (.ok (.str "halves")) fun v7 => (bd (bd (.ok l_halves) fun v5 => (bd (bd (.ok (.int 0)) fun v3 => (bd (bd (.ok (.int 8)) fun v1 => (bd (.ok []) fun r2 => .ok (v1 :: r2))) fun r4 => .ok (v3 :: r4))) fun r6 => .ok (v5 :: r6))) fun r8 => .ok (v7 :: r8))) fun ds => if ds.length ≤ sizeLine then .ok (.tup ds) else .bad) fun v29 => (bd (bd (bd (bd (.ok (.str "more")) fun v15 => (bd (bd (.ok l_more) fun v13 => (bd (bd (bd (.ok (.int 60)) negD) fun v11 => (bd (bd (.ok (.int 60)) fun v9 => (bd (.ok []) fun r10 => .ok (v9 :: r10))) fun r12 => .ok (v11 :: r12))) fun r14 => .ok (v13 :: r14))) fun r16 => .ok (v15 :: r16))) fun ds => if ds.length ≤ sizeLine then .ok (.tup ds) else .bad) fun v27 => (bd (bd (bd (bd (.ok (.str "odd")) fun v23 => (bd (bd (.ok l_odd) fun v21 => (bd (bd (bd (.ok (.int 9)) negD) fun v19 => (bd (bd (.ok (.int 9)) fun v17 => (bd (.ok []) fun r18 => .ok (v17 :: r18))) fun r20 => .ok (v19 :: r20))) fun r22 => .ok (v21 :: r22))) fun r24 => .ok (v23 :: r24))) fun ds => if ds.length ≤ sizeLine then .ok (.tup ds) else .bad) fun v25 => (bd (.ok []) fun r26 => .ok (v25 :: r26))) fun r28 => .ok (v27 :: r28))) fun r30 => .ok (v29 :: r30))) fun ds => if ds.length ≤ sizeLine then .ok (.lst ds) else .bad) itD) fun ds => forF (fun (d32 : D) (w31 : Unit) => (un4 d32 fun l_part_here32 l_value32 l_least32 l_most32 => (bdF (W' := Unit) (bd (bd (bd (bd (bd (.ok l_value32) fun d => bd (opt (isi_int d)) fun k => .ok (.bl k)) asB) fun k => .ok (!k)) fun k => if k = true then .ok true else (bd (bd (bd (.ok l_value32) fun d => bd (opt (isi_bool d)) fun k => .ok (.bl k)) asB) fun k => if k = true then .ok true else (bd (bd (bd (.ok l_least32) fun v34 => (bd (.ok l_value32) fun v35 => (bd (bd (leD v34 v35) asB) fun k => if k = true then (bd (.ok l_most32) fun v36 => leD v35 v36) else .ok (.bl false)))) asB) fun k => .ok (!k)))) fun k => if k = true then (bd (.ok l_part_here32) fun d => .ok (.rt d)) else (.ok (.nx ()))) fun (w37 : Unit) => (.ok (.nx ()))))) ds ()) fun (w31 : Unit) => (bd (.ok .non) fun d => .ok (.rt d)))
theorem ok__law_fault (F : FnA K d__law_fault fd) (T : Tx K mg)  : FnOk P w K mg base CX0 1 (d__law_fault.adr K) fd ["_law_halves", "_law_more", "_law_odd"] (spF K Tb (ul3 F__law_fault)) := by
  refine fnO0 F sc__law_fault (fun vs H Q E h => spF_len len3 h) (fun cdv A outer s H vs Q E hr h => ?_)
  refine ⟨_, (pss_cons (ps_for PassesOwn.never rfl (pi_seq (K := K) rfl (pe_lst (pa_cons (pe_tup (pa_cons pe_str (pa_cons (pv 0) (pa_cons pe_int (pa_cons pe_int pa_nil))))) (pa_cons (pe_tup (pa_cons pe_str (pa_cons (pv 1) (pa_cons (pe_un un_neg pe_int) (pa_cons pe_int pa_nil))))) (pa_cons (pe_tup (pa_cons pe_str (pa_cons (pv 2) (pa_cons (pe_un un_neg pe_int) (pa_cons pe_int pa_nil))))) pa_nil))))) (pg_tup rfl (pgs_cons (pg_name (i := 3) sc__law_fault.nd rfl (.inl rfl)) (pgs_cons (pg_name (i := 4) sc__law_fault.nd rfl (.inl rfl)) (pgs_cons (pg_name (i := 5) sc__law_fault.nd rfl (.inl rfl)) (pgs_cons (pg_name (i := 6) sc__law_fault.nd rfl (.inl rfl)) pgs_nil)))))
      (pss_cons (ps_if (PW.pt (pw_or (pt_not (pt_val (pe_callB (call_isiZ (K := K) rfl) (by rfl) T.f_isinstance (by decide +kernel) (pa_cons (pv 4) (pa_cons (pe_bltn (v := .ty "int") (by rfl) T.f_int (by decide +kernel) rfl) pa_nil))))) (pw_or (pt_val (pe_callB (call_isiZ (K := K) rfl) (by rfl) T.f_isinstance (by decide +kernel) (pa_cons (pv 4) (pa_cons (pe_bltn (v := .ty "bool") (by rfl) T.f_bool (by decide +kernel) rfl) pa_nil)))) (pw_or1 (pt_not (pt_chain op_le op_le (pv 5) (pv 4) (pv 6)))))))
      (pss_cons (ps_ret (pv 3)) pss_nil) pss_nil)
      pss_nil))
      (pss_cons (ps_ret pe_non) pss_nil)), ?_⟩
  exact fn_of3 (F := F__law_fault) (envU := fun _ => List.replicate 7 .no) h (fun l_halves l_more l_odd => rfl) (fun p c l_halves l_more l_odd => (ss_for (fun (w31 : Unit) => [.fz l_halves, .fz l_more, .fz l_odd, .no, .no, .no, .no]) (si_seq (se_lst (sa_cons (se_tup (sa_cons (se_str (by decide)) (sa_cons se_var (sa_cons se_int (sa_cons se_int sa_nil))))) (sa_cons (se_tup (sa_cons (se_str (by decide)) (sa_cons se_var (sa_cons (se_un sr_neg se_int) (sa_cons se_int sa_nil))))) (sa_cons (se_tup (sa_cons (se_str (by decide)) (sa_cons se_var (sa_cons (se_un sr_neg se_int) (sa_cons se_int sa_nil))))) sa_nil))))) (.s (.s (.s (.s (.s (.s (.s .nil))))))) (fun (d32 : D) (w31 : Unit) => (sx_tup4 (fun l_part_here32 l_value32 l_least32 l_most32 => (ss_if (fun (w37 : Unit) => [.fz l_halves, .fz l_more, .fz l_odd, .fz l_part_here32, .fz l_value32, .fz l_least32, .fz l_most32]) (sb_or (sb_not (sb_tb (se_isi (.ty _) (isT_int T) se_var))) (sb_or (sb_tb (se_isi (.ty _) (isT_bool T) se_var)) (sb_not (sb_tst (se_chain sr_le sr_le se_var se_var se_var))))) (ss_ret se_var) (ss_nx (.s (.s (.s (.s (.s (.s (.s .nil)))))))) (fun (w37 : Unit) => (ss_nx (.s (.s (.s (.n (.n (.n (.n .nil))))))))))))) (fun (w31 : Unit) => (ss_ret se_non))))
abbrev N__law_told : List Str := ["_law_span"]
theorem sc__law_told : FnScope N__law_told ["_law_span"] (defScope s__law_told) := ⟨rfl, rfl, rfl, by decide +kernel, rfl, by decide +kernel, by decide +kernel⟩
def F__law_told (l_span : D) : Tr D :=
  fin (bd (bd (bd (bd (.ok l_span) fun o1 => (isO "Span" o1 fun _ => nox ((ul1 F_Span_halves) [o1]))) fun v12 => (bd (bd (bd (.ok l_span) fun o2 => (isO "Span" o2 fun _ => nox ((ul1 F_Span_more) [o2]))) fun v10 => (bd (bd (bd (.ok l_span) fun o3 => (isO "Span" o3 fun _ => nox ((ul1 F_Span_odd) [o3]))) fun v8 => (bd (bd (bd (bd (.ok l_span) fun v4 => (bd (.ok []) fun r5 => .ok (v4 :: r5))) (ul1 (strO "Span" (ul1 F_Span___str__)))) fun v6 => (bd (.ok []) fun r7 => .ok (v6 :: r7))) fun r9 => .ok (v8 :: r9))) fun r11 => .ok (v10 :: r11))) fun r13 => .ok (v12 :: r13))) fun ds => if ds.length ≤ sizeLine then .ok (.lst ds) else .bad) fun d => .ok (.rt d))
theorem ok__law_told (F : FnA K d__law_told fd) (T : Tx K mg) (G_Span_halves : PromO P w K mg base CX0 1 (propG "Span" "halves" K) [] (spF K Tb (ul1 F_Span_halves))) (G_Span_more : PromO P w K mg base CX0 1 (propG "Span" "more" K) [] (spF K Tb (ul1 F_Span_more))) (G_Span_odd : PromO P w K mg base CX0 1 (propG "Span" "odd" K) [] (spF K Tb (ul1 F_Span_odd))) (G_Span___str__ : PromO P w K mg base CX0 3 (md "Span" "__str__" K) [] (spF K Tb (ul1 F_Span___str__))) : FnOk P w K mg base CX0 6 (d__law_told.adr K) fd ["_law_span"] (spF K Tb (ul1 F__law_told)) := by
  refine fnO0 F sc__law_told (fun vs H Q E h => spF_len len1 h) (fun cdv A outer s H vs Q E hr h => ?_)
  refine ⟨_, (pss_cons (ps_ret (pe_lst (pa_cons (pe_po (pv 0) T.cl_Span T.pr_Span_halves G_Span_halves (hr.mono (by decide)) (passA (E := EF))) (pa_cons (pe_po (pv 0) T.cl_Span T.pr_Span_more G_Span_more (hr.mono (by decide)) (passA (E := EF))) (pa_cons (pe_po (pv 0) T.cl_Span T.pr_Span_odd G_Span_odd (hr.mono (by decide)) (passA (E := EF))) (pa_cons (pe_callTy (cr_strO T.mt_Span___str__ G_Span___str__ (hr.mono (by decide)) (passA (E := E))) (by rfl) T.f_str (by decide +kernel) (pa_cons (pv 0) pa_nil)) pa_nil)))))) pss_nil), ?_⟩
  exact fn_of1 (F := F__law_told) (envU := fun _ => List.replicate 1 .no) h (fun l_span => rfl) (fun p c l_span => (ss_ret (se_lst (sa_cons (se_prX se_var) (sa_cons (se_prX se_var) (sa_cons (se_prX se_var) (sa_cons (se_cb srl_strO (sa_cons se_var sa_nil)) sa_nil)))))))
abbrev N__law_text : List Str := ["_law_halves", "_law_more", "_law_odd"]
theorem sc__law_text : FnScope N__law_text ["_law_halves", "_law_more", "_law_odd"] (defScope s__law_text) := ⟨rfl, rfl, rfl, by decide +kernel, rfl, by decide +kernel, by decide +kernel⟩
def F__law_text (l_halves l_more l_odd : D) : Tr D :=
  fin (bd (bd (bd (bd (bd (bd (bd (bd (.ok l_halves) fun v1 => (bd (.ok []) fun r2 => .ok (v1 :: r2))) (ul1 strD)) fun v3 => (bd (.ok (.str " halves ")) fun v4 => addD v3 v4)) fun v7 => (bd (bd (bd (.ok l_odd) fun v5 => (bd (.ok []) fun r6 => .ok (v5 :: r6))) (ul1 strD)) fun v8 => addD v7 v8)) fun v9 => (bd (.ok (.str " odd ")) fun v10 => addD v9 v10)) fun v13 => (bd (bd (bd (.ok l_more) fun v11 => (bd (.ok []) fun r12 => .ok (v11 :: r12))) (ul1 strD)) fun v14 => addD v13 v14)) fun v15 => (bd (.ok (.str " more")) fun v16 => addD v15 v16)) fun d => .ok (.rt d))
theorem ok__law_text (F : FnA K d__law_text fd) (T : Tx K mg)  : FnOk P w K mg base CX0 1 (d__law_text.adr K) fd ["_law_halves", "_law_more", "_law_odd"] (spF K Tb (ul3 F__law_text)) := by
  refine fnO0 F sc__law_text (fun vs H Q E h => spF_len len3 h) (fun cdv A outer s H vs Q E hr h => ?_)
  refine ⟨_, (pss_cons (ps_ret (pe_op (op_addA (K := K) rfl) (pe_op (op_addA (K := K) rfl) (pe_op (op_addA (K := K) rfl) (pe_op (op_addA (K := K) rfl) (pe_op (op_addA (K := K) rfl) (pe_callTy cr_strI (by rfl) T.f_str (by decide +kernel) (pa_cons (pv 0) pa_nil)) pe_str) (pe_callTy cr_strI (by rfl) T.f_str (by decide +kernel) (pa_cons (pv 2) pa_nil))) pe_str) (pe_callTy cr_strI (by rfl) T.f_str (by decide +kernel) (pa_cons (pv 1) pa_nil))) pe_str)) pss_nil), ?_⟩
  exact fn_of3 (F := F__law_text) (envU := fun _ => List.replicate 3 .no) h (fun l_halves l_more l_odd => rfl) (fun p c l_halves l_more l_odd => (ss_ret (se_op sr_add (se_op sr_add (se_op sr_add (se_op sr_add (se_op sr_add (se_cb srl_str (sa_cons se_var sa_nil)) (se_str (by decide))) (se_cb srl_str (sa_cons se_var sa_nil))) (se_str (by decide))) (se_cb srl_str (sa_cons se_var sa_nil))) (se_str (by decide)))))
abbrev N__law_joined_right : List Str := ["_law_pen_here", "_law_one", "_law_parts", "_law_others", "_law_sign", "_law_due", "_law_fault_here", "_law_twice", "_law_heard_here", "_law_other", "_law_k", "_law_part_here", "_law_at"]
theorem sc__law_joined_right : FnScope N__law_joined_right ["_law_pen_here", "_law_one", "_law_parts"] (defScope s__law_joined_right) := ⟨rfl, rfl, rfl, by decide +kernel, rfl, by decide +kernel, by decide +kernel⟩
def F__law_joined_right (l_pen_here l_one l_parts : D) : Tr D :=
  fin (bd (bd (bd (bd (bd (.ok l_pen_here) fun v4 => (bd (bd (.ok (.int 9)) fun v2 => (bd (.ok []) fun r3 => .ok (v2 :: r3))) fun r5 => .ok (v4 :: r5))) (ul2 F_draw)) fun v22 => (bd (bd (bd (bd (bd (.ok l_pen_here) fun v8 => (bd (bd (.ok (.int 121)) fun v6 => (bd (.ok []) fun r7 => .ok (v6 :: r7))) fun r9 => .ok (v8 :: r9))) (ul2 F_draw)) fun v10 => (bd (.ok (.int 60)) fun v11 => subD v10 v11)) fun v20 => (bd (bd (bd (bd (bd (.ok l_pen_here) fun v14 => (bd (bd (.ok (.int 19)) fun v12 => (bd (.ok []) fun r13 => .ok (v12 :: r13))) fun r15 => .ok (v14 :: r15))) (ul2 F_draw)) fun v16 => (bd (.ok (.int 9)) fun v17 => subD v16 v17)) fun v18 => (bd (.ok []) fun r19 => .ok (v18 :: r19))) fun r21 => .ok (v20 :: r21))) fun r23 => .ok (v22 :: r23))) fun ds => if ds.length ≤ sizeLine then .ok (.lst ds) else .bad) fun l_others0 => (bd (bd (bd (nox (bd (bd (bd (.ok l_others0) fun v24 => (bd (.ok (.int 0)) fun v25 => ixD v24 v25)) fun v34 => (bd (bd (bd (.ok l_others0) fun v26 => (bd (.ok (.int 1)) fun v27 => ixD v26 v27)) fun v32 => (bd (bd (bd (.ok l_others0) fun v28 => (bd (.ok (.int 2)) fun v29 => ixD v28 v29)) fun v30 => (bd (.ok []) fun r31 => .ok (v30 :: r31))) fun r33 => .ok (v32 :: r33))) fun r35 => .ok (v34 :: r35))) (fun ds => bd ((fun fs => ul3 (F_Span___init__ fs)) [] ds) fun fs => .ok (.obj "Span" fs)))) fun v44 => (bd (bd (bd (bd (bd (.ok l_pen_here) fun v38 => (bd (bd (.ok (.int 7)) fun v36 => (bd (.ok []) fun r37 => .ok (v36 :: r37))) fun r39 => .ok (v38 :: r39))) (ul2 F_draw)) fun v40 => (bd (.ok (.int 2)) fun v41 => subD v40 v41)) fun v42 => (bd (.ok []) fun r43 => .ok (v42 :: r43))) fun r45 => .ok (v44 :: r45))) fun ds => if ds.length ≤ sizeLine then .ok (.tup ds) else .bad) fun d47 => un2 d47 fun l_other45 l_k45 => (bdF (bd (bd (bd (bd (.ok (.int 1)) fun v50 => (bd (bd (bd (.ok (.int 1)) negD) fun v48 => (bd (.ok []) fun r49 => .ok (v48 :: r49))) fun r51 => .ok (v50 :: r51))) fun ds => if ds.length ≤ sizeLine then .ok (.tup ds) else .bad) itD) fun ds => forF (fun (d53 : D) (w52 : Unit) => (bd (bd (bd (bd (.ok (.int 3)) fun v56 => (bd (.ok []) fun r57 => .ok (v56 :: r57))) (ul1 rg1)) fun ds => bd (lcF (fun l_at57 => nox (bd (bd (bd (.ok l_parts) fun v59 => (bd (.ok l_at57) fun v60 => ixD v59 v60)) fun v65 => (bd (bd (.ok d53) fun v63 => (bd (bd (.ok l_others0) fun v61 => (bd (.ok l_at57) fun v62 => ixD v61 v62)) fun v64 => mulD v63 v64)) fun v66 => addD v65 v66)) fun y => .ok (some y))) ds) fun r => .ok (.lst r)) fun l_due54 => (bd (bd (bd (bd (.ok l_due54) fun v68 => (bd (.ok (.int 0)) fun v69 => ixD v68 v69)) fun v78 => (bd (bd (bd (.ok l_due54) fun v70 => (bd (.ok (.int 1)) fun v71 => ixD v70 v71)) fun v76 => (bd (bd (bd (.ok l_due54) fun v72 => (bd (.ok (.int 2)) fun v73 => ixD v72 v73)) fun v74 => (bd (.ok []) fun r75 => .ok (v74 :: r75))) fun r77 => .ok (v76 :: r77))) fun r79 => .ok (v78 :: r79))) (ul3 F__law_fault)) fun l_fault_here66 => (bd (nox (F__law_heard (bd (bd (bd (bd (bd (.ok d53) fun v81 => (bd (.ok (.int 1)) fun v82 => eqD v81 v82)) asB) fun k => if k = true then (bd (.ok l_one) fun v85 => (bd (.ok l_other45) fun v86 => binO "Span" (ul2 F_Span___add__) v85 v86)) else (bd (.ok l_one) fun v89 => (bd (.ok l_other45) fun v90 => binO "Span" (ul2 F_Span___sub__) v89 v90))) fun v91 => (bd (.ok []) fun r92 => .ok (v91 :: r92))) (ul1 F__law_told)))) fun l_heard_here79 => (bdF (W' := Unit) (bd (bd (bd (.ok l_heard_here79) fun v119 => (bd (bd (bd (bd (.ok l_fault_here66) fun (v93 : D) => (bd (.ok .non) fun (v94 : D) => (match v94 with | .non => .ok (.bl (isN v93)) | _ => .bad))) asB) fun k => if k = true then (bd (bd (.ok (.str "told")) fun v113 => (bd (bd (bd (.ok l_due54) fun v109 => (bd (bd (bd (bd (bd (bd (.ok l_due54) fun v95 => (bd (.ok (.int 0)) fun v96 => ixD v95 v96)) fun v105 => (bd (bd (bd (.ok l_due54) fun v97 => (bd (.ok (.int 1)) fun v98 => ixD v97 v98)) fun v103 => (bd (bd (bd (.ok l_due54) fun v99 => (bd (.ok (.int 2)) fun v100 => ixD v99 v100)) fun v101 => (bd (.ok []) fun r102 => .ok (v101 :: r102))) fun r104 => .ok (v103 :: r104))) fun r106 => .ok (v105 :: r106))) (ul3 F__law_text)) fun v107 => (bd (.ok []) fun r108 => .ok (v107 :: r108))) fun ds => if ds.length ≤ sizeLine then .ok (.lst ds) else .bad) fun v110 => addD v109 v110)) fun v111 => (bd (.ok []) fun r112 => .ok (v111 :: r112))) fun r114 => .ok (v113 :: r114))) fun ds => if ds.length ≤ sizeLine then .ok (.tup ds) else .bad) else (bd (bd (.ok (.str "span")) fun v117 => (bd (bd (.ok l_fault_here66) fun v115 => (bd (.ok []) fun r116 => .ok (v115 :: r116))) fun r118 => .ok (v117 :: r118))) fun ds => if ds.length ≤ sizeLine then .ok (.tup ds) else .bad)) fun v120 => neD v119 v120)) asB) fun k => if k = true then (bd (.ok (.bl false)) fun d => .ok (.rt d)) else (.ok (.nx ()))) fun (w121 : Unit) => (bd (bd (bd (bd (.ok l_parts) fun v123 => (bd (.ok (.int 0)) fun v124 => ixD v123 v124)) fun v137 => (bd (bd (bd (bd (.ok l_parts) fun v125 => (bd (.ok (.int 1)) fun v126 => ixD v125 v126)) fun v129 => (bd (bd (.ok d53) fun v127 => (bd (.ok l_k45) fun v128 => mulD v127 v128)) fun v130 => addD v129 v130)) fun v135 => (bd (bd (bd (.ok l_parts) fun v131 => (bd (.ok (.int 2)) fun v132 => ixD v131 v132)) fun v133 => (bd (.ok []) fun r134 => .ok (v133 :: r134))) fun r136 => .ok (v135 :: r136))) fun r138 => .ok (v137 :: r138))) (ul3 F__law_fault)) fun l_fault_here121 => (bd (nox (F__law_heard (bd (bd (bd (bd (.ok d53) fun v140 => (bd (.ok (.int 1)) fun v141 => eqD v140 v141)) asB) fun k => if k = true then (bd (.ok l_one) fun v144 => (bd (.ok l_k45) fun v145 => binOI "Span" (ul2 F_Span___add__) v144 v145)) else (bd (.ok l_one) fun v148 => (bd (.ok l_k45) fun v149 => binOI "Span" (ul2 F_Span___sub__) v148 v149))) fun o150 => (isO "Span" o150 fun _ => nox ((ul1 F_Span_more) [o150]))))) fun l_heard_here138 => (bdF (W' := Unit) (bd (bd (bd (.ok l_heard_here138) fun v167 => (bd (bd (bd (bd (.ok l_fault_here121) fun (v151 : D) => (bd (.ok .non) fun (v152 : D) => (match v152 with | .non => .ok (.bl (isN v151)) | _ => .bad))) asB) fun k => if k = true then (bd (bd (.ok (.str "told")) fun v161 => (bd (bd (bd (bd (.ok l_parts) fun v153 => (bd (.ok (.int 1)) fun v154 => ixD v153 v154)) fun v157 => (bd (bd (.ok d53) fun v155 => (bd (.ok l_k45) fun v156 => mulD v155 v156)) fun v158 => addD v157 v158)) fun v159 => (bd (.ok []) fun r160 => .ok (v159 :: r160))) fun r162 => .ok (v161 :: r162))) fun ds => if ds.length ≤ sizeLine then .ok (.tup ds) else .bad) else (bd (bd (.ok (.str "span")) fun v165 => (bd (bd (.ok l_fault_here121) fun v163 => (bd (.ok []) fun r164 => .ok (v163 :: r164))) fun r166 => .ok (v165 :: r166))) fun ds => if ds.length ≤ sizeLine then .ok (.tup ds) else .bad)) fun v168 => neD v167 v168)) asB) fun k => if k = true then (bd (.ok (.bl false)) fun d => .ok (.rt d)) else (.ok (.nx ()))) fun (w169 : Unit) => (.ok (.nx ())))))))))) ds ()) fun (w52 : Unit) => (bd (bd (bd (.ok l_parts) itD) fun ds => bd (lcF (fun l_part_here170 => nox (bd (bd (.ok l_k45) fun v172 => (bd (.ok l_part_here170) fun v173 => mulD v172 v173)) fun y => .ok (some y))) ds) fun r => .ok (.lst r)) fun l_due169 => (bd (bd (bd (bd (.ok l_due169) fun v175 => (bd (.ok (.int 0)) fun v176 => ixD v175 v176)) fun v185 => (bd (bd (bd (.ok l_due169) fun v177 => (bd (.ok (.int 1)) fun v178 => ixD v177 v178)) fun v183 => (bd (bd (bd (.ok l_due169) fun v179 => (bd (.ok (.int 2)) fun v180 => ixD v179 v180)) fun v181 => (bd (.ok []) fun r182 => .ok (v181 :: r182))) fun r184 => .ok (v183 :: r184))) fun r186 => .ok (v185 :: r186))) (ul3 F__law_fault)) fun l_fault_here173 => (bd (bd (bd (nox (F__law_heard (bd (bd (bd (.ok l_k45) fun v188 => (bd (.ok l_one) fun v189 => binR "Span" (ul2 F_Span___rmul__) v188 v189)) fun v190 => (bd (.ok []) fun r191 => .ok (v190 :: r191))) (ul1 F__law_told)))) fun v192 => (bd (.ok []) fun r193 => .ok (v192 :: r193))) fun ds => if ds.length ≤ sizeLine then .ok ds else .bad) fun l_twice186 => (bd (nox (F__law_heard (bd (bd (bd (.ok l_one) fun v196 => (bd (.ok l_k45) fun v197 => binOI "Span" (ul2 F_Span___mul__) v196 v197)) fun v198 => (bd (.ok []) fun r199 => .ok (v198 :: r199))) (ul1 F__law_told)))) fun (v200 : D) => if l_twice186.length < sizeLine then (bdF (bd (bd (.ok (.lst (l_twice186 ++ [v200]))) itD) fun ds => forF (fun (d202 : D) (w201 : Unit) => (bdF (W' := Unit) (bd (bd (bd (.ok d202) fun v230 => (bd (bd (bd (bd (.ok l_fault_here173) fun (v204 : D) => (bd (.ok .non) fun (v205 : D) => (match v205 with | .non => .ok (.bl (isN v204)) | _ => .bad))) asB) fun k => if k = true then (bd (bd (.ok (.str "told")) fun v224 => (bd (bd (bd (.ok l_due169) fun v220 => (bd (bd (bd (bd (bd (bd (.ok l_due169) fun v206 => (bd (.ok (.int 0)) fun v207 => ixD v206 v207)) fun v216 => (bd (bd (bd (.ok l_due169) fun v208 => (bd (.ok (.int 1)) fun v209 => ixD v208 v209)) fun v214 => (bd (bd (bd (.ok l_due169) fun v210 => (bd (.ok (.int 2)) fun v211 => ixD v210 v211)) fun v212 => (bd (.ok []) fun r213 => .ok (v212 :: r213))) fun r215 => .ok (v214 :: r215))) fun r217 => .ok (v216 :: r217))) (ul3 F__law_text)) fun v218 => (bd (.ok []) fun r219 => .ok (v218 :: r219))) fun ds => if ds.length ≤ sizeLine then .ok (.lst ds) else .bad) fun v221 => addD v220 v221)) fun v222 => (bd (.ok []) fun r223 => .ok (v222 :: r223))) fun r225 => .ok (v224 :: r225))) fun ds => if ds.length ≤ sizeLine then .ok (.tup ds) else .bad) else (bd (bd (.ok (.str "span")) fun v228 => (bd (bd (.ok l_fault_here173) fun v226 => (bd (.ok []) fun r227 => .ok (v226 :: r227))) fun r229 => .ok (v228 :: r229))) fun ds => if ds.length ≤ sizeLine then .ok (.tup ds) else .bad)) fun v231 => neD v230 v231)) asB) fun k => if k = true then (bd (.ok (.bl false)) fun d => .ok (.rt d)) else (.ok (.nx ()))) fun (w232 : Unit) => (.ok (.nx ())))) ds ()) fun (w201 : Unit) => (bd (nox (F__law_heard (bd (bd (.ok l_k45) fun v234 => (bd (.ok l_one) fun v235 => binR "Span" (ul2 F_Span___radd__) v234 v235)) fun o236 => (isO "Span" o236 fun _ => nox ((ul1 F_Span_more) [o236]))))) fun l_heard_here232 => (bd (bd (.ok l_heard_here232) fun v242 => (bd (nox (F__law_heard (bd (bd (.ok l_one) fun v239 => (bd (.ok l_k45) fun v240 => binOI "Span" (ul2 F_Span___add__) v239 v240)) fun o241 => (isO "Span" o241 fun _ => nox ((ul1 F_Span_more) [o241]))))) fun v243 => eqD v242 v243)) fun d => .ok (.rt d)))) else .bad)))))))
theorem ok__law_joined_right (F : FnA K d__law_joined_right fd) (T : Tx K mg) (G__law_draw : PromO P w K mg base CX0 1 (gd "_law_draw" K) [] (spF K Tb (ul2 F_draw))) (G_Span___init__ : PromO P w K mg base (L2.CX P w) 3 (md "Span" "__init__" K) [] (spI K Tb "Span" (fun fs => ul3 (F_Span___init__ fs)))) (G__law_fault : PromO P w K mg base CX0 1 (gd "_law_fault" K) [] (spF K Tb (ul3 F__law_fault))) (GH__law_heard : HrdP K d__law_heard ["_law_ask"]) (LD__law_joined_right : LamD base mg K Tb d__law_joined_right ("_law_joined_right", none)) (G__law_told : PromO P w K mg base CX0 6 (gd "_law_told" K) [] (spF K Tb (ul1 F__law_told))) (G_Span___add__ : PromO P w K mg base (L2.CX P w) 6 (md "Span" "__add__" K) [] (spF K Tb (ul2 F_Span___add__))) (G_Span___sub__ : PromO P w K mg base (L2.CX P w) 6 (md "Span" "__sub__" K) [] (spF K Tb (ul2 F_Span___sub__))) (G__law_text : PromO P w K mg base CX0 1 (gd "_law_text" K) [] (spF K Tb (ul3 F__law_text))) (G_Span_more : PromO P w K mg base CX0 1 (propG "Span" "more" K) [] (spF K Tb (ul1 F_Span_more))) (G_Span___rmul__ : PromO P w K mg base (L2.CX P w) 5 (md "Span" "__rmul__" K) [] (spF K Tb (ul2 F_Span___rmul__))) (G_Span___mul__ : PromO P w K mg base (L2.CX P w) 5 (md "Span" "__mul__" K) [] (spF K Tb (ul2 F_Span___mul__))) (G_Span___radd__ : PromO P w K mg base (L2.CX P w) 6 (md "Span" "__radd__" K) [] (spF K Tb (ul2 F_Span___radd__))) : FnOk P w K mg base CX0 9 (d__law_joined_right.adr K) fd ["_law_pen_here", "_law_one", "_law_parts"] (spF K Tb (ul3 F__law_joined_right)) := by
  obtain ⟨fdH, FH, hbH⟩ := GH__law_heard
  obtain ⟨ocH, odH, dVH, kVH, docH, pmH, anH, cdvH, ctH, oslH, rfl, lkH, hcH, _, _⟩ := FH.ex
  have ecode : fd.code = .ref (He.cT K ("_law_joined_right", none)).1 := codeOf_fn (p := ("_law_joined_right", none)) F
  refine fnO1 F sc__law_joined_right (fun vs H Q E h => spF_len len3 h) (fun cdv A outer s H vs Q E hcdv hr h => ?_)
  have hcode : cdv = .ref (He.cT K ("_law_joined_right", none)).1 := hcdv.trans ecode
  refine ⟨_, (pss_cons (ps_set (i := 3) sc__law_joined_right.nd rfl (.inr rfl) (pe_lst (pa_cons (pe_g (PromO.call G__law_draw (hr.mono (by decide)) (passA (E := E))) (by rfl) T.g__law_draw T.k__law_draw (pa_cons (pv 0) (pa_cons pe_int pa_nil))) (pa_cons (pe_op op_sub (pe_g (PromO.call G__law_draw (hr.mono (by decide)) (passA (E := E))) (by rfl) T.g__law_draw T.k__law_draw (pa_cons (pv 0) (pa_cons pe_int pa_nil))) pe_int) (pa_cons (pe_op op_sub (pe_g (PromO.call G__law_draw (hr.mono (by decide)) (passA (E := E))) (by rfl) T.g__law_draw T.k__law_draw (pa_cons (pv 0) (pa_cons pe_int pa_nil))) pe_int) pa_nil)))))
      (pss_cons (ps_asg (pe_tup (pa_cons (pe_g (PromO.make T.mk_Span G_Span___init__ (hr.mono (by decide)) passF) (by rfl) T.g_Span T.k_Span (pa_cons (pe_ix (ix_seqK (K := K) rfl) (pv 3) pe_int (fun _ _ => rfl)) (pa_cons (pe_ix (ix_seqK (K := K) rfl) (pv 3) pe_int (fun _ _ => rfl)) (pa_cons (pe_ix (ix_seqK (K := K) rfl) (pv 3) pe_int (fun _ _ => rfl)) pa_nil)))) (pa_cons (pe_op op_sub (pe_g (PromO.call G__law_draw (hr.mono (by decide)) (passA (E := E))) (by rfl) T.g__law_draw T.k__law_draw (pa_cons (pv 0) (pa_cons pe_int pa_nil))) pe_int) pa_nil))) (pg_tup rfl (pgs_cons (pg_name (i := 9) sc__law_joined_right.nd rfl (.inr rfl)) (pgs_cons (pg_name (i := 10) sc__law_joined_right.nd rfl (.inr rfl)) pgs_nil))))
      (pss_cons (ps_for PassesOwn.never rfl (pi_seq (K := K) rfl (pe_tup (pa_cons pe_int (pa_cons (pe_un un_neg pe_int) pa_nil)))) (pg_name (i := 4) sc__law_joined_right.nd rfl (.inr rfl))
      (pss_cons (ps_setLc (i := 5) (own := [("_law_at", 12)]) (g := gName 12) (by rfl) sc__law_joined_right.nd rfl rfl (sw_true rfl rfl rfl (by decide +kernel)) (pi_range1 (by rfl) T.f_range (pa_cons pe_int pa_nil)) (blkOk_by (own := [("_law_at", 12)]) (N := N__law_joined_right) (sc := defScope s__law_joined_right) (by decide +kernel)) (fun _ _ _ _ _ => pg_name (i := 12) sc__law_joined_right.nd rfl (Or.inl rfl)) (fun _ _ _ _ _ => pts_nil) (fun _ _ _ _ _ => (pe_op (op_addA (K := K) rfl) (pe_ix (ix_seqK (K := K) rfl) (pv 2) (pv 12) (fun _ _ => rfl)) (pe_op op_mulA (pv 4) (pe_ix (ix_seqK (K := K) rfl) (pv 3) (pv 12) (fun _ _ => rfl))))))
      (pss_cons (ps_set (i := 6) sc__law_joined_right.nd rfl (.inl rfl) (pe_g (PromO.call G__law_fault (hr.mono (by decide)) (passA (E := E))) (by rfl) T.g__law_fault T.k__law_fault (pa_cons (pe_ix (ix_seqK (K := K) rfl) (pv 5) pe_int (fun _ _ => rfl)) (pa_cons (pe_ix (ix_seqK (K := K) rfl) (pv 5) pe_int (fun _ _ => rfl)) (pa_cons (pe_ix (ix_seqK (K := K) rfl) (pv 5) pe_int (fun _ _ => rfl)) pa_nil)))))
      (pss_cons (ps_set (i := 8) sc__law_joined_right.nd rfl (.inl rfl) (LamX.pe_lamcall (T := Tb) (k := 6) (by rfl) T.g__law_heard T.k__law_heard lkH hcH hbH sc__law_heard rfl (.inl rfl) (ok__law_heard (Tb := Tb) T) LD__law_joined_right.tb hcode LD__law_joined_right.mem LD__law_joined_right.hu (hr.mono (by decide)) (LamX.lamS_by (by show LamX.lamSB (defScope s__law_joined_right) _ = true; decide +kernel)) rfl (fun _ _ _ _ _ => rfl) (fun A outer s H E f c' hr => (pe_g (PromO.call G__law_told (hr.mono (by decide)) (passA (E := E))) (by rfl) T.g__law_told T.k__law_told (pa_cons (pe_ifExp (pt_cmpR (op_eqA (K := K) rfl hr.units) (pv 4) pe_int (nomark _)) (pe_op (op_bin T.ow_Span.first T.mt_Span___add__.at_ T.mt_Span___add__.fn (PromO.call G_Span___add__ (hr.mono (by decide)) (pass_on rfl rfl rfl rfl))) (pv 1) (pv 9)) (pe_op (op_bin T.ow_Span.first T.mt_Span___sub__.at_ T.mt_Span___sub__.fn (PromO.call G_Span___sub__ (hr.mono (by decide)) (pass_on rfl rfl rfl rfl))) (pv 1) (pv 9))) pa_nil)))))
      (pss_cons (ps_if (pt_cmpR (op_neA (K := K) rfl hr.units) (pv 8) (pe_ifExp (pt_cmpR or_isN (pv 6) pe_non (nomark _)) (pe_tup (pa_cons pe_str (pa_cons (pe_op (op_addA (K := K) rfl) (pv 5) (pe_lst (pa_cons (pe_g (PromO.call G__law_text (hr.mono (by decide)) (passA (E := E))) (by rfl) T.g__law_text T.k__law_text (pa_cons (pe_ix (ix_seqK (K := K) rfl) (pv 5) pe_int (fun _ _ => rfl)) (pa_cons (pe_ix (ix_seqK (K := K) rfl) (pv 5) pe_int (fun _ _ => rfl)) (pa_cons (pe_ix (ix_seqK (K := K) rfl) (pv 5) pe_int (fun _ _ => rfl)) pa_nil)))) pa_nil))) pa_nil))) (pe_tup (pa_cons pe_str (pa_cons (pv 6) pa_nil)))) (nomark _))
      (pss_cons (ps_ret pe_bl) pss_nil) pss_nil)
      (pss_cons (ps_set (i := 6) sc__law_joined_right.nd rfl (.inl rfl) (pe_g (PromO.call G__law_fault (hr.mono (by decide)) (passA (E := E))) (by rfl) T.g__law_fault T.k__law_fault (pa_cons (pe_ix (ix_seqK (K := K) rfl) (pv 2) pe_int (fun _ _ => rfl)) (pa_cons (pe_op (op_addA (K := K) rfl) (pe_ix (ix_seqK (K := K) rfl) (pv 2) pe_int (fun _ _ => rfl)) (pe_op op_mulA (pv 4) (pv 10))) (pa_cons (pe_ix (ix_seqK (K := K) rfl) (pv 2) pe_int (fun _ _ => rfl)) pa_nil)))))
      (pss_cons (ps_set (i := 8) sc__law_joined_right.nd rfl (.inl rfl) (LamX.pe_lamcall (T := Tb) (k := 6) (by rfl) T.g__law_heard T.k__law_heard lkH hcH hbH sc__law_heard rfl (.inl rfl) (ok__law_heard (Tb := Tb) T) LD__law_joined_right.tb hcode LD__law_joined_right.mem LD__law_joined_right.hu (hr.mono (by decide)) (LamX.lamS_by (by show LamX.lamSB (defScope s__law_joined_right) _ = true; decide +kernel)) rfl (fun _ _ _ _ _ => rfl) (fun A outer s H E f c' hr => (pe_po (pe_ifExp (pt_cmpR (op_eqA (K := K) rfl hr.units) (pv 4) pe_int (nomark _)) (pe_op (op_binI T.ow_Span.first T.mt_Span___add__.at_ T.mt_Span___add__.fn T.op_Span_Add.rc.choose_spec.1 T.op_Span_Add.rc.choose_spec.2 T.op_Span_Add.fo.choose_spec T.op_Span_Add.ro.choose_spec T.ow_Span.sub (PromO.call G_Span___add__ (hr.mono (by decide)) (pass_on rfl rfl rfl rfl))) (pv 1) (pv 10)) (pe_op (op_binI T.ow_Span.first T.mt_Span___sub__.at_ T.mt_Span___sub__.fn T.op_Span_Sub.rc.choose_spec.1 T.op_Span_Sub.rc.choose_spec.2 T.op_Span_Sub.fo.choose_spec T.op_Span_Sub.ro.choose_spec T.ow_Span.sub (PromO.call G_Span___sub__ (hr.mono (by decide)) (pass_on rfl rfl rfl rfl))) (pv 1) (pv 10))) T.cl_Span T.pr_Span_more G_Span_more (hr.mono (by decide)) (passA (E := EF))))))
      (pss_cons (ps_if (pt_cmpR (op_neA (K := K) rfl hr.units) (pv 8) (pe_ifExp (pt_cmpR or_isN (pv 6) pe_non (nomark _)) (pe_tup (pa_cons pe_str (pa_cons (pe_op (op_addA (K := K) rfl) (pe_ix (ix_seqK (K := K) rfl) (pv 2) pe_int (fun _ _ => rfl)) (pe_op op_mulA (pv 4) (pv 10))) pa_nil))) (pe_tup (pa_cons pe_str (pa_cons (pv 6) pa_nil)))) (nomark _))
      (pss_cons (ps_ret pe_bl) pss_nil) pss_nil)
      pss_nil))))))))
      (pss_cons (ps_setLc (i := 5) (own := [("_law_part_here", 11)]) (g := gName 11) (by rfl) sc__law_joined_right.nd rfl rfl (sw_true rfl rfl rfl (by decide +kernel)) (pi_seq (K := K) rfl (pv 2)) (blkOk_by (own := [("_law_part_here", 11)]) (N := N__law_joined_right) (sc := defScope s__law_joined_right) (by decide +kernel)) (fun _ _ _ _ _ => pg_name (i := 11) sc__law_joined_right.nd rfl (Or.inl rfl)) (fun _ _ _ _ _ => pts_nil) (fun _ _ _ _ _ => (pe_op op_mulA (pv 10) (pv 11))))
      (pss_cons (ps_set (i := 6) sc__law_joined_right.nd rfl (.inl rfl) (pe_g (PromO.call G__law_fault (hr.mono (by decide)) (passA (E := E))) (by rfl) T.g__law_fault T.k__law_fault (pa_cons (pe_ix (ix_seqK (K := K) rfl) (pv 5) pe_int (fun _ _ => rfl)) (pa_cons (pe_ix (ix_seqK (K := K) rfl) (pv 5) pe_int (fun _ _ => rfl)) (pa_cons (pe_ix (ix_seqK (K := K) rfl) (pv 5) pe_int (fun _ _ => rfl)) pa_nil)))))
      (pss_cons (ps_set (i := 7) sc__law_joined_right.nd rfl (.inl rfl) (pe_lst (pa_cons (LamX.pe_lamcall (T := Tb) (k := 6) (by rfl) T.g__law_heard T.k__law_heard lkH hcH hbH sc__law_heard rfl (.inl rfl) (ok__law_heard (Tb := Tb) T) LD__law_joined_right.tb hcode LD__law_joined_right.mem LD__law_joined_right.hu (hr.mono (by decide)) (LamX.lamS_by (by show LamX.lamSB (defScope s__law_joined_right) _ = true; decide +kernel)) rfl (fun _ _ _ _ _ => rfl) (fun A outer s H E f c' hr => (pe_g (PromO.call G__law_told (hr.mono (by decide)) (passA (E := E))) (by rfl) T.g__law_told T.k__law_told (pa_cons (pe_op (op_rmul T.ow_Span.first T.mt_Span___mul__.at_ T.mt_Span___rmul__.at_ T.mt_Span___rmul__.fn T.si_Span (PromO.call G_Span___rmul__ (hr.mono (by decide)) (pass_on rfl rfl rfl rfl))) (pv 10) (pv 1)) pa_nil)))) pa_nil)))
      (pss_cons (ps_expr (pe_bm PySem.F.plainAttrs_list PySem.F.slot_list_append PySem.F.type_list_append mt_append (pv 7) (pa_cons (LamX.pe_lamcall (T := Tb) (k := 6) (by rfl) T.g__law_heard T.k__law_heard lkH hcH hbH sc__law_heard rfl (.inl rfl) (ok__law_heard (Tb := Tb) T) LD__law_joined_right.tb hcode LD__law_joined_right.mem LD__law_joined_right.hu (hr.mono (by decide)) (LamX.lamS_by (by show LamX.lamSB (defScope s__law_joined_right) _ = true; decide +kernel)) rfl (fun _ _ _ _ _ => rfl) (fun A outer s H E f c' hr => (pe_g (PromO.call G__law_told (hr.mono (by decide)) (passA (E := E))) (by rfl) T.g__law_told T.k__law_told (pa_cons (pe_op (op_binI T.ow_Span.first T.mt_Span___mul__.at_ T.mt_Span___mul__.fn T.op_Span_Mult.rc.choose_spec.1 T.op_Span_Mult.rc.choose_spec.2 T.op_Span_Mult.fo.choose_spec T.op_Span_Mult.ro.choose_spec T.ow_Span.sub (PromO.call G_Span___mul__ (hr.mono (by decide)) (pass_on rfl rfl rfl rfl))) (pv 1) (pv 10)) pa_nil)))) pa_nil)))
      (pss_cons (ps_for PassesOwn.never rfl (pi_seq (K := K) rfl (pv 7)) (pg_name (i := 8) sc__law_joined_right.nd rfl (.inl rfl))
      (pss_cons (ps_if (pt_cmpR (op_neA (K := K) rfl hr.units) (pv 8) (pe_ifExp (pt_cmpR or_isN (pv 6) pe_non (nomark _)) (pe_tup (pa_cons pe_str (pa_cons (pe_op (op_addA (K := K) rfl) (pv 5) (pe_lst (pa_cons (pe_g (PromO.call G__law_text (hr.mono (by decide)) (passA (E := E))) (by rfl) T.g__law_text T.k__law_text (pa_cons (pe_ix (ix_seqK (K := K) rfl) (pv 5) pe_int (fun _ _ => rfl)) (pa_cons (pe_ix (ix_seqK (K := K) rfl) (pv 5) pe_int (fun _ _ => rfl)) (pa_cons (pe_ix (ix_seqK (K := K) rfl) (pv 5) pe_int (fun _ _ => rfl)) pa_nil)))) pa_nil))) pa_nil))) (pe_tup (pa_cons pe_str (pa_cons (pv 6) pa_nil)))) (nomark _))
      (pss_cons (ps_ret pe_bl) pss_nil) pss_nil)
      pss_nil))
      (pss_cons (ps_set (i := 8) sc__law_joined_right.nd rfl (.inl rfl) (LamX.pe_lamcall (T := Tb) (k := 6) (by rfl) T.g__law_heard T.k__law_heard lkH hcH hbH sc__law_heard rfl (.inl rfl) (ok__law_heard (Tb := Tb) T) LD__law_joined_right.tb hcode LD__law_joined_right.mem LD__law_joined_right.hu (hr.mono (by decide)) (LamX.lamS_by (by show LamX.lamSB (defScope s__law_joined_right) _ = true; decide +kernel)) rfl (fun _ _ _ _ _ => rfl) (fun A outer s H E f c' hr => (pe_po (pe_op (op_radd T.ow_Span.first T.mt_Span___add__.at_ T.mt_Span___radd__.at_ T.mt_Span___radd__.fn T.si_Span (PromO.call G_Span___radd__ (hr.mono (by decide)) (pass_on rfl rfl rfl rfl))) (pv 10) (pv 1)) T.cl_Span T.pr_Span_more G_Span_more (hr.mono (by decide)) (passA (E := EF))))))
      (pss_cons (ps_ret (pe_cmpR (op_eqA (K := K) rfl hr.units) (pv 8) (LamX.pe_lamcall (T := Tb) (k := 6) (by rfl) T.g__law_heard T.k__law_heard lkH hcH hbH sc__law_heard rfl (.inl rfl) (ok__law_heard (Tb := Tb) T) LD__law_joined_right.tb hcode LD__law_joined_right.mem LD__law_joined_right.hu (hr.mono (by decide)) (LamX.lamS_by (by show LamX.lamSB (defScope s__law_joined_right) _ = true; decide +kernel)) rfl (fun _ _ _ _ _ => rfl) (fun A outer s H E f c' hr => (pe_po (pe_op (op_binI T.ow_Span.first T.mt_Span___add__.at_ T.mt_Span___add__.fn T.op_Span_Add.rc.choose_spec.1 T.op_Span_Add.rc.choose_spec.2 T.op_Span_Add.fo.choose_spec T.op_Span_Add.ro.choose_spec T.ow_Span.sub (PromO.call G_Span___add__ (hr.mono (by decide)) (pass_on rfl rfl rfl rfl))) (pv 1) (pv 10)) T.cl_Span T.pr_Span_more G_Span_more (hr.mono (by decide)) (passA (E := EF))))) (nomark _))) pss_nil)))))))))), ?_⟩
  exact fn_of3 (F := F__law_joined_right) (envU := fun _ => List.replicate 13 .no) h (fun l_pen_here l_one l_parts => rfl) (fun p c l_pen_here l_one l_parts => (ss_asg (se_lst (sa_cons (se_cl srl_sp0 (sa_cons se_var (sa_cons se_int sa_nil))) (sa_cons (se_op sr_sub (se_cl srl_sp0 (sa_cons se_var (sa_cons se_int sa_nil))) se_int) (sa_cons (se_op sr_sub (se_cl srl_sp0 (sa_cons se_var (sa_cons se_int sa_nil))) se_int) sa_nil)))) (fun l_others0 => (ss_unp (se_tup (sa_cons (se_nox (se_cl srl_mk0 (sa_cons (se_op sr_ix se_var se_int) (sa_cons (se_op sr_ix se_var se_int) (sa_cons (se_op sr_ix se_var se_int) sa_nil))))) (sa_cons (se_op sr_sub (se_cl srl_sp0 (sa_cons se_var (sa_cons se_int sa_nil))) se_int) sa_nil))) (fun d47 => sx_tup2 (fun l_other45 l_k45 => (ss_for (fun (w52 : Unit) => [.fz l_pen_here, .fz l_one, .fz l_parts, .fz l_others0, .no, .no, .no, .no, .no, .fz l_other45, .fz l_k45, .no, .no]) (si_seq (se_tup (sa_cons se_int (sa_cons (se_un sr_neg se_int) sa_nil)))) (.s (.s (.s (.s (.s (.s (.s (.s (.s (.s (.s (.s (.s .nil))))))))))))) (fun (d53 : D) (w52 : Unit) => (sx_name (ss_asg (se_lc (si_rg1 (sa_cons se_int sa_nil)) (fun l_at57 => (sc_map (se_op sr_add (se_op sr_ix se_var se_var) (se_op sr_mul se_var (se_op sr_ix se_var se_var)))))) (fun l_due54 => (ss_asg (se_cl srl_sp0 (sa_cons (se_op sr_ix se_var se_int) (sa_cons (se_op sr_ix se_var se_int) (sa_cons (se_op sr_ix se_var se_int) sa_nil)))) (fun l_fault_here66 => (ss_asg (se_lam fun E => (se_cl srl_sp0 (sa_cons (se_if (sb_tst (se_op sr_eq se_var se_int)) (se_op (sr_bin srl_sp0) se_var se_var) (se_op (sr_bin srl_sp0) se_var se_var)) sa_nil))) (fun l_heard_here79 => (ss_if (fun (w121 : Unit) => [.fz l_pen_here, .fz l_one, .fz l_parts, .fz l_others0, .fz d53, .fz l_due54, .fz l_fault_here66, .no, .fz l_heard_here79, .fz l_other45, .fz l_k45, .no, .no]) (sb_tst (se_op sr_ne se_var (se_if (sb_tst (se_op sr_isN se_var se_non)) (se_tup (sa_cons (se_str (by decide)) (sa_cons (se_op sr_add se_var (se_lst (sa_cons (se_cl srl_sp0 (sa_cons (se_op sr_ix se_var se_int) (sa_cons (se_op sr_ix se_var se_int) (sa_cons (se_op sr_ix se_var se_int) sa_nil)))) sa_nil))) sa_nil))) (se_tup (sa_cons (se_str (by decide)) (sa_cons se_var sa_nil)))))) (ss_ret se_bl) (ss_nx (.s (.s (.s (.s (.s (.s (.s (.s (.s (.s (.s (.s (.s .nil)))))))))))))) (fun (w121 : Unit) => (ss_asg (se_cl srl_sp0 (sa_cons (se_op sr_ix se_var se_int) (sa_cons (se_op sr_add (se_op sr_ix se_var se_int) (se_op sr_mul se_var se_var)) (sa_cons (se_op sr_ix se_var se_int) sa_nil)))) (fun l_fault_here121 => (ss_asg (se_lam fun E => (se_prX (se_if (sb_tst (se_op sr_eq se_var se_int)) (se_op (sr_binI srl_sp0) se_var se_var) (se_op (sr_binI srl_sp0) se_var se_var)))) (fun l_heard_here138 => (ss_if (fun (w169 : Unit) => [.fz l_pen_here, .fz l_one, .fz l_parts, .fz l_others0, .fz d53, .fz l_due54, .fz l_fault_here121, .no, .fz l_heard_here138, .fz l_other45, .fz l_k45, .no, .no]) (sb_tst (se_op sr_ne se_var (se_if (sb_tst (se_op sr_isN se_var se_non)) (se_tup (sa_cons (se_str (by decide)) (sa_cons (se_op sr_add (se_op sr_ix se_var se_int) (se_op sr_mul se_var se_var)) sa_nil))) (se_tup (sa_cons (se_str (by decide)) (sa_cons se_var sa_nil)))))) (ss_ret se_bl) (ss_nx (.s (.s (.s (.s (.s (.s (.s (.s (.s (.s (.s (.s (.s .nil)))))))))))))) (fun (w169 : Unit) => (ss_nx (.s (.s (.s (.s (.n (.n (.n (.s (.n (.s (.s (.s (.s .nil)))))))))))))))))))))))))))))) (fun (w52 : Unit) => (ss_asg (se_lc (si_seq se_var) (fun l_part_here170 => (sc_map (se_op sr_mul se_var se_var)))) (fun l_due169 => (ss_asg (se_cl srl_sp0 (sa_cons (se_op sr_ix se_var se_int) (sa_cons (se_op sr_ix se_var se_int) (sa_cons (se_op sr_ix se_var se_int) sa_nil)))) (fun l_fault_here173 => (ss_own (sn_lst (sa_cons (se_lam fun E => (se_cl srl_sp0 (sa_cons (se_op (sr_binR srl_sp0) se_var se_var) sa_nil))) sa_nil)) (fun l_twice186 => (ss_app (se_lam fun E => (se_cl srl_sp0 (sa_cons (se_op (sr_binI srl_sp0) se_var se_var) sa_nil))) (fun v200 => (ss_fz (i := 7) rfl (ss_for (fun (w201 : Unit) => [.fz l_pen_here, .fz l_one, .fz l_parts, .fz l_others0, .no, .fz l_due169, .fz l_fault_here173, .fz (.lst (l_twice186 ++ [v200])), .no, .fz l_other45, .fz l_k45, .no, .no]) (si_seq se_var) (.s (.s (.s (.s (.s (.s (.s (.s (.s (.s (.s (.s (.s .nil))))))))))))) (fun (d202 : D) (w201 : Unit) => (sx_name (ss_if (fun (w232 : Unit) => [.fz l_pen_here, .fz l_one, .fz l_parts, .fz l_others0, .no, .fz l_due169, .fz l_fault_here173, .fz (.lst (l_twice186 ++ [v200])), .fz d202, .fz l_other45, .fz l_k45, .no, .no]) (sb_tst (se_op sr_ne se_var (se_if (sb_tst (se_op sr_isN se_var se_non)) (se_tup (sa_cons (se_str (by decide)) (sa_cons (se_op sr_add se_var (se_lst (sa_cons (se_cl srl_sp0 (sa_cons (se_op sr_ix se_var se_int) (sa_cons (se_op sr_ix se_var se_int) (sa_cons (se_op sr_ix se_var se_int) sa_nil)))) sa_nil))) sa_nil))) (se_tup (sa_cons (se_str (by decide)) (sa_cons se_var sa_nil)))))) (ss_ret se_bl) (ss_nx (.s (.s (.s (.s (.s (.s (.s (.s (.s (.s (.s (.s (.s .nil)))))))))))))) (fun (w232 : Unit) => (ss_nx (.s (.s (.s (.s (.s (.s (.s (.s (.n (.s (.s (.s (.s .nil)))))))))))))))))) (fun (w201 : Unit) => (ss_asg (se_lam fun E => (se_prX (se_op (sr_binR srl_sp0) se_var se_var))) (fun l_heard_here232 => (ss_ret (se_op sr_eq se_var (se_lam fun E => (se_prX (se_op (sr_binI srl_sp0) se_var se_var))))))))))))))))))))))))))
end
end Lw
end
section
set_option Elab.async false
set_option linter.all false
set_option maxRecDepth 100000
set_option maxHeartbeats 4000000
set_option pp.maxSteps 600
namespace Lw
open PySem PySem.Spec PyProof.Rows L2 Gh Gp Gz
section
variable {P : Program} {w : World} {K : PySem.W.Frag} {mg : Str → Option Value} {base : Heap} {f : Addr} {fd : FuncData} {Tb : List (Addr × Str)}
abbrev N__law_read_right : List Str := ["_law_pen_here", "_law_wording", "_law_one", "_law_words", "_law_at", "_law_odd", "_law_bad", "_law_thing"]
theorem sc__law_read_right : FnScope N__law_read_right ["_law_pen_here", "_law_wording", "_law_one"] (defScope s__law_read_right) := ⟨rfl, rfl, rfl, by decide +kernel, rfl, by decide +kernel, by decide +kernel⟩
def F__law_read_right (l_pen_here l_wording l_one : D) : Tr D :=
  fin (bdF (W' := Unit) (bd (bd (bd (nox (bd (bd (.ok l_wording) fun v1 => (bd (.ok []) fun r2 => .ok (v1 :: r2))) (ul1 F_Span_read))) fun v3 => (bd (.ok l_one) fun v4 => neO "Span" eqr_Span (ul2 F_Span___eq__) v3 v4)) asB) fun k => if k = true then (bd (.ok (.bl false)) fun d => .ok (.rt d)) else (.ok (.nx ()))) fun (w5 : Unit) => (bd (bd (.ok l_wording) fun v7 => (isS v7 fun _ => (bd (.ok (.str " ")) fun v8 => splitD v7 v8))) fun l_words5 => (bd (bd (bd (.ok l_pen_here) fun v12 => (bd (bd (.ok (.int 6)) fun v10 => (bd (.ok []) fun r11 => .ok (v10 :: r11))) fun r13 => .ok (v12 :: r13))) (ul2 F_draw)) fun l_at8 => (bd (bd (bd (.ok l_pen_here) fun v35 => (bd (bd (bd (bd (.ok (.str "")) fun v31 => (bd (bd (.ok (.str "+1")) fun v29 => (bd (bd (.ok (.str "01")) fun v27 => (bd (bd (.ok (.str "-0")) fun v25 => (bd (bd (.ok (.str "9999")) fun v23 => (bd (bd (.ok (.str "halve")) fun v21 => (bd (bd (.ok (.str "x")) fun v19 => (bd (bd (.ok (.str "1 1")) fun v17 => (bd (bd (.ok (.str " ")) fun v15 => (bd (.ok []) fun r16 => .ok (v15 :: r16))) fun r18 => .ok (v17 :: r18))) fun r20 => .ok (v19 :: r20))) fun r22 => .ok (v21 :: r22))) fun r24 => .ok (v23 :: r24))) fun r26 => .ok (v25 :: r26))) fun r28 => .ok (v27 :: r28))) fun r30 => .ok (v29 :: r30))) fun r32 => .ok (v31 :: r32))) fun ds => if ds.length ≤ sizeLine then .ok (.lst ds) else .bad) fun v33 => (bd (.ok []) fun r34 => .ok (v33 :: r34))) fun r36 => .ok (v35 :: r36))) (ul2 F__law_pick)) fun l_odd13 => (bd (bd (bd (bd (.ok (.str " ")) fun v38 => (isS v38 fun _ => (bd (bd (bd (bd (.ok l_words5) fun v40 => (bd (.ok none) fun lo => bd (bd (.ok l_at8) asI) fun hi => slD v40 lo hi)) fun v44 => (bd (bd (bd (.ok l_odd13) fun v42 => (bd (.ok []) fun r43 => .ok (v42 :: r43))) fun ds => if ds.length ≤ sizeLine then .ok (.lst ds) else .bad) fun v45 => addD v44 v45)) fun v50 => (bd (bd (.ok l_words5) fun v46 => (bd (bd (bd (.ok l_at8) fun v48 => (bd (.ok (.int 1)) fun v49 => addD v48 v49)) asI) fun lo => bd (.ok none) fun hi => slD v46 lo hi)) fun v51 => addD v50 v51)) fun v39 => joinD v38 v39))) fun v64 => (bd (bd (bd (.ok (.str " ")) fun v52 => (isS v52 fun _ => (bd (bd (bd (.ok l_words5) fun v54 => (bd (.ok none) fun lo => bd (bd (.ok l_at8) asI) fun hi => slD v54 lo hi)) fun v60 => (bd (bd (.ok l_words5) fun v56 => (bd (bd (bd (.ok l_at8) fun v58 => (bd (.ok (.int 1)) fun v59 => addD v58 v59)) asI) fun lo => bd (.ok none) fun hi => slD v56 lo hi)) fun v61 => addD v60 v61)) fun v53 => joinD v52 v53))) fun v62 => (bd (.ok []) fun r63 => .ok (v62 :: r63))) fun r65 => .ok (v64 :: r65))) fun ds => if ds.length ≤ sizeLine then .ok (.lst ds) else .bad) fun l_bad36 => (bd (bd (.ok l_bad36) fun v75 => (bd (bd (bd (bd (.ok l_wording) fun v67 => (bd (.ok (.str " ")) fun v68 => addD v67 v68)) fun v73 => (bd (bd (bd (.ok (.str " ")) fun v69 => (bd (.ok l_wording) fun v70 => addD v69 v70)) fun v71 => (bd (.ok []) fun r72 => .ok (v71 :: r72))) fun r74 => .ok (v73 :: r74))) fun ds => if ds.length ≤ sizeLine then .ok (.lst ds) else .bad) fun v76 => addD v75 v76)) fun l_bad65 => (bdF (bd (bd (bd (.ok l_bad65) fun v95 => (bd (bd (bd (bd (.ok l_wording) fun v77 => (bd (.ok (.str " 1")) fun v78 => addD v77 v78)) fun v93 => (bd (bd (.ok (.str "")) fun v91 => (bd (bd (.ok .non) fun v89 => (bd (bd (.ok (.int 7)) fun v87 => (bd (bd (.ok (.bl true)) fun v85 => (bd (bd (bd (bd (.ok l_wording) fun v79 => (bd (.ok []) fun r80 => .ok (v79 :: r80))) fun ds => if ds.length ≤ sizeLine then .ok (.lst ds) else .bad) fun v83 => (bd (bd (.ok l_one) fun v81 => (bd (.ok []) fun r82 => .ok (v81 :: r82))) fun r84 => .ok (v83 :: r84))) fun r86 => .ok (v85 :: r86))) fun r88 => .ok (v87 :: r88))) fun r90 => .ok (v89 :: r90))) fun r92 => .ok (v91 :: r92))) fun r94 => .ok (v93 :: r94))) fun ds => if ds.length ≤ sizeLine then .ok (.lst ds) else .bad) fun v96 => addD v95 v96)) itD) fun ds => forF (fun (d98 : D) (w97 : Unit) => (bdF (W' := Unit) (bd (bd (bd (nox (F__law_heard (bd (bd (.ok d98) fun v100 => (bd (.ok []) fun r101 => .ok (v100 :: r101))) (ul1 F_Span_read)))) fun v108 => (bd (bd (bd (.ok (.str "text")) fun v106 => (bd (bd (.ok (.int 0)) fun v104 => (bd (bd (.ok (.int 0)) fun v102 => (bd (.ok []) fun r103 => .ok (v102 :: r103))) fun r105 => .ok (v104 :: r105))) fun r107 => .ok (v106 :: r107))) fun ds => if ds.length ≤ sizeLine then .ok (.tup ds) else .bad) fun v109 => neD v108 v109)) asB) fun k => if k = true then (bd (.ok (.bl false)) fun d => .ok (.rt d)) else (.ok (.nx ()))) fun (w110 : Unit) => (.ok (.nx ())))) ds ()) fun (w97 : Unit) => (bd (.ok (.bl true)) fun d => .ok (.rt d)))))))))
theorem ok__law_read_right (F : FnA K d__law_read_right fd) (T : Tx K mg) (G_Span_read : PromO P w K mg base (L2.CX P w) 5 (clsG "Span" "read" K) [] (spK K Tb "Span" (ul1 F_Span_read))) (G_Span___eq__ : PromO P w K mg base CX0 1 (md "Span" "__eq__" K) [] (spF K Tb (ul2 F_Span___eq__))) (G__law_draw : PromO P w K mg base CX0 1 (gd "_law_draw" K) [] (spF K Tb (ul2 F_draw))) (G__law_pick : PromO P w K mg base CX0 2 (gd "_law_pick" K) [] (spF K Tb (ul2 F__law_pick))) (GH__law_heard : HrdP K d__law_heard ["_law_ask"]) (LD__law_read_right : LamD base mg K Tb d__law_read_right ("_law_read_right", none)) : FnOk P w K mg base CX0 8 (d__law_read_right.adr K) fd ["_law_pen_here", "_law_wording", "_law_one"] (spF K Tb (ul3 F__law_read_right)) := by
  obtain ⟨fdH, FH, hbH⟩ := GH__law_heard
  obtain ⟨ocH, odH, dVH, kVH, docH, pmH, anH, cdvH, ctH, oslH, rfl, lkH, hcH, _, _⟩ := FH.ex
  have ecode : fd.code = .ref (He.cT K ("_law_read_right", none)).1 := codeOf_fn (p := ("_law_read_right", none)) F
  refine fnO1 F sc__law_read_right (fun vs H Q E h => spF_len len3 h) (fun cdv A outer s H vs Q E hcdv hr h => ?_)
  have hcode : cdv = .ref (He.cT K ("_law_read_right", none)).1 := hcdv.trans ecode
  refine ⟨_, (pss_cons (ps_if (pt_cmpR (op_neO (K := K) rfl T.mt_Span___eq__ T.ne_Span G_Span___eq__ (hr.mono (by decide)) (passA (E := E))) (pe_cm (pe_glob (v := .ref _) rfl T.g_Span rfl) T.cm_Span_read G_Span_read (hr.mono (by decide)) passF (pa_cons (pv 1) pa_nil)) (pv 2) (nomark _))
      (pss_cons (ps_ret pe_bl) pss_nil) pss_nil)
      (pss_cons (ps_set (i := 3) sc__law_read_right.nd rfl (.inl rfl) (pe_split (pv 1) pe_str))
      (pss_cons (ps_set (i := 4) sc__law_read_right.nd rfl (.inl rfl) (pe_g (PromO.call G__law_draw (hr.mono (by decide)) (passA (E := E))) (by rfl) T.g__law_draw T.k__law_draw (pa_cons (pv 0) (pa_cons pe_int pa_nil))))
      (pss_cons (ps_set (i := 5) sc__law_read_right.nd rfl (.inl rfl) (pe_g (PromO.call G__law_pick (hr.mono (by decide)) (passA (E := E))) (by rfl) T.g__law_pick T.k__law_pick (pa_cons (pv 0) (pa_cons (pe_lst (pa_cons pe_str (pa_cons pe_str (pa_cons pe_str (pa_cons pe_str (pa_cons pe_str (pa_cons pe_str (pa_cons pe_str (pa_cons pe_str (pa_cons pe_str pa_nil)))))))))) pa_nil))))
      (pss_cons (ps_set (i := 6) sc__law_read_right.nd rfl (.inl rfl) (pe_lst (pa_cons (pe_join pe_str (pe_op (op_addA (K := K) rfl) (pe_op (op_addA (K := K) rfl) (pe_slice (sl_all (K := K) rfl) (pv 3) po_none (po_some (pv 4))) (pe_lst (pa_cons (pv 5) pa_nil))) (pe_slice (sl_all (K := K) rfl) (pv 3) (po_some (pe_op (op_addA (K := K) rfl) (pv 4) pe_int)) po_none))) (pa_cons (pe_join pe_str (pe_op (op_addA (K := K) rfl) (pe_slice (sl_all (K := K) rfl) (pv 3) po_none (po_some (pv 4))) (pe_slice (sl_all (K := K) rfl) (pv 3) (po_some (pe_op (op_addA (K := K) rfl) (pv 4) pe_int)) po_none))) pa_nil))))
      (pss_cons (ps_set (i := 6) sc__law_read_right.nd rfl (.inl rfl) (pe_op (op_addA (K := K) rfl) (pv 6) (pe_lst (pa_cons (pe_op (op_addA (K := K) rfl) (pv 1) pe_str) (pa_cons (pe_op (op_addA (K := K) rfl) pe_str (pv 1)) pa_nil)))))
      (pss_cons (ps_for PassesOwn.never rfl (pi_seq (K := K) rfl (pe_op (op_addA (K := K) rfl) (pv 6) (pe_lst (pa_cons (pe_op (op_addA (K := K) rfl) (pv 1) pe_str) (pa_cons pe_str (pa_cons pe_non (pa_cons pe_int (pa_cons pe_bl (pa_cons (pe_lst (pa_cons (pv 1) pa_nil)) (pa_cons (pv 2) pa_nil)))))))))) (pg_name (i := 7) sc__law_read_right.nd rfl (.inr rfl))
      (pss_cons (ps_if (pt_cmpR (op_neA (K := K) rfl hr.units) (LamX.pe_lamcall (T := Tb) (k := 5) (by rfl) T.g__law_heard T.k__law_heard lkH hcH hbH sc__law_heard rfl (.inl rfl) (ok__law_heard (Tb := Tb) T) LD__law_read_right.tb hcode LD__law_read_right.mem LD__law_read_right.hu (hr.mono (by decide)) (LamX.lamS_by (by show LamX.lamSB (defScope s__law_read_right) _ = true; decide +kernel)) rfl (fun _ _ _ _ _ => rfl) (fun A outer s H E f c' hr => (pe_cm (pe_glob (v := .ref _) rfl T.g_Span rfl) T.cm_Span_read G_Span_read (hr.mono (by decide)) (pass_on rfl rfl rfl rfl) (pa_cons (pv 7) pa_nil)))) (pe_tup (pa_cons pe_str (pa_cons pe_int (pa_cons pe_int pa_nil)))) (nomark _))
      (pss_cons (ps_ret pe_bl) pss_nil) pss_nil)
      pss_nil))
      (pss_cons (ps_ret pe_bl) pss_nil)))))))), ?_⟩
  exact fn_of3 (F := F__law_read_right) (envU := fun _ => List.replicate 8 .no) h (fun l_pen_here l_wording l_one => rfl) (fun p c l_pen_here l_wording l_one => (ss_if (fun (w5 : Unit) => [.fz l_pen_here, .fz l_wording, .fz l_one, .no, .no, .no, .no, .no]) (sb_tst (se_op (sr_neO (eqR_Span T)) (se_nox (se_cm (sa_cons se_var sa_nil))) se_var)) (ss_ret se_bl) (ss_nx (.s (.s (.s (.s (.s (.s (.s (.s .nil))))))))) (fun (w5 : Unit) => (ss_asg (se_split se_var (se_str (by decide))) (fun l_words5 => (ss_asg (se_cl srl_sp0 (sa_cons se_var (sa_cons se_int sa_nil))) (fun l_at8 => (ss_asg (se_cl srl_sp0 (sa_cons se_var (sa_cons (se_lst (sa_cons (se_str (by decide)) (sa_cons (se_str (by decide)) (sa_cons (se_str (by decide)) (sa_cons (se_str (by decide)) (sa_cons (se_str (by decide)) (sa_cons (se_str (by decide)) (sa_cons (se_str (by decide)) (sa_cons (se_str (by decide)) (sa_cons (se_str (by decide)) sa_nil)))))))))) sa_nil))) (fun l_odd13 => (ss_asg (se_lst (sa_cons (se_join (se_str (by decide)) (se_op sr_add (se_op sr_add (se_sl se_var so_none (so_some se_var)) (se_lst (sa_cons se_var sa_nil))) (se_sl se_var (so_some (se_op sr_add se_var se_int)) so_none))) (sa_cons (se_join (se_str (by decide)) (se_op sr_add (se_sl se_var so_none (so_some se_var)) (se_sl se_var (so_some (se_op sr_add se_var se_int)) so_none))) sa_nil))) (fun l_bad36 => (ss_asg (se_op sr_add se_var (se_lst (sa_cons (se_op sr_add se_var (se_str (by decide))) (sa_cons (se_op sr_add (se_str (by decide)) se_var) sa_nil)))) (fun l_bad65 => (ss_for (fun (w97 : Unit) => [.fz l_pen_here, .fz l_wording, .fz l_one, .fz l_words5, .fz l_at8, .fz l_odd13, .fz l_bad65, .no]) (si_seq (se_op sr_add se_var (se_lst (sa_cons (se_op sr_add se_var (se_str (by decide))) (sa_cons (se_str (by decide)) (sa_cons se_non (sa_cons se_int (sa_cons se_bl (sa_cons (se_lst (sa_cons se_var sa_nil)) (sa_cons se_var sa_nil)))))))))) (.s (.s (.s (.s (.s (.s (.s (.s .nil)))))))) (fun (d98 : D) (w97 : Unit) => (sx_name (ss_if (fun (w110 : Unit) => [.fz l_pen_here, .fz l_wording, .fz l_one, .fz l_words5, .fz l_at8, .fz l_odd13, .fz l_bad65, .fz d98]) (sb_tst (se_op sr_ne (se_lam fun E => (se_cm (sa_cons se_var sa_nil))) (se_tup (sa_cons (se_str (by decide)) (sa_cons se_int (sa_cons se_int sa_nil)))))) (ss_ret se_bl) (ss_nx (.s (.s (.s (.s (.s (.s (.s (.s .nil))))))))) (fun (w110 : Unit) => (ss_nx (.s (.s (.s (.s (.s (.s (.s (.n .nil))))))))))))) (fun (w97 : Unit) => (ss_ret se_bl))))))))))))))))
abbrev N_law : List Str := ["_law_script", "_law_pen_here", "_law_turn", "_law_fault_here", "_law_heard_here", "_law_k", "_law_halves", "_law_more", "_law_odd", "_law_one", "_law_wording"]
theorem sc_law : FnScope N_law ["_law_script"] (defScope s_law) := ⟨rfl, rfl, rfl, by decide +kernel, rfl, by decide +kernel, by decide +kernel⟩
def F_law : Tr D :=
  fin (bdF (bd (bd (bd (.ok (.int 6)) fun v1 => (bd (.ok []) fun r2 => .ok (v1 :: r2))) (ul1 rg1)) fun ds => forF (fun (d4 : D) (w3 : Unit) => (bd (bd (bd (bd (bd (.ok .pen) fun v10 => (bd (bd (.ok (.int 0)) fun v8 => (bd (bd (.ok (.int 8)) fun v6 => (bd (.ok []) fun r7 => .ok (v6 :: r7))) fun r9 => .ok (v8 :: r9))) fun r11 => .ok (v10 :: r11))) (ul3 F__law_part)) fun v28 => (bd (bd (bd (bd (.ok .pen) fun v16 => (bd (bd (bd (.ok (.int 60)) negD) fun v14 => (bd (bd (.ok (.int 60)) fun v12 => (bd (.ok []) fun r13 => .ok (v12 :: r13))) fun r15 => .ok (v14 :: r15))) fun r17 => .ok (v16 :: r17))) (ul3 F__law_part)) fun v26 => (bd (bd (bd (bd (.ok .pen) fun v22 => (bd (bd (bd (.ok (.int 9)) negD) fun v20 => (bd (bd (.ok (.int 9)) fun v18 => (bd (.ok []) fun r19 => .ok (v18 :: r19))) fun r21 => .ok (v20 :: r21))) fun r23 => .ok (v22 :: r23))) (ul3 F__law_part)) fun v24 => (bd (.ok []) fun r25 => .ok (v24 :: r25))) fun r27 => .ok (v26 :: r27))) fun r29 => .ok (v28 :: r29))) fun ds => if ds.length ≤ sizeLine then .ok (.tup ds) else .bad) fun d31 => un3 d31 fun l_halves29 l_more29 l_odd29 => (bd (bd (bd (.ok l_halves29) fun v37 => (bd (bd (.ok l_more29) fun v35 => (bd (bd (.ok l_odd29) fun v33 => (bd (.ok []) fun r34 => .ok (v33 :: r34))) fun r36 => .ok (v35 :: r36))) fun r38 => .ok (v37 :: r38))) (ul3 F__law_fault)) fun l_fault_here31 => (bd (nox (F__law_heard (bd (bd (bd (bd (.ok l_halves29) fun v44 => (bd (bd (.ok l_more29) fun v42 => (bd (bd (.ok l_odd29) fun v40 => (bd (.ok []) fun r41 => .ok (v40 :: r41))) fun r43 => .ok (v42 :: r43))) fun r45 => .ok (v44 :: r45))) (fun ds => bd ((fun fs => ul3 (F_Span___init__ fs)) [] ds) fun fs => .ok (.obj "Span" fs))) fun v46 => (bd (.ok []) fun r47 => .ok (v46 :: r47))) (ul1 F__law_told)))) fun l_heard_here38 => (bdF (W' := Unit) (bd (bd (bd (bd (.ok l_fault_here31) fun (v48 : D) => (bd (.ok .non) fun (v49 : D) => (match v49 with | .non => .ok (.bl (!isN v48)) | _ => .bad))) asB) fun k => if k = true then (bd (bd (.ok l_heard_here38) fun v54 => (bd (bd (bd (.ok (.str "span")) fun v52 => (bd (bd (.ok l_fault_here31) fun v50 => (bd (.ok []) fun r51 => .ok (v50 :: r51))) fun r53 => .ok (v52 :: r53))) fun ds => if ds.length ≤ sizeLine then .ok (.tup ds) else .bad) fun v55 => neD v54 v55)) asB) else .ok false) fun k => if k = true then (bd (.ok (.bl false)) fun d => .ok (.rt d)) else (.ok (.nx ()))) fun (w56 : Unit) => (bdF (W' := Unit) (bd (bd (bd (.ok l_fault_here31) fun (v57 : D) => (bd (.ok .non) fun (v58 : D) => (match v58 with | .non => .ok (.bl (isN v57)) | _ => .bad))) asB) fun k => if k = true then (bd (bd (nox (bd (bd (.ok l_halves29) fun v64 => (bd (bd (.ok l_more29) fun v62 => (bd (bd (.ok l_odd29) fun v60 => (bd (.ok []) fun r61 => .ok (v60 :: r61))) fun r63 => .ok (v62 :: r63))) fun r65 => .ok (v64 :: r65))) (fun ds => bd ((fun fs => ul3 (F_Span___init__ fs)) [] ds) fun fs => .ok (.obj "Span" fs)))) fun v74 => (bd (bd (bd (bd (.ok l_halves29) fun v70 => (bd (bd (.ok l_more29) fun v68 => (bd (bd (.ok l_odd29) fun v66 => (bd (.ok []) fun r67 => .ok (v66 :: r67))) fun r69 => .ok (v68 :: r69))) fun r71 => .ok (v70 :: r71))) (ul3 F__law_text)) fun v72 => (bd (.ok []) fun r73 => .ok (v72 :: r73))) fun r75 => .ok (v74 :: r75))) (ul2 fun l_one75 l_wording75 => (bdF (W' := Unit) (bd (bd (bd (bd (.ok l_heard_here38) fun v89 => (bd (bd (bd (.ok (.str "told")) fun v87 => (bd (bd (bd (bd (.ok l_halves29) fun v83 => (bd (bd (.ok l_more29) fun v81 => (bd (bd (.ok l_odd29) fun v79 => (bd (bd (.ok l_wording75) fun v77 => (bd (.ok []) fun r78 => .ok (v77 :: r78))) fun r80 => .ok (v79 :: r80))) fun r82 => .ok (v81 :: r82))) fun r84 => .ok (v83 :: r84))) fun ds => if ds.length ≤ sizeLine then .ok (.lst ds) else .bad) fun v85 => (bd (.ok []) fun r86 => .ok (v85 :: r86))) fun r88 => .ok (v87 :: r88))) fun ds => if ds.length ≤ sizeLine then .ok (.tup ds) else .bad) fun v90 => neD v89 v90)) asB) fun k => if k = true then .ok true else (bd (bd (bd (bd (.ok .pen) fun v95 => (bd (bd (.ok l_wording75) fun v93 => (bd (bd (.ok l_one75) fun v91 => (bd (.ok []) fun r92 => .ok (v91 :: r92))) fun r94 => .ok (v93 :: r94))) fun r96 => .ok (v95 :: r96))) (ul3 F__law_read_right)) asB) fun k => .ok (!k))) fun k => if k = true then (bd (.ok (.bl false)) fun d => .ok (.rt d)) else (.ok (.nx ()))) fun (w97 : Unit) => (bdF (W' := Unit) (bd (bd (bd (bd (bd (bd (.ok .pen) fun v108 => (bd (bd (.ok l_one75) fun v106 => (bd (bd (bd (bd (.ok l_halves29) fun v102 => (bd (bd (.ok l_more29) fun v100 => (bd (bd (.ok l_odd29) fun v98 => (bd (.ok []) fun r99 => .ok (v98 :: r99))) fun r101 => .ok (v100 :: r101))) fun r103 => .ok (v102 :: r103))) fun ds => if ds.length ≤ sizeLine then .ok (.lst ds) else .bad) fun v104 => (bd (.ok []) fun r105 => .ok (v104 :: r105))) fun r107 => .ok (v106 :: r107))) fun r109 => .ok (v108 :: r109))) (ul3 F__law_joined_right)) asB) fun k => .ok (!k)) fun k => if k = true then .ok true else (bd (bd (bd (.ok l_one75) fun v116 => (bd (bd (bd (.ok l_halves29) fun v114 => (bd (bd (.ok l_more29) fun v112 => (bd (bd (.ok l_odd29) fun v110 => (bd (.ok []) fun r111 => .ok (v110 :: r111))) fun r113 => .ok (v112 :: r113))) fun r115 => .ok (v114 :: r115))) fun ds => if ds.length ≤ sizeLine then .ok (.tup ds) else .bad) fun v117 => eqO "Span" eqr_Span (ul2 F_Span___eq__) v116 v117)) asB) fun k => if k = true then .ok true else (bd (bd (.ok l_one75) fun v118 => (bd (.ok l_wording75) fun v119 => eqO "Span" eqr_Span (ul2 F_Span___eq__) v118 v119)) asB))) fun k => if k = true then (bd (.ok (.bl false)) fun d => .ok (.rt d)) else (.ok (.nx ()))) fun (w120 : Unit) => (bdF (W' := Unit) (bd (bd (bd (bd (.ok l_one75) fun v127 => (bd (nox (bd (bd (.ok l_halves29) fun v125 => (bd (bd (.ok l_more29) fun v123 => (bd (bd (.ok l_odd29) fun v121 => (bd (.ok []) fun r122 => .ok (v121 :: r122))) fun r124 => .ok (v123 :: r124))) fun r126 => .ok (v125 :: r126))) (fun ds => bd ((fun fs => ul3 (F_Span___init__ fs)) [] ds) fun fs => .ok (.obj "Span" fs)))) fun v128 => neO "Span" eqr_Span (ul2 F_Span___eq__) v127 v128)) asB) fun k => if k = true then .ok true else (bd (bd (bd (.ok l_one75) fun v137 => (bd (nox (bd (bd (.ok l_halves29) fun v135 => (bd (bd (.ok l_more29) fun v133 => (bd (bd (bd (.ok (.int 0)) fun v129 => (bd (.ok l_odd29) fun v130 => subD v129 v130)) fun v131 => (bd (.ok []) fun r132 => .ok (v131 :: r132))) fun r134 => .ok (v133 :: r134))) fun r136 => .ok (v135 :: r136))) (fun ds => bd ((fun fs => ul3 (F_Span___init__ fs)) [] ds) fun fs => .ok (.obj "Span" fs)))) fun v138 => eqO "Span" eqr_Span (ul2 F_Span___eq__) v137 v138)) asB) fun k => if k = true then (bd (bd (.ok l_odd29) fun v139 => (bd (.ok (.int 0)) fun v140 => neD v139 v140)) asB) else .ok false)) fun k => if k = true then (bd (.ok (.bl false)) fun d => .ok (.rt d)) else (.ok (.nx ()))) fun (w141 : Unit) => (.ok (.nx ()))))))) else (.ok (.nx ()))) fun (w59 : Unit) => (bd (bd (bd (.ok .pen) fun v147 => (bd (bd (.ok (.int 0)) fun v145 => (bd (bd (.ok (.int 4)) fun v143 => (bd (.ok []) fun r144 => .ok (v143 :: r144))) fun r146 => .ok (v145 :: r146))) fun r148 => .ok (v147 :: r148))) (ul3 F__law_part)) fun l_k141 => (bd (bd (bd (bd (bd (bd (bd (.ok l_k141) fun v154 => (bd (bd (.ok (.int 0)) fun v152 => (bd (bd (.ok (.int 0)) fun v150 => (bd (.ok []) fun r151 => .ok (v150 :: r151))) fun r153 => .ok (v152 :: r153))) fun r155 => .ok (v154 :: r155))) (ul3 F__law_fault)) fun (v156 : D) => (bd (.ok .non) fun (v157 : D) => (match v157 with | .non => .ok (.bl (!isN v156)) | _ => .bad))) asB) fun k => if k = true then .ok true else (bd (bd (.ok l_k141) fun v158 => (bd (.ok (.int 4)) fun v159 => gtD v158 v159)) asB)) fun k => if k = true then (.ok (.str "halves")) else (bd (bd (.ok (.int 0)) fun v164 => (bd (bd (.ok l_more29) fun v162 => (bd (bd (.ok (.int 0)) fun v160 => (bd (.ok []) fun r161 => .ok (v160 :: r161))) fun r163 => .ok (v162 :: r163))) fun r165 => .ok (v164 :: r165))) (ul3 F__law_fault))) fun l_fault_here148 => (bd (nox (F__law_heard (bd (bd (bd (bd (.ok l_k141) fun v169 => (bd (bd (.ok l_more29) fun v167 => (bd (.ok []) fun r168 => .ok (v167 :: r168))) fun r170 => .ok (v169 :: r170))) (ul2 F_Span_whole)) fun v171 => (bd (.ok []) fun r172 => .ok (v171 :: r172))) (ul1 F__law_told)))) fun l_heard_here165 => (bdF (W' := Unit) (bd (bd (bd (.ok l_heard_here165) fun v201 => (bd (bd (bd (bd (.ok l_fault_here148) fun (v173 : D) => (bd (.ok .non) fun (v174 : D) => (match v174 with | .non => .ok (.bl (isN v173)) | _ => .bad))) asB) fun k => if k = true then (bd (bd (.ok (.str "told")) fun v195 => (bd (bd (bd (bd (bd (.ok (.int 2)) fun v175 => (bd (.ok l_k141) fun v176 => mulD v175 v176)) fun v191 => (bd (bd (.ok l_more29) fun v189 => (bd (bd (.ok l_k141) fun v187 => (bd (bd (bd (bd (bd (.ok (.int 2)) fun v177 => (bd (.ok l_k141) fun v178 => mulD v177 v178)) fun v183 => (bd (bd (.ok l_more29) fun v181 => (bd (bd (.ok l_k141) fun v179 => (bd (.ok []) fun r180 => .ok (v179 :: r180))) fun r182 => .ok (v181 :: r182))) fun r184 => .ok (v183 :: r184))) (ul3 F__law_text)) fun v185 => (bd (.ok []) fun r186 => .ok (v185 :: r186))) fun r188 => .ok (v187 :: r188))) fun r190 => .ok (v189 :: r190))) fun r192 => .ok (v191 :: r192))) fun ds => if ds.length ≤ sizeLine then .ok (.lst ds) else .bad) fun v193 => (bd (.ok []) fun r194 => .ok (v193 :: r194))) fun r196 => .ok (v195 :: r196))) fun ds => if ds.length ≤ sizeLine then .ok (.tup ds) else .bad) else (bd (bd (.ok (.str "span")) fun v199 => (bd (bd (.ok l_fault_here148) fun v197 => (bd (.ok []) fun r198 => .ok (v197 :: r198))) fun r200 => .ok (v199 :: r200))) fun ds => if ds.length ≤ sizeLine then .ok (.tup ds) else .bad)) fun v202 => neD v201 v202)) asB) fun k => if k = true then (bd (.ok (.bl false)) fun d => .ok (.rt d)) else (.ok (.nx ()))) fun (w203 : Unit) => (.ok (.nx ())))))))))))) ds ()) fun (w3 : Unit) => (bd (bd (bd (bd (bd (bd (bd (nox (bd (bd (.ok (.int 3)) fun v204 => (bd (.ok []) fun r205 => .ok (v204 :: r205))) (fun ds => bd ((fun fs => ul3 (F_Span___init__ fs)) [] (ds ++ [.int 0, .int 0])) fun fs => .ok (.obj "Span" fs)))) fun v206 => (bd (.ok []) fun r207 => .ok (v206 :: r207))) (ul1 F__law_told)) fun v208 => (bd (.ok none) fun lo => bd (bd (.ok (.int 3)) asI) fun hi => slD v208 lo hi)) fun v216 => (bd (bd (bd (.ok (.int 3)) fun v214 => (bd (bd (.ok (.int 0)) fun v212 => (bd (bd (.ok (.int 0)) fun v210 => (bd (.ok []) fun r211 => .ok (v210 :: r211))) fun r213 => .ok (v212 :: r213))) fun r215 => .ok (v214 :: r215))) fun ds => if ds.length ≤ sizeLine then .ok (.lst ds) else .bad) fun v217 => eqD v216 v217)) asB) fun k => if k = true then (bd (bd (bd (bd (bd (bd (nox (bd (.ok []) (fun ds => (ul2 F_Span_whole) (ds ++ [.int 1, .int 0])))) fun v218 => (bd (.ok []) fun r219 => .ok (v218 :: r219))) (ul1 F__law_told)) fun v220 => (bd (.ok none) fun lo => bd (bd (.ok (.int 3)) asI) fun hi => slD v220 lo hi)) fun v228 => (bd (bd (bd (.ok (.int 2)) fun v226 => (bd (bd (.ok (.int 0)) fun v224 => (bd (bd (.ok (.int 1)) fun v222 => (bd (.ok []) fun r223 => .ok (v222 :: r223))) fun r225 => .ok (v224 :: r225))) fun r227 => .ok (v226 :: r227))) fun ds => if ds.length ≤ sizeLine then .ok (.lst ds) else .bad) fun v229 => eqD v228 v229)) asB) fun k => if k = true then (bd (.ok (.int 60)) fun v230 => (bd (.ok (.int 60)) fun v231 => eqD v230 v231)) else .ok (.bl false)) else .ok (.bl false)) fun d => .ok (.rt d)))
theorem ok_law (F : FnA K d_law fd) (T : Tx K mg) (hyes : Yes F_law) (G__law_pen : PromO P w K mg base CX0 1 (gd "_law_pen" K) [] (spPn K)) (G__law_part : PromO P w K mg base CX0 3 (gd "_law_part" K) [] (spF K Tb (ul3 F__law_part))) (G__law_fault : PromO P w K mg base CX0 1 (gd "_law_fault" K) [] (spF K Tb (ul3 F__law_fault))) (GH__law_heard : HrdP K d__law_heard ["_law_ask"]) (LD_law : LamD base mg K Tb d_law ("law", none)) (G__law_told : PromO P w K mg base CX0 6 (gd "_law_told" K) [] (spF K Tb (ul1 F__law_told))) (G_Span___init__ : PromO P w K mg base (L2.CX P w) 3 (md "Span" "__init__" K) [] (spI K Tb "Span" (fun fs => ul3 (F_Span___init__ fs)))) (G__law_text : PromO P w K mg base CX0 1 (gd "_law_text" K) [] (spF K Tb (ul3 F__law_text))) (G__law_read_right : PromO P w K mg base CX0 8 (gd "_law_read_right" K) [] (spF K Tb (ul3 F__law_read_right))) (G__law_joined_right : PromO P w K mg base CX0 9 (gd "_law_joined_right" K) [] (spF K Tb (ul3 F__law_joined_right))) (G_Span___eq__ : PromO P w K mg base CX0 1 (md "Span" "__eq__" K) [] (spF K Tb (ul2 F_Span___eq__))) (G_Span_whole : PromO P w K mg base (L2.CX P w) 5 (staG "Span" "whole" K) [] (spF K Tb (ul2 F_Span_whole))) (GD_Span___init___0 : PromO P w K mg base (L2.CX P w) 3 (md "Span" "__init__" K) [V.int 0, V.int 0] (spI K Tb "Span" (fun fs => ul3 (F_Span___init__ fs)))) (GD_Span_whole_0 : PromO P w K mg base (L2.CX P w) 5 (staG "Span" "whole" K) [V.int 1, V.int 0] (spF K Tb (ul2 F_Span_whole))) : FnOk P w K mg base CX0 10 (d_law.adr K) fd ["_law_script"] (spLaw K Tb) := by
  obtain ⟨fdH, FH, hbH⟩ := GH__law_heard
  obtain ⟨ocH, odH, dVH, kVH, docH, pmH, anH, cdvH, ctH, oslH, rfl, lkH, hcH, _, _⟩ := FH.ex
  have ecode : fd.code = .ref (He.cT K ("law", none)).1 := codeOf_fn (p := ("law", none)) F
  refine fnO1 F sc_law (fun vs H Q E h => spLaw_len h) (fun cdv A outer s H vs Q E hcdv hr h => ?_)
  have hcode : cdv = .ref (He.cT K ("law", none)).1 := hcdv.trans ecode
  refine ⟨_, pss_cons (ps_set (i := 1) sc_law.nd rfl (.inl rfl) (pe_g (PromO.call G__law_pen (hr.mono (by decide)) (passA (E := E))) (by rfl) T.g__law_pen T.k__law_pen (pa_cons (pv 0) pa_nil)))
      (pss_cons (ps_for PassesOwn.never rfl (pi_range1 (by rfl) T.f_range (pa_cons pe_int pa_nil)) (pg_name (i := 2) sc_law.nd rfl (.inl rfl))
      (pss_cons (ps_asg (pe_tup (pa_cons (pe_g (PromO.call G__law_part (hr.mono (by decide)) (passA (E := EF))) (by rfl) T.g__law_part T.k__law_part (pa_cons (pv 1) (pa_cons pe_int (pa_cons pe_int pa_nil)))) (pa_cons (pe_g (PromO.call G__law_part (hr.mono (by decide)) (passA (E := EF))) (by rfl) T.g__law_part T.k__law_part (pa_cons (pv 1) (pa_cons (pe_un un_neg pe_int) (pa_cons pe_int pa_nil)))) (pa_cons (pe_g (PromO.call G__law_part (hr.mono (by decide)) (passA (E := EF))) (by rfl) T.g__law_part T.k__law_part (pa_cons (pv 1) (pa_cons (pe_un un_neg pe_int) (pa_cons pe_int pa_nil)))) pa_nil)))) (pg_tup rfl (pgs_cons (pg_name (i := 6) sc_law.nd rfl (.inr rfl)) (pgs_cons (pg_name (i := 7) sc_law.nd rfl (.inr rfl)) (pgs_cons (pg_name (i := 8) sc_law.nd rfl (.inr rfl)) pgs_nil)))))
      (pss_cons (ps_set (i := 3) sc_law.nd rfl (.inl rfl) (pe_g (PromO.call G__law_fault (hr.mono (by decide)) (passA (E := EF))) (by rfl) T.g__law_fault T.k__law_fault (pa_cons (pv 6) (pa_cons (pv 7) (pa_cons (pv 8) pa_nil)))))
      (pss_cons (ps_set (i := 4) sc_law.nd rfl (.inl rfl) (LamX.pe_lamcall (T := Tb) (k := 7) (by rfl) T.g__law_heard T.k__law_heard lkH hcH hbH sc__law_heard rfl (.inl rfl) (ok__law_heard (Tb := Tb) T) LD_law.tb hcode LD_law.mem LD_law.hu (hr.mono (by decide)) (LamX.lamS_by (by show LamX.lamSB (defScope s_law) _ = true; decide +kernel)) rfl (fun _ _ _ _ _ => rfl) (fun A outer s H E f c' hr => (pe_g (PromO.call G__law_told (hr.mono (by decide)) (passA (E := E))) (by rfl) T.g__law_told T.k__law_told (pa_cons (pe_g (PromO.make T.mk_Span G_Span___init__ (hr.mono (by decide)) (pass_on rfl rfl rfl rfl)) (by rfl) T.g_Span T.k_Span (pa_cons (pv 6) (pa_cons (pv 7) (pa_cons (pv 8) pa_nil)))) pa_nil)))))
      (pss_cons (ps_if (PW.pt (pw_and (pt_cmpR or_notN (pv 3) pe_non (nomark _)) (pw_and1 (pt_cmpR (op_neA (K := K) rfl hr.units) (pv 4) (pe_tup (pa_cons pe_str (pa_cons (pv 3) pa_nil))) (nomark _)))))
      (pss_cons (ps_ret pe_bl) pss_nil) pss_nil)
      (pss_cons (ps_if (pt_cmpR or_isN (pv 3) pe_non (nomark _))
      (pss_cons (ps_par (i := 9) (j := 10) (by rfl) sc_law.nd rfl rfl (by decide) rfl rfl (pa_cons (pe_g (PromO.make T.mk_Span G_Span___init__ (hr.mono (by decide)) passF) (by rfl) T.g_Span T.k_Span (pa_cons (pv 6) (pa_cons (pv 7) (pa_cons (pv 8) pa_nil)))) (pa_cons (pe_g (PromO.call G__law_text (hr.mono (by decide)) (passA (E := EF))) (by rfl) T.g__law_text T.k__law_text (pa_cons (pv 6) (pa_cons (pv 7) (pa_cons (pv 8) pa_nil)))) pa_nil)) (by rfl))
      (pss_cons (ps_if (PW.pt (pw_or (pt_cmpR (op_neA (K := K) rfl hr.units) (pv 4) (pe_tup (pa_cons pe_str (pa_cons (pe_lst (pa_cons (pv 6) (pa_cons (pv 7) (pa_cons (pv 8) (pa_cons (pv 10) pa_nil))))) pa_nil))) (nomark _)) (pw_or1 (pt_not (pt_val (pe_g (PromO.call G__law_read_right (hr.mono (by decide)) (passA (E := EF))) (by rfl) T.g__law_read_right T.k__law_read_right (pa_cons (pv 1) (pa_cons (pv 10) (pa_cons (pv 9) pa_nil)))))))))
      (pss_cons (ps_ret pe_bl) pss_nil) pss_nil)
      (pss_cons (ps_if (PW.pt (pw_or (pt_not (pt_val (pe_g (PromO.call G__law_joined_right (hr.mono (by decide)) (passA (E := EF))) (by rfl) T.g__law_joined_right T.k__law_joined_right (pa_cons (pv 1) (pa_cons (pv 9) (pa_cons (pe_lst (pa_cons (pv 6) (pa_cons (pv 7) (pa_cons (pv 8) pa_nil)))) pa_nil)))))) (pw_or (pt_cmpR (op_eqO (K := K) rfl T.mt_Span___eq__ hr.units0 (PromO.call G_Span___eq__ (hr.mono (by decide)) (passA (E := EF)))) (pv 9) (pe_tup (pa_cons (pv 6) (pa_cons (pv 7) (pa_cons (pv 8) pa_nil)))) (nomark _)) (pw_or1 (pt_cmpR (op_eqO (K := K) rfl T.mt_Span___eq__ hr.units0 (PromO.call G_Span___eq__ (hr.mono (by decide)) (passA (E := EF)))) (pv 9) (pv 10) (nomark _))))))
      (pss_cons (ps_ret pe_bl) pss_nil) pss_nil)
      (pss_cons (ps_if (PW.pt (pw_or (pt_cmpR (op_neO (K := K) rfl T.mt_Span___eq__ T.ne_Span G_Span___eq__ (hr.mono (by decide)) (passA (E := EF))) (pv 9) (pe_g (PromO.make T.mk_Span G_Span___init__ (hr.mono (by decide)) passF) (by rfl) T.g_Span T.k_Span (pa_cons (pv 6) (pa_cons (pv 7) (pa_cons (pv 8) pa_nil)))) (nomark _)) (pw_or1 (PW.pt (pw_and (pt_cmpR (op_eqO (K := K) rfl T.mt_Span___eq__ hr.units0 (PromO.call G_Span___eq__ (hr.mono (by decide)) (passA (E := EF)))) (pv 9) (pe_g (PromO.make T.mk_Span G_Span___init__ (hr.mono (by decide)) passF) (by rfl) T.g_Span T.k_Span (pa_cons (pv 6) (pa_cons (pv 7) (pa_cons (pe_op op_sub pe_int (pv 8)) pa_nil)))) (nomark _)) (pw_and1 (pt_cmpR (op_neA (K := K) rfl hr.units) (pv 8) pe_int (nomark _))))))))
      (pss_cons (ps_ret pe_bl) pss_nil) pss_nil)
      pss_nil)))) pss_nil)
      (pss_cons (ps_set (i := 5) sc_law.nd rfl (.inr rfl) (pe_g (PromO.call G__law_part (hr.mono (by decide)) (passA (E := EF))) (by rfl) T.g__law_part T.k__law_part (pa_cons (pv 1) (pa_cons pe_int (pa_cons pe_int pa_nil)))))
      (pss_cons (ps_set (i := 3) sc_law.nd rfl (.inl rfl) (pe_ifExp (PW.pt (pw_or (pt_cmpR or_notN (pe_g (PromO.call G__law_fault (hr.mono (by decide)) (passA (E := EF))) (by rfl) T.g__law_fault T.k__law_fault (pa_cons (pv 5) (pa_cons pe_int (pa_cons pe_int pa_nil)))) pe_non (nomark _)) (pw_or1 (pt_cmpR op_gt (pv 5) pe_int (nomark _))))) pe_str (pe_g (PromO.call G__law_fault (hr.mono (by decide)) (passA (E := EF))) (by rfl) T.g__law_fault T.k__law_fault (pa_cons pe_int (pa_cons (pv 7) (pa_cons pe_int pa_nil))))))
      (pss_cons (ps_set (i := 4) sc_law.nd rfl (.inl rfl) (LamX.pe_lamcall (T := Tb) (k := 7) (by rfl) T.g__law_heard T.k__law_heard lkH hcH hbH sc__law_heard rfl (.inl rfl) (ok__law_heard (Tb := Tb) T) LD_law.tb hcode LD_law.mem LD_law.hu (hr.mono (by decide)) (LamX.lamS_by (by show LamX.lamSB (defScope s_law) _ = true; decide +kernel)) rfl (fun _ _ _ _ _ => rfl) (fun A outer s H E f c' hr => (pe_g (PromO.call G__law_told (hr.mono (by decide)) (passA (E := E))) (by rfl) T.g__law_told T.k__law_told (pa_cons (pe_sm (pe_glob (v := .ref _) rfl T.g_Span rfl) T.st_Span_whole (PromO.call G_Span_whole (hr.mono (by decide)) (pass_on rfl rfl rfl rfl)) (pa_cons (pv 5) (pa_cons (pv 7) pa_nil))) pa_nil)))))
      (pss_cons (ps_if (pt_cmpR (op_neA (K := K) rfl hr.units) (pv 4) (pe_ifExp (pt_cmpR or_isN (pv 3) pe_non (nomark _)) (pe_tup (pa_cons pe_str (pa_cons (pe_lst (pa_cons (pe_op op_mulA pe_int (pv 5)) (pa_cons (pv 7) (pa_cons (pv 5) (pa_cons (pe_g (PromO.call G__law_text (hr.mono (by decide)) (passA (E := EF))) (by rfl) T.g__law_text T.k__law_text (pa_cons (pe_op op_mulA pe_int (pv 5)) (pa_cons (pv 7) (pa_cons (pv 5) pa_nil)))) pa_nil))))) pa_nil))) (pe_tup (pa_cons pe_str (pa_cons (pv 3) pa_nil)))) (nomark _))
      (pss_cons (ps_ret pe_bl) pss_nil) pss_nil)
      pss_nil))))))))))
      (pss_cons (ps_ret (pe_and (pe_cmpR (op_eqA (K := K) rfl hr.units) (pe_slice (sl_all (K := K) rfl) (pe_g (PromO.call G__law_told (hr.mono (by decide)) (passA (E := EF))) (by rfl) T.g__law_told T.k__law_told (pa_cons (pe_g (PromO.make T.mk_Span GD_Span___init___0 (hr.mono (by decide)) passF) (by rfl) T.g_Span T.k_Span (pa_cons pe_int pa_nil)) pa_nil)) po_none (po_some pe_int)) (pe_lst (pa_cons pe_int (pa_cons pe_int (pa_cons pe_int pa_nil)))) (nomark _)) (pe_and (pe_cmpR (op_eqA (K := K) rfl hr.units) (pe_slice (sl_all (K := K) rfl) (pe_g (PromO.call G__law_told (hr.mono (by decide)) (passA (E := EF))) (by rfl) T.g__law_told T.k__law_told (pa_cons (pe_sm0 (pe_glob (v := .ref _) rfl T.g_Span rfl) T.st_Span_whole (PromO.call GD_Span_whole_0 (hr.mono (by decide)) passF)) pa_nil)) po_none (po_some pe_int)) (pe_lst (pa_cons pe_int (pa_cons pe_int (pa_cons pe_int pa_nil)))) (nomark _)) (pe_one (pe_cmpR (op_eqA (K := K) rfl hr.units) (ClX.pe_cval (pe_glob (v := .ref _) rfl T.g_Span rfl)) pe_int (nomark _)))))) pss_nil)), ?_⟩
  exact law_of (N := N_law) (i := 1) (n := 10) (F := F_law) (envU := fun _ => List.replicate 11 .no) hyes h rfl (by decide) (by decide) rfl (fun p c => (ss_for (fun (w3 : Unit) => [.no, .fz .pen, .no, .no, .no, .no, .no, .no, .no, .no, .no]) (si_rg1 (sa_cons se_int sa_nil)) (.s (.s (.s (.s (.s (.s (.s (.s (.s (.s (.s .nil))))))))))) (fun (d4 : D) (w3 : Unit) => (sx_name (ss_unp (se_tup (sa_cons (se_cl srl_sp0 (sa_cons se_var (sa_cons se_int (sa_cons se_int sa_nil)))) (sa_cons (se_cl srl_sp0 (sa_cons se_var (sa_cons (se_un sr_neg se_int) (sa_cons se_int sa_nil)))) (sa_cons (se_cl srl_sp0 (sa_cons se_var (sa_cons (se_un sr_neg se_int) (sa_cons se_int sa_nil)))) sa_nil)))) (fun d31 => sx_tup3 (fun l_halves29 l_more29 l_odd29 => (ss_asg (se_cl srl_sp0 (sa_cons se_var (sa_cons se_var (sa_cons se_var sa_nil)))) (fun l_fault_here31 => (ss_asg (se_lam fun E => (se_cl srl_sp0 (sa_cons (se_cl srl_mk0 (sa_cons se_var (sa_cons se_var (sa_cons se_var sa_nil)))) sa_nil))) (fun l_heard_here38 => (ss_if (fun (w56 : Unit) => [.no, .fz .pen, .fz d4, .fz l_fault_here31, .fz l_heard_here38, .no, .fz l_halves29, .fz l_more29, .fz l_odd29, .no, .no]) (sb_and (sb_tst (se_op sr_notN se_var se_non)) (sb_tst (se_op sr_ne se_var (se_tup (sa_cons (se_str (by decide)) (sa_cons se_var sa_nil)))))) (ss_ret se_bl) (ss_nx (.s (.s (.s (.s (.s (.s (.s (.s (.s (.s (.s .nil)))))))))))) (fun (w56 : Unit) => (ss_if (fun (w59 : Unit) => [.no, .fz .pen, .fz d4, .fz l_fault_here31, .fz l_heard_here38, .no, .fz l_halves29, .fz l_more29, .fz l_odd29, .no, .no]) (sb_tst (se_op sr_isN se_var se_non)) (ss_par (sa_cons (se_nox (se_cl srl_mk0 (sa_cons se_var (sa_cons se_var (sa_cons se_var sa_nil))))) (sa_cons (se_cl srl_sp0 (sa_cons se_var (sa_cons se_var (sa_cons se_var sa_nil)))) sa_nil)) (fun l_one75 l_wording75 => (ss_if (fun (w97 : Unit) => [.no, .fz .pen, .fz d4, .fz l_fault_here31, .fz l_heard_here38, .no, .fz l_halves29, .fz l_more29, .fz l_odd29, .fz l_one75, .fz l_wording75]) (sb_or (sb_tst (se_op sr_ne se_var (se_tup (sa_cons (se_str (by decide)) (sa_cons (se_lst (sa_cons se_var (sa_cons se_var (sa_cons se_var (sa_cons se_var sa_nil))))) sa_nil))))) (sb_not (sb_tb (se_cl srl_sp0 (sa_cons se_var (sa_cons se_var (sa_cons se_var sa_nil))))))) (ss_ret se_bl) (ss_nx (.s (.s (.s (.s (.s (.s (.s (.s (.s (.s (.s .nil)))))))))))) (fun (w97 : Unit) => (ss_if (fun (w120 : Unit) => [.no, .fz .pen, .fz d4, .fz l_fault_here31, .fz l_heard_here38, .no, .fz l_halves29, .fz l_more29, .fz l_odd29, .fz l_one75, .fz l_wording75]) (sb_or (sb_not (sb_tb (se_cl srl_sp0 (sa_cons se_var (sa_cons se_var (sa_cons (se_lst (sa_cons se_var (sa_cons se_var (sa_cons se_var sa_nil)))) sa_nil)))))) (sb_or (sb_tst (se_op (sr_eqO (eqR_Span T) srl_sp0) se_var (se_tup (sa_cons se_var (sa_cons se_var (sa_cons se_var sa_nil)))))) (sb_tst (se_op (sr_eqO (eqR_Span T) srl_sp0) se_var se_var)))) (ss_ret se_bl) (ss_nx (.s (.s (.s (.s (.s (.s (.s (.s (.s (.s (.s .nil)))))))))))) (fun (w120 : Unit) => (ss_if (fun (w141 : Unit) => [.no, .fz .pen, .fz d4, .fz l_fault_here31, .fz l_heard_here38, .no, .fz l_halves29, .fz l_more29, .fz l_odd29, .fz l_one75, .fz l_wording75]) (sb_or (sb_tst (se_op (sr_neO (eqR_Span T)) se_var (se_nox (se_cl srl_mk0 (sa_cons se_var (sa_cons se_var (sa_cons se_var sa_nil))))))) (sb_and (sb_tst (se_op (sr_eqO (eqR_Span T) srl_sp0) se_var (se_nox (se_cl srl_mk0 (sa_cons se_var (sa_cons se_var (sa_cons (se_op sr_sub se_int se_var) sa_nil))))))) (sb_tst (se_op sr_ne se_var se_int)))) (ss_ret se_bl) (ss_nx (.s (.s (.s (.s (.s (.s (.s (.s (.s (.s (.s .nil)))))))))))) (fun (w141 : Unit) => (ss_nx (.s (.s (.s (.s (.s (.s (.s (.s (.s (.n (.n .nil)))))))))))))))))))) (ss_nx (.s (.s (.s (.s (.s (.s (.s (.s (.s (.s (.s .nil)))))))))))) (fun (w59 : Unit) => (ss_asg (se_cl srl_sp0 (sa_cons se_var (sa_cons se_int (sa_cons se_int sa_nil)))) (fun l_k141 => (ss_asg (se_if (sb_or (sb_tst (se_op sr_notN (se_cl srl_sp0 (sa_cons se_var (sa_cons se_int (sa_cons se_int sa_nil)))) se_non)) (sb_tst (se_op sr_gt se_var se_int))) (se_str (by decide)) (se_cl srl_sp0 (sa_cons se_int (sa_cons se_var (sa_cons se_int sa_nil))))) (fun l_fault_here148 => (ss_asg (se_lam fun E => (se_cl srl_sp0 (sa_cons (se_sm srl_sp0 (sa_cons se_var (sa_cons se_var sa_nil))) sa_nil))) (fun l_heard_here165 => (ss_if (fun (w203 : Unit) => [.no, .fz .pen, .fz d4, .fz l_fault_here148, .fz l_heard_here165, .fz l_k141, .fz l_halves29, .fz l_more29, .fz l_odd29, .no, .no]) (sb_tst (se_op sr_ne se_var (se_if (sb_tst (se_op sr_isN se_var se_non)) (se_tup (sa_cons (se_str (by decide)) (sa_cons (se_lst (sa_cons (se_op sr_mul se_int se_var) (sa_cons se_var (sa_cons se_var (sa_cons (se_cl srl_sp0 (sa_cons (se_op sr_mul se_int se_var) (sa_cons se_var (sa_cons se_var sa_nil)))) sa_nil))))) sa_nil))) (se_tup (sa_cons (se_str (by decide)) (sa_cons se_var sa_nil)))))) (ss_ret se_bl) (ss_nx (.s (.s (.s (.s (.s (.s (.s (.s (.s (.s (.s .nil)))))))))))) (fun (w203 : Unit) => (ss_nx (.s (.s (.n (.n (.n (.n (.n (.n (.n (.s (.s .nil))))))))))))))))))))))))))))))))) (fun (w3 : Unit) => (ss_ret (se_andV (se_op sr_eq (se_sl (se_cl srl_sp0 (sa_cons (se_nox (se_cl (srl_mk fun _ _ => (.cons (.int _) (.cons (.int _) .nil))) (sa_cons se_int sa_nil))) sa_nil)) so_none (so_some se_int)) (se_lst (sa_cons se_int (sa_cons se_int (sa_cons se_int sa_nil))))) (se_andV (se_op sr_eq (se_sl (se_cl srl_sp0 (sa_cons (se_nox (se_sm (srl_sp fun _ _ => (.cons (.int _) (.cons (.int _) .nil))) sa_nil)) sa_nil)) so_none (so_some se_int)) (se_lst (sa_cons se_int (sa_cons se_int (sa_cons se_int sa_nil))))) (se_op sr_eq (se_cval (fun _ _ => .int _) T.cv_Span_MOST) se_int)))))))
end
end Lw
end
section
set_option linter.all false
set_option maxRecDepth 100000
namespace Gp
open PySem
section
variable {α β γ : Type}
def Bo (P : α → Prop) : Tr α → Nat → Prop
  | .ok a, _ => P a
  | .ex _ _, _ => False
  | .bad, _ => False
  | .draw m k, n => ∃ n', n = n' + 1 ∧ 0 < m ∧ m < 10 ^ 100 ∧ ∀ d, 0 ≤ d → d < m → Bo P (k d) n'
theorem Bo.mono {P Q : α → Prop} (h : ∀ a, P a → Q a) : ∀ {m : Tr α} {n k : Nat}, n ≤ k → Bo P m n → Bo Q m k
  | .ok a, _, _, _, z => h a z
  | .ex _ _, _, _, _, z => z
  | .bad, _, _, _, z => z
  | .draw m f, n, k, l, ⟨n', e, h1, h2, h3⟩ => ⟨k - 1, by omega, h1, h2, fun d d0 d1 => Bo.mono h (m := f d) (n := n') (by omega) (h3 d d0 d1)⟩
theorem Bo.bd {P : α → Prop} {Q : β → Prop} {k : α → Tr β} {b : Nat} : ∀ {m : Tr α} {a : Nat}, Bo P m a → (∀ x, P x → Bo Q (k x) b) → Bo Q (bd m k) (a + b)
  | .ok x, a, h, hk => (hk x h).mono (fun _ z => z) (Nat.le_add_left _ _)
  | .ex _ _, _, h, _ => h
  | .bad, _, h, _ => h
  | .draw m f, a, ⟨n', e, h1, h2, h3⟩, hk => ⟨n' + b, by omega, h1, h2, fun d d0 d1 => Bo.bd (m := f d) (h3 d d0 d1) hk⟩
theorem Bo.al {P : α → Prop} {Q : α → Nat → Prop} {E : Str → Fs → Nat → Prop} (h : ∀ a b, P a → Q a b) : ∀ {m : Tr α} {n : Nat}, Bo P m n → Al Q E m n
  | .ok a, _, z => h a _ z
  | .ex _ _, _, z => z.elim
  | .bad, _, z => z
  | .draw m f, n, ⟨n', e, h1, h2, h3⟩ => ⟨n', e, h1, h2, fun d d0 d1 => Bo.al (m := f d) h (h3 d d0 d1)⟩
theorem Bo.yes {F : Tr D} {n : Nat} (hn : n ≤ 1000000) (h : Bo (fun d => d = .bl true) F n) : Yes F :=
  Bo.al (fun _ _ z => z) (h.mono (fun _ z => z) hn)
theorem bo_ok {P : α → Prop} {a : α} {n : Nat} (h : P a) : Bo P (.ok a) n := h
theorem bo_draw {P : α → Prop} {m : Int} {k : Int → Tr α} {n : Nat} (h1 : 0 < m) (h2 : m < 10 ^ 100) (h : ∀ d, 0 ≤ d → d < m → Bo P (k d) n) : Bo P (.draw m k) (n + 1) := ⟨n, rfl, h1, h2, h⟩
variable {W L : Type}
end
end Gp
end
section
set_option linter.all false
set_option maxRecDepth 100000
set_option maxHeartbeats 4000000
namespace Gp
open PySem
@[simp] theorem s_bd {α β : Type} (a : α) (k : α → Tr β) : bd (.ok a) k = k a := rfl
@[simp] theorem s_bdx {α β : Type} (c : Str) (fs : Fs) (k : α → Tr β) : bd (.ex c fs) k = .ex c fs := rfl
@[simp] theorem s_bdd {α β : Type} (m : Int) (f : Int → Tr α) (k : α → Tr β) : bd (.draw m f) k = .draw m fun d => bd (f d) k := rfl
@[simp] theorem s_nox {α : Type} (a : α) : nox (.ok a) = .ok a := rfl
@[simp] theorem s_bdF {W W' L : Type} (w : W') (k : W' → Tr (Fl W L)) : bdF (.ok (.nx w)) k = k w := rfl
@[simp] theorem s_bdFr {W W' L : Type} (d : D) (k : W' → Tr (Fl W L)) : bdF (.ok (.rt d)) k = .ok (.rt d) := rfl
@[simp] theorem s_finr (d : D) : fin (.ok (.rt d)) = .ok d := rfl
@[simp] theorem s_finn (w : Unit) : fin (.ok (.nx w)) = .ok .non := rfl
@[simp] theorem s_finI (fs : Fs) : finI (.ok (.nx fs)) = .ok fs := rfl
@[simp] theorem s_asB (b : Bool) : asB (.bl b) = .ok b := rfl
@[simp] theorem s_ul0 {α : Type} (k : Tr α) : ul0 k [] = k := rfl
@[simp] theorem s_ul1 {α : Type} (k : D → Tr α) (x : D) : ul1 k [x] = k x := rfl
@[simp] theorem s_ul2 {α : Type} (k : D → D → Tr α) (x y : D) : ul2 k [x, y] = k x y := rfl
@[simp] theorem s_ul3 {α : Type} (k : D → D → D → Tr α) (x y z : D) : ul3 k [x, y, z] = k x y z := rfl
@[simp] theorem s_ul4 {α : Type} (k : D → D → D → D → Tr α) (x y z w : D) : ul4 k [x, y, z, w] = k x y z w := rfl
@[simp] theorem s_isO {α : Type} (c : Str) (fs : Fs) (k : Fs → Tr α) : isO c (.obj c fs) k = k fs := by unfold isO; simp
@[simp] theorem s_lt (i j : Int) : ltD (.int i) (.int j) = .ok (.bl (decide (i < j))) := rfl
@[simp] theorem s_le (i j : Int) : leD (.int i) (.int j) = .ok (.bl (decide (i ≤ j))) := rfl
@[simp] theorem s_gt (i j : Int) : gtD (.int i) (.int j) = .ok (.bl (decide (j < i))) := rfl
@[simp] theorem s_ge (i j : Int) : geD (.int i) (.int j) = .ok (.bl (decide (j ≤ i))) := rfl
@[simp] theorem s_sub (i j : Int) : subD (.int i) (.int j) = .ok (.int (i - j)) := rfl
@[simp] theorem s_add (i j : Int) : addD (.int i) (.int j) = .ok (.int (i + j)) := rfl
@[simp] theorem s_neg (i : Int) : negD (.int i) = .ok (.int (-i)) := rfl
@[simp] theorem s_eq (i j : Int) : eqD (.int i) (.int j) = .ok (.bl (decide (i = j))) := rfl
@[simp] theorem s_eqs (i j : Str) : eqD (.str i) (.str j) = .ok (.bl (decide (i = j))) := rfl
@[simp] theorem s_eqb (i j : Bool) : eqD (.bl i) (.bl j) = .ok (.bl (decide (i = j))) := rfl
@[simp] theorem s_len (ds : List D) : lenD (.lst ds) = .ok (.int ds.length) := rfl
@[simp] theorem s_itl (ds : List D) : itD (.lst ds) = .ok ds := rfl
@[simp] theorem s_itt (ds : List D) : itD (.tup ds) = .ok ds := rfl
@[simp] theorem s_int (i : Int) : intD (.int i) = .ok (.int i) := rfl
@[simp] theorem s_intb (k : Bool) : intD (.bl k) = .ok (.int (if k = true then 1 else 0)) := rfl
@[simp] theorem s_abs (i : Int) : absD (.int i) = .ok (.int (if i < 0 then -i else i)) := rfl
@[simp] theorem s_opt {α : Type} (a : α) : opt (some a) = .ok a := rfl
@[simp] theorem s_mod2 (i : Int) : modD (.int i) (.int 2) = .ok (.int (i % 2)) := rfl
@[simp] theorem s_div2 (i : Int) : divD (.int i) (.int 2) = .ok (.int (i / 2)) := rfl
theorem s_mul {i j : Int} (h : (-(2 ^ 64) < i ∧ i < 2 ^ 64) ∨ (-(2 ^ 64) < j ∧ j < 2 ^ 64)) : mulD (.int i) (.int j) = .ok (.int (i * j)) := if_pos h
end Gp
namespace Gp
open PySem PyProof.Rows L2
theorem toPyL_ints : ∀ l : List Int, toPyL (l.map D.int) = some (l.map PyData.int)
  | [] => rfl
  | a :: r => by
    rw [List.map_cons]
    unfold toPyL
    rw [toPyL_ints r]
    rfl
theorem eqv_ints : ∀ l m : List Int, PyData.eqvAll (l.map PyData.int) (m.map PyData.int) = decide (l = m)
  | [], [] => by simp [PyData.eqvAll]
  | [], _ :: _ => by simp [PyData.eqvAll]
  | _ :: _, [] => by simp [PyData.eqvAll]
  | a :: r, b :: s => by
    simp only [List.map_cons, PyData.eqvAll, PyData.eqv, eqv_ints r s]
    by_cases h : a = b <;> by_cases h' : r = s <;> simp [h, h']
theorem canLayAll_ints : ∀ ns : List Int, PyData.canLayAll0 (ns.map PyData.int) = true
  | [] => rfl
  | _ :: r => by simp [PyData.canLayAll0, PyData.canLay0, canLayAll_ints r]
theorem depthAll_ints : ∀ ns : List Int, PyData.depthAll (ns.map PyData.int) = 0
  | [] => rfl
  | _ :: r => by simp [PyData.depthAll, PyData.depth, depthAll_ints r]
theorem shaped_ints (ns : List Int) : SeqAt.shaped (.list (ns.map PyData.int)) = true := by
  simp [SeqAt.shaped, PyData.canLay0, PyData.depth, canLayAll_ints, depthAll_ints]
theorem s_eq_ints (l m : List Int) : eqD (.lst (l.map D.int)) (.lst (m.map D.int)) = .ok (.bl (decide (l = m))) := by
  have e : ∀ l : List Int, toPy (.lst (l.map D.int)) = some (.list (l.map PyData.int)) := fun l => by
    unfold toPy
    rw [toPyL_ints]
    rfl
  have e2 : eqB (.lst (l.map D.int)) (.lst (m.map D.int)) = .ok (decide (l = m)) := by
    unfold eqB
    rw [show eqS (.lst (l.map D.int)) (.lst (m.map D.int)) = none from rfl]
    dsimp only
    rw [e l, e m]
    dsimp only
    rw [if_pos ⟨shaped_ints l, shaped_ints m⟩]
    unfold PyData.eqv
    rw [eqv_ints]
  unfold eqD
  rw [e2]
  rfl
@[simp] theorem s_find (m : Int) (f : Int → Tr (Fl Unit Empty)) : fin (.draw m f) = .draw m fun d => fin (f d) := rfl
@[simp] theorem s_bdFd {W W' L : Type} (m : Int) (f : Int → Tr (Fl W' L)) (k : W' → Tr (Fl W L)) : bdF (.draw m f) k = .draw m fun d => bdF (f d) k := rfl
theorem bd_ok_id {α : Type} (m : Tr α) : bd m .ok = m := by
  induction m with
  | draw m f ih => show Tr.draw m _ = _; congr 1; funext d; exact ih d
  | _ => rfl
theorem s_fin_id (m : Tr D) : fin (bd m fun d => .ok (.rt d)) = m := by
  unfold fin
  rw [bd_bd]
  exact bd_ok_id m
@[simp] theorem s_bdbd {α β γ : Type} (m : Tr α) (k : α → Tr β) (l : β → Tr γ) : bd (bd m k) l = bd m fun a => bd (k a) l := bd_bd ..
@[simp] theorem s_finbd {α : Type} (m : Tr α) (k : α → Tr (Fl Unit Empty)) : fin (bd m k) = bd m fun a => fin (k a) := bd_bd ..
@[simp] theorem s_bdFbd {α W W' L : Type} (m : Tr α) (f : α → Tr (Fl W' L)) (k : W' → Tr (Fl W L)) : bdF (bd m f) k = bd m fun a => bdF (f a) k := bd_bd ..
@[simp] theorem s_finIbd {α : Type} (m : Tr α) (k : α → Tr (Fl Fs Empty)) : finI (bd m k) = bd m fun a => finI (k a) := bd_bd ..
@[simp] theorem s_bdok {α : Type} (m : Tr α) : bd m (fun a => .ok a) = m := bd_ok_id m
@[simp] theorem s_ne (i j : Int) : neD (.int i) (.int j) = .ok (.bl (!decide (i = j))) := rfl
@[simp] theorem s_nes (i j : Str) : neD (.str i) (.str j) = .ok (.bl (!decide (i = j))) := rfl
theorem s_ixL {ds : List D} {i : Int} {d : D} (h0 : 0 ≤ i) (h : ds[i.toNat]? = some d) : ixD (.lst ds) (.int i) = .ok d := by
  have hl := (List.getElem?_eq_some_iff.mp h).1
  have e : atI ds i = some d := by
    unfold atI ixN
    rw [if_pos h0, if_pos (by omega)]
    exact h
  unfold ixD
  dsimp only
  rw [e]
theorem bo_pick {P : D → Prop} {ds : List D} (h0 : 0 < ds.length) (h1 : ds.length ≤ 100000) (h : ∀ d ∈ ds, P d) : Bo P (.draw ds.length fun i => ixD (.lst ds) (.int i)) 1 := by
  refine bo_draw (n := 0) (by omega) (by omega) fun d d0 d1 => ?_
  have hl : d.toNat < ds.length := by omega
  rw [s_ixL d0 (List.getElem?_eq_getElem hl)]
  exact h _ (List.getElem_mem hl)
end Gp
end
section
set_option linter.all false
set_option maxRecDepth 100000
set_option maxHeartbeats 400000
namespace Gp
theorem within {lo hi p q : Int} (h0 : lo ≤ p) (h1 : p ≤ hi) : lo ≤ (if lo ≤ q ∧ q ≤ hi then q else p) ∧ (if lo ≤ q ∧ q ≤ hi then q else p) ≤ hi := by
  by_cases h : lo ≤ q ∧ q ≤ hi
  · rw [if_pos h]
    exact h
  · rw [if_neg h]
    exact ⟨h0, h1⟩
end Gp
end
section
set_option linter.all false
set_option maxRecDepth 100000
set_option maxHeartbeats 400000
namespace Gp
open PySem PyProof.Rows L2 Gh
structure Sh (d : D) (n b : Nat) : Prop where
  ex : ∃ e, toPy d = some e ∧ Fn e n b
structure ShL (ds : List D) (n b : Nat) : Prop where
  ex : ∃ es, toPyL ds = some es ∧ FnAll es n b
theorem Sh.le {d : D} {n b n' b' : Nat} (h : Sh d n b) (h1 : n ≤ n') (h2 : b ≤ b') : Sh d n' b' := by
  obtain ⟨e, h3, h4⟩ := h.ex
  exact ⟨e, h3, h4.le h1 h2⟩
theorem Sh.int {i : Int} (h1 : -(10 ^ 100) < i) (h2 : i < 10 ^ 100) : Sh (.int i) 0 0 := ⟨_, rfl, .int h1 h2⟩
theorem Sh.bl (b : Bool) : Sh (.bl b) 0 0 := ⟨_, rfl, .bool b⟩
theorem Sh.non : Sh .non 0 0 := ⟨_, rfl, .none⟩
theorem Sh.str {x : Str} (h0 : (PyData.str x).canLay0 = true) (h : (x.cps.toList.all fun c => decide (c < 16 ^ 8)) = true) : Sh (.str x) 0 x.cps.size := ⟨_, rfl, .str h0 h⟩
theorem ShL.nil {n b : Nat} : ShL [] n b := ⟨_, rfl, .nil⟩
theorem ShL.cons {d : D} {ds : List D} {n b c : Nat} (h : Sh d n b) (k : ShL ds n c) : ShL (d :: ds) n (b + 1 + c) := by
  obtain ⟨e, h3, h4⟩ := h.ex
  obtain ⟨es, h5, h6⟩ := k.ex
  refine ⟨e :: es, ?_, .cons h4 h6⟩
  unfold toPyL
  rw [h3, h5]
theorem ShL.le {ds : List D} {n b n' b' : Nat} (h : ShL ds n b) (h1 : n ≤ n') (h2 : b ≤ b') : ShL ds n' b' := by
  obtain ⟨e, h3, h4⟩ := h.ex
  exact ⟨e, h3, h4.cl, h4.sh, h4.nd, h4.ls, Nat.le_trans h4.dp h1, Nat.le_trans h4.bk h2⟩
theorem Sh.lst {ds : List D} {n b : Nat} (h : ShL ds n b) : Sh (.lst ds) (n + 1) b := by
  obtain ⟨es, h3, h4⟩ := h.ex
  refine ⟨.list es, ?_, .list h4⟩
  unfold toPy
  rw [h3]
  rfl
theorem Sh.tup {ds : List D} {n b : Nat} (h : ShL ds n b) : Sh (.tup ds) (n + 1) b := by
  obtain ⟨es, h3, h4⟩ := h.ex
  refine ⟨.tuple es, ?_, .tuple h4⟩
  unfold toPy
  rw [h3]
  rfl
end Gp
end
section
set_option linter.all false
set_option maxRecDepth 100000
set_option maxHeartbeats 400000
namespace Gp
open PySem
theorem bo_then {α β : Type} {P : α → Prop} {Q : β → Prop} {m : Tr α} {k : α → Tr β} {a b n : Nat} (h : Bo P m a) (hk : ∀ x, P x → Bo Q (k x) b) (l : a + b ≤ n) : Bo Q (bd m k) n := (h.bd hk).mono (fun _ z => z) l
theorem bo_le {α : Type} {P : α → Prop} {m : Tr α} {a n : Nat} (h : Bo P m a) (l : a ≤ n) : Bo P m n := h.mono (fun _ z => z) l
theorem bo_forU {L : Type} {f : D → Unit → Tr (Fl Unit Unit)} {c : Nat} : ∀ {ds : List D}, (∀ d ∈ ds, Bo (fun r : Fl Unit Unit => r = .nx ()) (f d ()) c) → Bo (fun r : Fl Unit L => r = .nx ()) (forF f ds ()) (c * ds.length)
  | [], _ => bo_ok rfl
  | d :: ds, h => by
    rw [forF_cons]
    refine bo_then (b := c * ds.length) (h d List.mem_cons_self) (fun r hr => ?_) (by rw [List.length_cons, Nat.mul_succ]; omega)
    subst hr
    exact bo_forU fun x hx => h x (List.mem_cons_of_mem _ hx)
end Gp
end
section
set_option Elab.async false
set_option linter.all false
set_option maxRecDepth 100000
set_option maxHeartbeats 400000
namespace Gp
open PySem
@[irreducible] def Bx {α : Type} (P : α → Prop) (m : Tr α) (n : Nat) : Prop := Bo P m n
theorem Bx.bo {α : Type} {P : α → Prop} {m : Tr α} {n : Nat} (h : Bx P m n) : Bo P m n := by
  unfold Bx at h
  exact h
theorem bx_of {α : Type} {P : α → Prop} {m : Tr α} {n : Nat} (h : Bo P m n) : Bx P m n := by
  unfold Bx
  exact h
theorem bx_draw {α : Type} {P : α → Prop} {m : Int} {k : Int → Tr α} {n : Nat} (h1 : 0 < m) (h2 : m < 10 ^ 100) (h : ∀ d, 0 ≤ d → d < m → Bx P (k d) n) : Bx P (.draw m k) (n + 1) := bx_of (bo_draw h1 h2 fun d a b => (h d a b).bo)
theorem bx_then {α β : Type} {P : α → Prop} {Q : β → Prop} {m : Tr α} {k : α → Tr β} {a b n : Nat} (h : Bo P m a) (hk : ∀ x, P x → Bx Q (k x) b) (l : a + b ≤ n) : Bx Q (bd m k) n := bx_of (bo_then h (fun x z => (hk x z).bo) l)
theorem bx_ok {α : Type} {P : α → Prop} {a : α} {n : Nat} (h : P a) : Bx P (.ok a) n := bx_of (bo_ok h)
theorem bx_loopU {f : D → Unit → Tr (Fl Unit Unit)} {ds : List D} {K : Unit → Tr (Fl Unit Empty)} {Q : D → Prop} {c b n : Nat} (h : ∀ d ∈ ds, Bx (fun r : Fl Unit Unit => r = .nx ()) (f d ()) c) (hk : Bx Q (fin (K ())) b) (l : c * ds.length + b ≤ n) : Bx Q (fin (bdF (forF f ds ()) K)) n := by
  refine bx_of ?_
  unfold fin bdF
  rw [bd_bd]
  refine bo_then (b := b) (bo_forU fun d hd => (h d hd).bo) (fun r hr => ?_) l
  subst hr
  exact hk.bo
theorem bx_le {α : Type} {P : α → Prop} {m : Tr α} {a n : Nat} (h : Bx P m a) (l : a ≤ n) : Bx P m n := bx_of (bo_le h.bo l)
theorem bx_thenX {α β : Type} {P : α → Prop} {Q : β → Prop} {m : Tr α} {k : α → Tr β} {a b n : Nat} (h : Bx P m a) (hk : ∀ x, P x → Bx Q (k x) b) (l : a + b ≤ n) : Bx Q (bd m k) n := bx_then h.bo hk l
end Gp
end
section
set_option linter.all false
namespace Gp
open PySem
inductive Dp {α : Type} (a : α) : Type
  | u
def bdk {α β : Type} (x : Tr α) (f : α → Tr β) (u : Dp f := .u) : Tr β := bd x f
def bdFk {W W' L : Type} (x : Tr (Fl W' L)) (k : W' → Tr (Fl W L)) (u : Dp k := .u) : Tr (Fl W L) := bdF x k
def forFk {W L : Type} (f : D → W → Tr (Fl W W)) (ds : List D) (w : W) (u : Dp f := .u) : Tr (Fl W L) := forF f ds w
theorem k_bd {α β : Type} (a : α) (k : α → Tr β) (u : Dp k) : bdk (.ok a) k u = k a := rfl
theorem k_bdx {α β : Type} (c : Str) (fs : Fs) (k : α → Tr β) (u : Dp k) : bdk (.ex c fs) k u = .ex c fs := rfl
theorem k_bdd {α β : Type} (m : Int) (f : Int → Tr α) (k : α → Tr β) (u : Dp k) : bdk (.draw m f) k u = .draw m fun d => bdk (f d) k := rfl
theorem k_bdF {W W' L : Type} (w : W') (k : W' → Tr (Fl W L)) (u : Dp k) : bdFk (.ok (.nx w)) k u = k w := rfl
theorem k_bdFr {W W' L : Type} (d : D) (k : W' → Tr (Fl W L)) (u : Dp k) : bdFk (.ok (.rt d)) k u = .ok (.rt d) := rfl
theorem k_bdFx {W W' L : Type} (c : Str) (fs : Fs) (k : W' → Tr (Fl W L)) (u : Dp k) : bdFk (.ex c fs) k u = .ex c fs := rfl
theorem k_bdFd {W W' L : Type} (m : Int) (f : Int → Tr (Fl W' L)) (k : W' → Tr (Fl W L)) (u : Dp k) : bdFk (.draw m f) k u = .draw m fun d => bdFk (f d) k := rfl
theorem k_bdbd {α β γ : Type} (m : Tr α) (k : α → Tr β) (u : Dp k) (l : β → Tr γ) (v : Dp l) : bdk (bdk m k u) l v = bdk m fun a => bdk (k a) l := bd_bd ..
theorem k_finbd {α : Type} (m : Tr α) (k : α → Tr (Fl Unit Empty)) (u : Dp k) : fin (bdk m k u) = bdk m fun a => fin (k a) := bd_bd ..
theorem k_bdFbd {α W W' L : Type} (m : Tr α) (f : α → Tr (Fl W' L)) (u : Dp f) (k : W' → Tr (Fl W L)) (v : Dp k) : bdFk (bdk m f u) k v = bdk m fun a => bdFk (f a) k := bd_bd ..
theorem k_for {W L : Type} (f : D → W → Tr (Fl W W)) (ds : List D) (w : W) (u : Dp f) : forFk (L := L) f ds w u = forF f ds w := rfl
theorem bk_then {α β : Type} {P : α → Prop} {Q : β → Prop} {m : Tr α} {k : α → Tr β} {u : Dp k} {a b n : Nat} (h : Bx P m a) (hk : ∀ x, P x → Bx Q (k x) b) (l : a + b ≤ n) : Bx Q (bdk m k u) n := bx_thenX h hk l
theorem bk_thenB {α β : Type} {P : α → Prop} {Q : β → Prop} {m : Tr α} {k : α → Tr β} {u : Dp k} {a b n : Nat} (h : Bo P m a) (hk : ∀ x, P x → Bx Q (k x) b) (l : a + b ≤ n) : Bx Q (bdk m k u) n := bx_then h hk l
theorem bk_loopU {f : D → Unit → Tr (Fl Unit Unit)} {u : Dp f} {ds : List D} {K : Unit → Tr (Fl Unit Empty)} {v : Dp K} {Q : D → Prop} {c b n : Nat} (h : ∀ d ∈ ds, Bx (fun r : Fl Unit Unit => r = .nx ()) (f d ()) c) (hk : Bx Q (fin (K ())) b) (l : c * ds.length + b ≤ n) : Bx Q (fin (bdFk (forFk f ds () u) K v)) n := bx_loopU h hk l
end Gp
end
section
set_option Elab.async false
set_option linter.all false
set_option maxRecDepth 100000
set_option maxHeartbeats 400000
set_option maxHeartbeats 4000000
namespace Lw
open PySem Gp
@[simp] theorem isi_int_int (i : Int) : isi_int (.int i) = some true := rfl
@[simp] theorem isi_bool_int (i : Int) : isi_bool (.int i) = some false := rfl
@[simp] theorem isi_bool_bl (i : Bool) : isi_bool (.bl i) = some true := rfl
@[simp] theorem isi_str_str (i : Str) : isi_str (.str i) = some true := rfl
theorem q_is_integer (i : Int) : F_is_integer (.int i) = .ok (.bl true) := by simp [F_is_integer]
theorem q_is_within (i a b : Int) : F_is_within (.int i) (.int a) (.int b) = .ok (.bl (decide (a ≤ i ∧ i ≤ b))) := by
  simp only [F_is_within, s_bd, s_ul1, q_is_integer, s_asB, if_true, s_le, s_finr]
  by_cases h : a ≤ i <;> simp [h]
end Lw
set_option maxHeartbeats 400000
namespace Gp
open PySem
@[simp] theorem s_lent (ds : List D) : lenD (.tup ds) = .ok (.int ds.length) := rfl
@[simp] theorem s_tupl (ds : List D) : tupD (.lst ds) = .ok (.tup ds) := rfl
@[simp] theorem s_tupt (ds : List D) : tupD (.tup ds) = .ok (.tup ds) := rfl
theorem s_allB (bs : List Bool) : allD (.lst (bs.map D.bl)) = .ok (.bl (bs.all id)) := by
  unfold allD lsB
  dsimp only
  rw [blsD_map]
end Gp
namespace Lw
open PySem Gp
end Lw
set_option maxHeartbeats 400000
namespace Gp
open PySem
end Gp
namespace Lw
open PySem Gp
end Lw
set_option maxHeartbeats 400000
namespace Gp
open PySem
section
variable {W W' L : Type}
end
end Gp
set_option maxHeartbeats 400000
namespace Gp
open PySem
end Gp
namespace Lw
open PySem Gp
@[simp] theorem s_draw (m : Int) : F_draw .pen (.int m) = .draw m fun d => .ok (.int d) := rfl
theorem q_pick (ds : List D) : F__law_pick .pen (.lst ds) = .draw ds.length fun i => ixD (.lst ds) (.int i) := by
  simp [F__law_pick]
theorem b_pick {P : D → Prop} {ds : List D} (h0 : 0 < ds.length) (h1 : ds.length ≤ 100000) (h : ∀ d ∈ ds, P d) : Bo P (F__law_pick .pen (.lst ds)) 1 := by
  rw [q_pick]
  exact bo_pick h0 h1 h
end Lw
set_option maxHeartbeats 400000
namespace Lw
open PySem Gp L2
theorem s_un3t {α : Type} (x y z : D) (k : D → D → D → Tr α) : un3 (.tup [x, y, z]) k = k x y z := rfl
theorem s_un2t {α : Type} (x y : D) (k : D → D → Tr α) : un2 (.tup [x, y]) k = k x y := rfl
def Sz (t : Str) : Prop := t.length + 2 ≤ sizeLine ∧ (Txt.split t " ").length ≤ sizeLine ∧ ∀ w ∈ Txt.split t " ", w.length ≤ sizeLine
theorem q_split {t : Str} (h : Sz t) : splitD (.str t) (.str " ") = .ok (.lst ((Txt.split t " ").map D.str)) := if_pos ⟨by decide +kernel, h.1, h.2.1, h.2.2⟩
end Lw
set_option maxHeartbeats 400000
namespace Lw
open PySem Gp L2
end Lw
set_option maxHeartbeats 400000
namespace Lw
open PySem Gp L2
end Lw
set_option maxHeartbeats 400000
namespace Lw
open PySem Gp L2
theorem isN_str (w : Str) : isN (.str w) = false := rfl
theorem isN_non : isN .non = true := rfl
end Lw
end
section
set_option Elab.async false
set_option linter.all false
set_option maxRecDepth 100000
set_option maxHeartbeats 400000
namespace Lw
open PySem Gp L2
theorem cut_1 (w : Str) : cutS w none (some 1) = ⟨(w.cps.toList.take 1).toArray⟩ := by
  unfold cutS
  have e1 : HT.sIx w.length 0 none = 0 := rfl
  have e2 : HT.sIx w.length w.length (some 1) = min 1 w.length := by unfold HT.sIx; simp
  have e3 : w.cps.toList.length = w.length := Array.length_toList
  rw [e1, e2, List.drop_zero, Nat.sub_zero]
  congr 2
  rcases Nat.lt_or_ge w.length 1 with h | h
  · rw [show min 1 w.length = 0 by omega]
    rw [List.length_eq_zero_iff.mp (show w.cps.toList.length = 0 by omega)]; rfl
  · rw [show min 1 w.length = 1 by omega]
theorem cut_r (w : Str) : cutS w (some 1) none = ⟨(w.cps.toList.drop 1).toArray⟩ := by
  unfold cutS
  have e2 : HT.sIx w.length w.length none = w.length := rfl
  have e1 : HT.sIx w.length 0 (some 1) = min 1 w.length := by unfold HT.sIx; simp
  have e3 : w.cps.toList.length = w.length := Array.length_toList
  rw [e1, e2]
  rcases Nat.lt_or_ge w.length 1 with h | h
  · rw [List.length_eq_zero_iff.mp (show w.cps.toList.length = 0 by omega)]; simp
  · rw [show min 1 w.length = 1 by omega]
    rw [List.take_of_length_le (by rw [List.length_drop]; omega)]
def dgs (g : Str) : Bool := g.cps.toList.all fun c => decide (c ∈ ("0123456789" : Str).cps.toList)
theorem dgs_all {g : Str} (h : dgs g = true) : NumText.AllDigits g.cps.toList := fun c hc => by
  have z := List.all_eq_true.mp h c hc
  rw [decide_eq_true_eq] at z
  revert z
  rw [show ("0123456789" : Str).cps.toList = [48, 49, 50, 51, 52, 53, 54, 55, 56, 57] by decide +kernel]
  simp only [List.mem_cons, List.mem_nil_iff, or_false]
  omega
theorem lc_dgs {f : D → Tr (Option D)} (hf : ∀ c : Nat, f (.str ⟨#[c]⟩) = .ok (some (.bl (decide (c ∈ ("0123456789" : Str).cps.toList))))) : ∀ cs : List Nat, lcF f (cs.map fun c => .str ⟨#[c]⟩) = .ok ((cs.map fun c => decide (c ∈ ("0123456789" : Str).cps.toList)).map D.bl)
  | [] => rfl
  | c :: cs => by
    rw [List.map_cons, lcF_cons, hf c, lc_dgs hf cs]
    rfl
theorem in_dg (c : Nat) : inOD (.str ⟨#[c]⟩) (.str "0123456789") = .ok (.bl (decide (c ∈ ("0123456789" : Str).cps.toList))) := by
  unfold inOD inB
  dsimp only
  rw [s_bd, StrLaws.found_one]
theorem val_lt : ∀ (cs : List Nat) (a : Nat), NumText.AllDigits cs → cs.foldl (fun acc c => acc * 10 + (c - 48)) a < (a + 1) * 10 ^ cs.length
  | [], a, _ => by simp
  | c :: cs, a, h => by
    have z := val_lt cs (a * 10 + (c - 48)) h.tail
    have hc := h.head
    rw [List.foldl_cons, List.length_cons, Nat.pow_succ]
    refine Nat.lt_of_lt_of_le z ?_
    have e : (a + 1) * (10 ^ cs.length * 10) = ((a + 1) * 10) * 10 ^ cs.length := by rw [Nat.mul_comm (10 ^ cs.length) 10, Nat.mul_assoc]
    rw [e]
    exact Nat.mul_le_mul_right _ (by omega)
theorem dig_lt {cs : List Nat} {k : Nat} (h : NumText.AllDigits cs) (l : cs.length ≤ k) : NumText.digitsVal cs < 10 ^ k := by
  have z := val_lt cs 0 h
  unfold NumText.digitsVal
  rw [Nat.zero_add, Nat.one_mul] at z
  exact Nat.lt_of_lt_of_le z (Nat.pow_le_pow_right (by decide) l)
theorem log_60 {n : Nat} (h : n < 10 ^ 60) : n.log2 < 1920 := by
  rcases Nat.eq_zero_or_pos n with rfl | hp
  · decide
  · exact (Nat.log2_lt (by omega)).mpr (Nat.lt_trans h (by decide))
theorem str_sz {i : Int} (h : i.natAbs < 10 ^ 60) : (Str.ofString (toString i)).length ≤ 1000 := by
  have tlen : ∀ x : Str, x.length = (TL.tl x).length := fun x => (Array.length_toList).symm
  cases i with
  | ofNat n =>
    rw [tlen]
    show (TL.tl (Str.ofString (toString ((n : Nat) : Int)))).length ≤ 1000
    rw [TL.tl_num]
    exact Nat.le_trans (TL.numL_len (k := 60) (by decide) h) (by decide)
  | negSucc n =>
    have z := TL.numL_len (n := n + 1) (k := 60) (by decide) h
    have e1 : (toString (n + 1)).length = (TL.numL (n + 1)).length := by
      rw [← TL.tl_num, ← tlen, PyProof.Rows.ofString_len]
      rfl
    rw [PyProof.Rows.ofString_len, show toString (Int.negSucc n) = "-" ++ toString (n + 1) from rfl, String.length_append, e1]
    have : ("-" : String).length = 1 := rfl
    omega
theorem strD_ok {i : Int} (h : i.natAbs < 10 ^ 60) : Gp.strD (.int i) = .ok (.str (toString i)) := by
  unfold Gp.strD
  dsimp only
  rw [if_pos ⟨log_60 h, Nat.le_trans (str_sz h) (by decide)⟩]
theorem all_id {α : Type} (p : α → Bool) (l : List α) : (l.map p).all id = l.all p := by
  rw [List.all_map]
  rfl
def Num (w : Str) (d : D) : Prop := d = .non ∨ ∃ n : Int, d = .int n ∧ w = Str.ofString (toString n)
theorem q_num (w : Str) (hl : w.length ≤ sizeLine) : ∃ d, F_number_in (.str w) = .ok d ∧ Num w d := by
  have hw : w.cps.toList.length = w.length := Array.length_toList
  have e1 : slD (.str w) none (some 1) = .ok (.str (cutS w none (some 1))) := if_pos (by
    rw [cut_1]
    show ((w.cps.toList.take 1).toArray).size ≤ _
    rw [List.size_toArray, List.length_take]
    omega)
  have e2 : slD (.str w) (some 1) none = .ok (.str (cutS w (some 1) none)) := if_pos (by
    rw [cut_r]
    show ((w.cps.toList.drop 1).toArray).size ≤ _
    rw [List.size_toArray, List.length_drop]
    omega)
  have key : ∀ g : Str, (dgs g = true → 1 ≤ g.length → g.length ≤ 60 → ∃ n : Int, intTD (.str w) = .ok (.int n) ∧ n.natAbs < 10 ^ 60) → g = (if cutS w none (some 1) = "-" then cutS w (some 1) none else w) → ∃ d, F_number_in (.str w) = .ok d ∧ Num w d := by
    intro g hg eg
    have e3 : (if cutS w none (some 1) = ("-" : Str) then (Tr.ok (D.str (cutS w (some 1) none))) else Tr.ok (D.str w)) = .ok (.str g) := by
      rw [eg]; split <;> rfl
    have e4 : lenD (.str g) = .ok (.int g.length) := rfl
    have e5 := lc_dgs (f := fun x => nox (bd (inOD x (.str "0123456789")) fun y => .ok (some y))) (fun c => by rw [in_dg]; rfl) g.cps.toList
    have e6 : ((g.cps.toList.map fun c => decide (c ∈ ("0123456789" : Str).cps.toList)).all id) = dgs g := all_id _ _
    have e7 : (bd (bd (bd (bd (Tr.ok (D.str w)) fun v2 => (bd (Tr.ok none) fun lo => bd (bd (Tr.ok (D.int 1)) asI) fun hi => slD v2 lo hi)) fun v4 => (bd (Tr.ok (D.str "-")) fun v5 => eqD v4 v5)) asB) fun k => if k = true then (bd (Tr.ok (D.str w)) fun v6 => (bd (bd (Tr.ok (D.int 1)) asI) fun lo => bd (Tr.ok none) fun hi => slD v6 lo hi)) else (Tr.ok (D.str w))) = .ok (.str g) := by
      show (bd (bd (bd (slD (.str w) none (some 1)) fun v4 => eqD v4 (.str "-")) asB) fun k => if k = true then slD (.str w) (some 1) none else Tr.ok (D.str w)) = _
      rw [e1, e2, s_bd, s_eqs, s_bd, s_asB, s_bd, ← e3]
      by_cases q : cutS w none (some 1) = ("-" : Str)
      · rw [if_pos q, decide_eq_true q, if_pos rfl]
      · rw [if_neg q, decide_eq_false q, if_neg Bool.false_ne_true]
    unfold F_number_in
    rw [e7]
    simp -implicitDefEqProofs only [s_bd, s_ul1, s_le, s_asB, e4, itD_str]
    have pn : ∀ (c : Bool), c = false → True := fun _ _ => trivial
    by_cases l1 : 1 ≤ g.length
    · by_cases l2 : g.length ≤ 60
      · have c1 : (1 ≤ (g.length : Int)) := by omega
        have c2 : ((g.length : Int) ≤ 60) := by omega
        cases dq : dgs g with
        | false =>
          refine ⟨.non, ?_, .inl rfl⟩
          simp -implicitDefEqProofs only [s_ul1, c1, c2, decide_true, if_true, s_bd, s_asB, Bool.not_true, Bool.false_eq_true, if_false, e5, s_ul1, s_allB, e6, dq, Bool.not_false, s_bdFr, s_finr]
        | true =>
          obtain ⟨n, h1, h2⟩ := hg dq l1 l2
          have h3 := strD_ok h2
          refine ⟨if (Str.ofString (toString n)) = w then .int n else .non, ?_, ?_⟩
          · simp -implicitDefEqProofs only [s_ul1, c1, c2, decide_true, if_true, s_bd, s_asB, Bool.not_true, Bool.false_eq_true, if_false, e5, s_ul1, s_allB, e6, dq, Bool.not_false, s_bdF, h1, h3, s_eqs]
            by_cases q : Str.ofString (toString n) = w
            · simp only [q, decide_true, if_true, s_bd, s_finr]
            · simp only [q, decide_false, Bool.false_eq_true, if_false, s_bd, s_finr]
          · split
            · rename_i q
              exact .inr ⟨n, rfl, q.symm⟩
            · exact .inl rfl
      · have c1 : (1 ≤ (g.length : Int)) := by omega
        have c2 : ¬ ((g.length : Int) ≤ 60) := by omega
        refine ⟨.non, ?_, .inl rfl⟩
        simp -implicitDefEqProofs only [s_ul1, c1, c2, decide_true, decide_false, if_true, s_bd, s_asB, Bool.not_false, s_bdFr, s_finr]
    · have c1 : ¬ (1 ≤ (g.length : Int)) := by omega
      refine ⟨.non, ?_, .inl rfl⟩
      simp -implicitDefEqProofs only [s_ul1, c1, decide_false, Bool.false_eq_true, if_false, if_true, s_bd, s_asB, Bool.not_false, s_bdFr, s_finr]
  by_cases hm : cutS w none (some 1) = ("-" : Str)
  · have hx : ∃ cs, w.cps.toList = 45 :: cs := by
      rw [cut_1] at hm
      have z := congrArg (fun x : Str => x.cps.toList) hm
      dsimp only at z
      rw [(show ("-" : Str).cps.toList = [45] by decide +kernel), List.toList_toArray] at z
      cases q : w.cps.toList with
      | nil => rw [q] at z; cases z
      | cons c cs =>
        rw [q] at z
        injection z with z _
        exact ⟨cs, by rw [z]⟩
    obtain ⟨cs, hc⟩ := hx
    have eg : cutS w (some 1) none = ⟨cs.toArray⟩ := by rw [cut_r, hc]; rfl
    refine key ⟨cs.toArray⟩ (fun d l1 l2 => ?_) (by rw [if_pos hm, eg])
    have ad := dgs_all d
    rw [List.toList_toArray] at ad
    have l2' : cs.length ≤ 60 := by
      have : (⟨cs.toArray⟩ : Str).length = cs.length := List.size_toArray
      omega
    have l1' : cs ≠ [] := by
      rintro rfl
      exact absurd l1 (by decide)
    have wl : w.length = cs.length + 1 := by rw [← hw, hc]; rfl
    refine ⟨-((NumText.digitsVal cs : Nat) : Int), ?_, ?_⟩
    · unfold intTD
      dsimp only
      rw [if_pos (by omega), PySem.intText_neg hc ad l1' (by omega)]
    · rw [Int.natAbs_neg, Int.natAbs_natCast]
      exact dig_lt ad l2'
  · refine key w (fun d l1 l2 => ?_) (by rw [if_neg hm])
    have ad := dgs_all d
    refine ⟨((NumText.digitsVal w.cps.toList : Nat) : Int), ?_, ?_⟩
    · unfold intTD
      dsimp only
      rw [if_pos (by omega), PySem.intText_digits ad (by intro z; rw [z] at hw; simp at hw; omega) (by omega)]
    · rw [Int.natAbs_natCast]
      exact dig_lt ad (by omega)
end Lw
end
section
set_option Elab.async false
set_option linter.all false
set_option maxRecDepth 100000
set_option maxHeartbeats 400000
namespace Lw
open PySem Gp L2
def nW : List Str → Nat
  | [] => 0
  | w :: r => w.length + 1 + nW r
theorem nW_app (a b : List Str) : nW (a ++ b) = nW a + nW b := by
  induction a with
  | nil => simp [nW]
  | cons w r ih => rw [List.cons_append, nW, nW, ih]; omega
theorem nW_eq (l : List Str) : (l.map (·.length)).sum + l.length = nW l := by
  induction l with
  | nil => rfl
  | cons w r ih => rw [List.map_cons, List.sum_cons, List.length_cons, nW, ← ih]; omega
theorem nW_len (l : List Str) : l.length ≤ nW l := by rw [← nW_eq]; omega
theorem nW_mem {l : List Str} {w : Str} (h : w ∈ l) : w.length + 1 ≤ nW l := by
  induction l with
  | nil => cases h
  | cons x r ih =>
    rw [nW]
    rcases List.mem_cons.mp h with z | z
    · subst z; omega
    · have := ih z; omega
theorem nW_drop (l : List Str) (k : Nat) : nW (l.drop k) ≤ nW l := by
  have := nW_app (l.take k) (l.drop k)
  rw [List.take_append_drop] at this
  omega
theorem nW_cut (l : List Str) {i j : Nat} (h : i ≤ j) : nW (l.take i) + nW (l.drop j) ≤ nW l := by
  have h1 := nW_app (l.take i) (l.drop i)
  rw [List.take_append_drop] at h1
  have h2 : nW (l.drop j) ≤ nW (l.drop i) := by
    have : l.drop j = (l.drop i).drop (j - i) := by rw [List.drop_drop]; congr 1; omega
    rw [this]
    exact nW_drop _ _
  omega
def sp : Str := " "
theorem sp_tl : TL.tl sp = [32] := by decide +kernel
theorem str_len2 (a b : Str) : (a ++ b).length = a.length + b.length := by
  show (a.cps ++ b.cps).size = _
  rw [Array.size_append]
  rfl
theorem join_nW : ∀ l : List Str, l ≠ [] → (Str.join sp l).length + 1 = nW l
  | [], h => absurd rfl h
  | [w], _ => rfl
  | w :: x :: r, _ => by
    have z := join_nW (x :: r) (List.cons_ne_nil _ _)
    show (w ++ sp ++ Str.join sp (x :: r)).length + 1 = _
    rw [str_len2, str_len2, nW, ← z]
    have : sp.length = 1 := by decide +kernel
    omega
theorem strsD_m (ns : List Str) : strsD (ns.map D.str) = some ns := by
  induction ns with
  | nil => rfl
  | cons n r ih => show (strsD (r.map D.str)).map (n :: ·) = _; rw [ih]; rfl
theorem split_ne (t : Str) : Txt.split t sp ≠ [] := by
  unfold Txt.split
  split
  · exact List.cons_ne_nil _ _
  · split
    · exact List.cons_ne_nil _ _
    · rw [StrLaws.partsBetween_eq]
      cases Builtin.Str.occurrences t sp 0 t.length (t.length + 1) with
      | nil => exact List.cons_ne_nil _ _
      | cons c r => exact List.cons_ne_nil _ _
theorem split_nW (t : Str) : nW (Txt.split t sp) = t.length + 1 := by
  rw [← join_nW _ (split_ne t), StrLaws.join_split]
theorem sz_of {t : Str} (h : t.length ≤ 100000) : Sz t := by
  have z := split_nW t
  have l := nW_len (Txt.split t sp)
  refine ⟨Nat.le_trans (show t.length + 2 ≤ 200000 by omega) (by decide), Nat.le_trans (show (Txt.split t sp).length ≤ 200000 by omega) (by decide), fun w hw => ?_⟩
  have : w.length + 1 ≤ nW (Txt.split t sp) := nW_mem hw
  exact Nat.le_trans (show w.length ≤ 200000 by omega) (by decide)
theorem q_join {l : List Str} (h : nW l ≤ 16777216) : joinD (.str sp) (.lst (l.map D.str)) = .ok (.str (Str.join sp l)) := by
  have e1 : sp.length = 1 := by decide +kernel
  have j := StrLaws.join_length_le sp l
  rw [e1, Nat.mul_one, nW_eq] at j
  have e2 : Txt.join sp l = Str.join sp l := TL.join_eq sp l
  unfold joinD
  dsimp only
  rw [strsD_m]
  unfold joinS
  dsimp only
  rw [e1, Nat.mul_one, nW_eq, e2, if_pos ⟨h, Nat.le_trans (Nat.le_trans j h) (by decide)⟩]
theorem split_of {l : List Str} (h0 : l ≠ []) (h : ∀ p ∈ l, 32 ∉ TL.tl p) : Txt.split (Str.join sp l) sp = l := by
  rw [← TL.join_eq]
  exact TL.split_join sp_tl (by decide +kernel) h0 h
theorem map_tl_inj : ∀ {a b : Str}, TL.tl a = TL.tl b → a = b := fun {a b} h => TL.ext_tl h
end Lw
end
section
set_option Elab.async false
set_option linter.all false
set_option maxRecDepth 100000
set_option maxHeartbeats 400000
namespace Lw
open PySem Gp L2 Gh
def spanF (h m o : Int) : Fs := [("own_parts", .tup [.int h, .int m, .int o])]
def spanD (h m o : Int) : D := .obj "Span" (spanF h m o)
def within (d : D) (a b : Int) : Bool := match d with
  | .int i => decide (a ≤ i ∧ i ≤ b)
  | _ => false
inductive Prt : D → Prop where
  | int (i : Int) : Prt (.int i)
  | non : Prt .non
  | bl (b : Bool) : Prt (.bl b)
  | str (s : Str) : Prt (.str s)
  | tup (l : List D) : Prt (.tup l)
  | lst (l : List D) : Prt (.lst l)
  | dct : Prt .dct
theorem q_within {d : D} (h : Prt d) (a b : Int) : F_is_within d (.int a) (.int b) = .ok (.bl (within d a b)) := by
  cases h with
  | int i => exact q_is_within i a b
  | _ => rfl
def faultS (h m o : D) : Option Str := if within h 0 8 = true then (if within m (-60) 60 = true then (if within o (-9) 9 = true then none else some "odd") else some "more") else some "halves"
theorem q_init {h m o : D} (p1 : Prt h) (p2 : Prt m) (p3 : Prt o) : F_Span___init__ [] h m o = (match faultS h m o with | some x => .ex "BadSpan" [("part", .str x)] | none => .ok [("own_parts", .tup [h, m, o])]) := by
  have z3 : 0 + 1 + 1 + 1 ≤ sizeLine := by decide
  unfold F_Span___init__ faultS
  simp -implicitDefEqProofs only [s_bd, s_ul3, s_neg, q_within p1, q_within p2, q_within p3, s_asB]
  cases within h 0 8 with
  | false => rfl
  | true =>
    cases within m (-60) 60 with
    | false => rfl
    | true =>
      cases within o (-9) 9 with
      | false => rfl
      | true =>
        simp -implicitDefEqProofs only [Bool.not_true, Bool.false_eq_true, if_false, s_bdF, if_true, List.length_cons, List.length_nil, z3, s_bd]
        rfl
theorem chk_part {d : D} (h : Prt d) (nm : Str) (a b : Int) : (bdF (W' := Unit) (W := Unit) (L := Unit) (bd (bd (bd (bd (bd (opt (isi_int d)) fun k => .ok (D.bl k)) asB) fun k => .ok (!k)) fun k => if k = true then .ok true else bd (bd (bd (opt (isi_bool d)) fun k => .ok (D.bl k)) asB) fun k => if k = true then .ok true else bd (bd (bd (bd (leD (.int a) d) asB) fun k => if k = true then leD d (.int b) else .ok (.bl false)) asB) fun k => .ok (!k)) fun k => if k = true then .ok (.rt (.str nm)) else .ok (.nx ())) fun _ => .ok (.nx ())) = if within d a b = true then .ok (.nx ()) else .ok (.rt (.str nm)) := by
  cases h with
  | int i =>
    have e1 : isi_int (.int i) = some true := rfl
    have e2 : isi_bool (.int i) = some false := rfl
    simp only [e1, e2, s_opt, s_le, s_bd, s_asB, within, Bool.not_true, Bool.false_eq_true, if_false]
    by_cases c1 : a ≤ i
    · by_cases c2 : i ≤ b
      · simp [c1, c2]
      · simp [c1, c2]
    · simp [c1]
  | bl k => rfl
  | _ => rfl
theorem q_fault {h m o : D} (p1 : Prt h) (p2 : Prt m) (p3 : Prt o) : F__law_fault h m o = .ok (match faultS h m o with | some x => .str x | none => .non) := by
  have z4 : 0 + 1 + 1 + 1 + 1 ≤ sizeLine := by decide
  have z3 : 0 + 1 + 1 + 1 ≤ sizeLine := by decide
  have u4 : ∀ {α : Type} (x y z w : D) (k : D → D → D → D → Tr α), un4 (.tup [x, y, z, w]) k = k x y z w := fun x y z w k => rfl
  have one : ∀ {d : D} (hd : Prt d) (a b : Int), (bd (bd (bd (opt (isi_int d)) fun k => .ok (D.bl k)) asB) fun k => Tr.ok (!k)) = .ok (match d with | .int _ => false | .bl _ => false | _ => true) := fun hd a b => by cases hd <;> rfl
  unfold F__law_fault faultS
  simp -implicitDefEqProofs only [s_bd, s_neg, List.length_cons, List.length_nil, z4, z3, if_true, s_itl, forF_cons, u4]
  rw [chk_part p1, chk_part p2, chk_part p3]
  cases within h 0 8 with
  | false => rfl
  | true =>
    cases within m (-60) 60 with
    | false => rfl
    | true => cases within o (-9) 9 <;> rfl
end Lw
end
section
set_option Elab.async false
set_option linter.all false
set_option maxRecDepth 100000
set_option maxHeartbeats 400000
namespace Lw
open PySem Gp L2 Gh
def txt (n : Int) : Str := Str.ofString (toString n)
def spT (h m o : Int) : Str := txt h ++ " halves " ++ txt o ++ " odd " ++ txt m ++ " more"
def Small (n : Int) : Prop := -1000 ≤ n ∧ n ≤ 1000
theorem sm_60 {n : Int} (h : Small n) : n.natAbs < 10 ^ 60 := Nat.lt_trans (show n.natAbs < 1001 by unfold Small at h; omega) (by decide)
theorem q_halves (h m o : Int) : F_Span_halves (spanD h m o) = .ok (.int h) := by simp [F_Span_halves, spanD, spanF, fldD, ixD, L2.atI, L2.ixN]
theorem q_more (h m o : Int) : F_Span_more (spanD h m o) = .ok (.int m) := by simp [F_Span_more, spanD, spanF, fldD, ixD, L2.atI, L2.ixN]
theorem q_odd (h m o : Int) : F_Span_odd (spanD h m o) = .ok (.int o) := by simp [F_Span_odd, spanD, spanF, fldD, ixD, L2.atI, L2.ixN]
theorem is_span {α : Type} (h m o : Int) (k : Fs → Tr α) : isO "Span" (spanD h m o) k = k (spanF h m o) := rfl
theorem fm_txt {n : Int} (h : Small n) : fmtD (.int n) = .ok (.str (txt n)) := if_pos ⟨log_60 (sm_60 h), Nat.le_trans (str_sz (sm_60 h)) (by decide)⟩
theorem jn_str (f : Str → Tr D) (acc y : Str) (h : acc.length + y.length ≤ 100000) : jnD f acc (.str y) = f (acc ++ y) := if_pos (by rw [str_len2]; exact Nat.le_trans h (by decide))
theorem empty_cat (x : Str) : Str.empty ++ x = x := TL.ext_tl (by
  show (Str.empty.cps ++ x.cps).toList = x.cps.toList
  rw [Array.toList_append]
  rfl)
theorem q_spstr {h m o : Int} (p1 : Small h) (p2 : Small m) (p3 : Small o) : F_Span___str__ (spanD h m o) = .ok (.str (spT h m o)) := by
  unfold F_Span___str__
  simp -implicitDefEqProofs only [s_bd, is_span, s_ul1, q_halves, q_more, q_odd, s_nox, fm_txt p1, fm_txt p2, fm_txt p3]
  have l1 : (txt h).length ≤ 1000 := str_sz (sm_60 p1)
  have l2 : (txt m).length ≤ 1000 := str_sz (sm_60 p2)
  have l3 : (txt o).length ≤ 1000 := str_sz (sm_60 p3)
  have e0 : Str.empty.length = 0 := rfl
  have e1 : (" halves " : Str).length = 8 := by decide +kernel
  have e2 : (" odd " : Str).length = 5 := by decide +kernel
  have e3 : (" more" : Str).length = 5 := by decide +kernel
  rw [jn_str _ _ _ (by omega), empty_cat, jn_str _ _ _ (by omega), jn_str _ _ _ (by simp only [str_len2]; omega), jn_str _ _ _ (by simp only [str_len2]; omega), jn_str _ _ _ (by simp only [str_len2]; omega), jn_str _ _ _ (by simp only [str_len2]; omega)]
  rfl
theorem s_ads (a b : Str) (h : a.length + b.length ≤ 100000) : addD (.str a) (.str b) = .ok (.str (a ++ b)) := if_pos (Nat.le_trans h (by decide))
theorem q_ltext {h m o : Int} (p1 : Small h) (p2 : Small m) (p3 : Small o) : F__law_text (.int h) (.int m) (.int o) = .ok (.str (spT h m o)) := by
  have l1 := str_sz (sm_60 p1)
  have l2 := str_sz (sm_60 p2)
  have l3 := str_sz (sm_60 p3)
  have e1 : (" halves " : Str).length = 8 := by decide +kernel
  have e2 : (" odd " : Str).length = 5 := by decide +kernel
  have e3 : (" more" : Str).length = 5 := by decide +kernel
  unfold F__law_text
  simp -implicitDefEqProofs only [s_bd, s_ul1, strD_ok (sm_60 p1), strD_ok (sm_60 p2), strD_ok (sm_60 p3)]
  rw [s_ads _ _ (by omega), s_bd, s_ads _ _ (by rw [str_len2]; omega), s_bd, s_ads _ _ (by simp only [str_len2]; omega), s_bd, s_ads _ _ (by simp only [str_len2]; omega), s_bd, s_ads _ _ (by simp only [str_len2]; omega), s_bd, s_finr]
  rfl
theorem strO_span {h m o : Int} (p1 : Small h) (p2 : Small m) (p3 : Small o) : strO "Span" (ul1 F_Span___str__) (spanD h m o) = .ok (.str (spT h m o)) := by
  unfold strO
  show bd (ul1 F_Span___str__ [spanD h m o]) asS = _
  rw [s_ul1, q_spstr p1 p2 p3]
  rfl
theorem q_told {h m o : Int} (p1 : Small h) (p2 : Small m) (p3 : Small o) : F__law_told (spanD h m o) = .ok (.lst [.int h, .int m, .int o, .str (spT h m o)]) := by
  have z4 : 0 + 1 + 1 + 1 + 1 ≤ sizeLine := by decide
  unfold F__law_told
  simp -implicitDefEqProofs only [s_bd, is_span, s_ul1, q_halves, q_more, q_odd, s_nox, strO_span p1 p2 p3, List.length_cons, List.length_nil, z4, if_true, s_finr]
end Lw
end
section
set_option Elab.async false
set_option linter.all false
set_option maxRecDepth 100000
set_option maxHeartbeats 400000
namespace Lw
open PySem Gp L2 Gh
theorem heard_ok (d : D) : F__law_heard (.ok d) = .ok (.tup [.str "told", d]) := rfl
theorem heard_span (x : Str) : F__law_heard (.ex "BadSpan" [("part", .str x)]) = .ok (.tup [.str "span", .str x]) := rfl
theorem heard_text (i j : Int) : F__law_heard (.ex "BadText" [("word", .int i), ("line", .int j)]) = .ok (.tup [.str "text", .int j, .int i]) := rfl
def mkS (h m o : Int) : Tr D := match faultS (.int h) (.int m) (.int o) with
  | some x => .ex "BadSpan" [("part", .str x)]
  | none => .ok (spanD h m o)
theorem q_mk (h m o : Int) : (bd (F_Span___init__ [] (.int h) (.int m) (.int o)) fun fs => Tr.ok (D.obj "Span" fs)) = mkS h m o := by
  rw [q_init (.int h) (.int m) (.int o)]
  unfold mkS
  cases faultS (.int h) (.int m) (.int o) <;> rfl
theorem isi_span (h m o : Int) : isi_Span (spanD h m o) = some true := rfl
theorem s_mulS {s x : Int} (hs : s = 1 ∨ s = -1) : mulD (.int s) (.int x) = .ok (.int (s * x)) := s_mul (.inl (by rcases hs with rfl | rfl <;> decide))
theorem fin_mk (m : Tr D) : fin (bd m fun d => .ok (.rt d)) = m := s_fin_id m
theorem q_plusS {a b c x y z s : Int} (hs : s = 1 ∨ s = -1) : F_Span_plus (spanD a b c) (spanD x y z) (.int s) = mkS (a + s * x) (b + s * y) (c + s * z) := by
  unfold F_Span_plus
  simp -implicitDefEqProofs only [s_bd, isi_span, s_opt, s_asB, if_true, is_span, s_ul1, q_halves, q_more, q_odd, s_nox, s_mulS hs, s_add, s_ul3, q_mk]
  unfold mkS
  cases faultS (.int (a + s * x)) (.int (b + s * y)) (.int (c + s * z)) <;> rfl
theorem q_plusI {a b c k s : Int} (hs : s = 1 ∨ s = -1) : F_Span_plus (spanD a b c) (.int k) (.int s) = mkS a (b + s * k) c := by
  have ii : isi_Span (.int k) = some false := rfl
  unfold F_Span_plus
  simp -implicitDefEqProofs only [s_bd, ii, s_opt, s_asB, Bool.false_eq_true, if_false, s_bdF, is_span, s_ul1, q_halves, q_more, q_odd, s_nox, s_mulS hs, s_add, s_ul3, q_mk]
  exact fin_mk _
theorem pl_none (h m o : Int) : (spanF h m o).lookup ("plus" : Str) = none := rfl
theorem add_S (a b c x y z : Int) : F_Span___add__ (spanD a b c) (spanD x y z) = mkS (a + 1 * x) (b + 1 * y) (c + 1 * z) := by
  unfold F_Span___add__
  simp -implicitDefEqProofs only [s_bd, is_span, pl_none, if_true, s_ul3, q_plusS (.inl rfl)]
  exact fin_mk _
theorem sub_S (a b c x y z : Int) : F_Span___sub__ (spanD a b c) (spanD x y z) = mkS (a + -1 * x) (b + -1 * y) (c + -1 * z) := by
  unfold F_Span___sub__
  simp -implicitDefEqProofs only [s_bd, s_neg, is_span, pl_none, if_true, s_ul3, q_plusS (.inr rfl)]
  exact fin_mk _
theorem add_I (a b c k : Int) : F_Span___add__ (spanD a b c) (.int k) = mkS a (b + 1 * k) c := by
  unfold F_Span___add__
  simp -implicitDefEqProofs only [s_bd, is_span, pl_none, if_true, s_ul3, q_plusI (.inl rfl)]
  exact fin_mk _
theorem radd_I (a b c k : Int) : F_Span___radd__ (spanD a b c) (.int k) = mkS a (b + 1 * k) c := by
  unfold F_Span___radd__
  simp -implicitDefEqProofs only [s_bd, is_span, pl_none, if_true, s_ul3, q_plusI (.inl rfl)]
  exact fin_mk _
theorem sub_I (a b c k : Int) : F_Span___sub__ (spanD a b c) (.int k) = mkS a (b + -1 * k) c := by
  unfold F_Span___sub__
  simp -implicitDefEqProofs only [s_bd, s_neg, is_span, pl_none, if_true, s_ul3, q_plusI (.inr rfl)]
  exact fin_mk _
theorem s_mulK {k x : Int} (hk : -100 ≤ k ∧ k ≤ 100) : mulD (.int x) (.int k) = .ok (.int (x * k)) := s_mul (.inr (by omega))
theorem mul_I {a b c k : Int} (hk : -100 ≤ k ∧ k ≤ 100) : F_Span___mul__ (spanD a b c) (.int k) = mkS (a * k) (b * k) (c * k) := by
  unfold F_Span___mul__
  simp -implicitDefEqProofs only [s_bd, is_span, s_ul1, q_halves, q_more, q_odd, s_nox, s_mulK hk, s_ul3, q_mk]
  exact fin_mk _
theorem rmul_I {a b c k : Int} (hk : -100 ≤ k ∧ k ≤ 100) : F_Span___rmul__ (spanD a b c) (.int k) = mkS (a * k) (b * k) (c * k) := by
  unfold F_Span___rmul__
  simp -implicitDefEqProofs only [s_bd, is_span, s_ul1, q_halves, q_more, q_odd, s_nox, s_mulK hk, s_ul3, q_mk]
  exact fin_mk _
end Lw
end
section
set_option Elab.async false
set_option linter.all false
set_option maxRecDepth 100000
set_option maxHeartbeats 400000
namespace Lw
open PySem Gp L2 Gh
theorem ok_cat (a b : Str) (ha : PyData.strOk a = true) (hb : PyData.strOk b = true) : PyData.strOk (a ++ b) = true := by
  unfold PyData.strOk at ha hb ⊢
  show (a.cps ++ b.cps).all _ = true
  rw [Array.all_append, ha, hb]
  rfl
theorem ok_of (s : String) : PyData.strOk (Str.ofString s) = true := by
  unfold PyData.strOk
  rw [Str.ofString_eq_toList, List.all_toArray, List.all_map, List.all_eq_true]
  intro c _
  have := c.valid
  show decide (c.toNat < 0x110000) = true
  rw [decide_eq_true_eq]
  rcases this with z | z
  · exact Nat.lt_of_lt_of_le z (by decide)
  · exact z.2
theorem ok_spT (h m o : Int) : PyData.strOk (spT h m o) = true :=
  ok_cat _ _ (ok_cat _ _ (ok_cat _ _ (ok_cat _ _ (ok_cat _ _ (ok_of _) (ok_of _)) (ok_of _)) (ok_of _)) (ok_of _)) (ok_of _)
theorem eq_told {t : Str} (h : PyData.strOk t = true) (i j k : Int) : eqD (.tup [.str "told", .lst [.int i, .int j, .int k, .str t]]) (.tup [.str "told", .lst [.int i, .int j, .int k, .str t]]) = .ok (.bl true) := by
  have e : toPy (.tup [.str "told", .lst [.int i, .int j, .int k, .str t]]) = some (.tuple [.str "told", .list [.int i, .int j, .int k, .str t]]) := rfl
  have e2 : eqB (.tup [.str "told", .lst [.int i, .int j, .int k, .str t]]) (.tup [.str "told", .lst [.int i, .int j, .int k, .str t]]) = .ok true := by
    unfold eqB
    rw [show eqS (.tup [.str "told", .lst [.int i, .int j, .int k, .str t]]) (.tup [.str "told", .lst [.int i, .int j, .int k, .str t]]) = none from rfl]
    dsimp only
    rw [e]
    dsimp only
    have sh : SeqAt.shaped (.tuple [.str "told", .list [.int i, .int j, .int k, .str t]]) = true := by
      simp [SeqAt.shaped, PyData.canLay0, PyData.canLayAll0, PyData.depth, PyData.depthAll, ok_of, h]
    rw [if_pos ⟨sh, sh⟩]
    simp [PyData.eqv, PyData.eqvAll]
  unfold eqD
  rw [e2]
  rfl
theorem eq_two {x y : Str} (h : PyData.strOk x = true) (h2 : PyData.strOk y = true) : eqD (.tup [.str x, .str y]) (.tup [.str x, .str y]) = .ok (.bl true) := by
  have e : toPy (.tup [.str x, .str y]) = some (.tuple [.str x, .str y]) := rfl
  have e2 : eqB (.tup [.str x, .str y]) (.tup [.str x, .str y]) = .ok true := by
    unfold eqB
    rw [show eqS (.tup [.str x, .str y]) (.tup [.str x, .str y]) = none from rfl]
    dsimp only
    rw [e]
    dsimp only
    have sh : SeqAt.shaped (.tuple [.str x, .str y]) = true := by
      simp [SeqAt.shaped, PyData.canLay0, PyData.canLayAll0, PyData.depth, PyData.depthAll, h, h2]
    rw [if_pos ⟨sh, sh⟩]
    simp [PyData.eqv, PyData.eqvAll]
  unfold eqD
  rw [e2]
  rfl
theorem eq_ti {x : Str} (h : PyData.strOk x = true) (i : Int) : eqD (.tup [.str x, .int i]) (.tup [.str x, .int i]) = .ok (.bl true) := by
  have e : toPy (.tup [.str x, .int i]) = some (.tuple [.str x, .int i]) := rfl
  have e2 : eqB (.tup [.str x, .int i]) (.tup [.str x, .int i]) = .ok true := by
    unfold eqB
    rw [show eqS (.tup [.str x, .int i]) (.tup [.str x, .int i]) = none from rfl]
    dsimp only
    rw [e]
    dsimp only
    have sh : SeqAt.shaped (.tuple [.str x, .int i]) = true := by
      simp [SeqAt.shaped, PyData.canLay0, PyData.canLayAll0, PyData.depth, PyData.depthAll, h]
    rw [if_pos ⟨sh, sh⟩]
    simp [PyData.eqv, PyData.eqvAll]
  unfold eqD
  rw [e2]
  rfl
end Lw
end
section
set_option Elab.async false
set_option linter.all false
set_option maxRecDepth 100000
set_option maxHeartbeats 1000000
namespace Lw
open PySem Gp L2 Gh
theorem q_draw (m : Int) : F_draw .pen (.int m) = .draw m fun d => .ok (.int d) := rfl
structure InS (h m o : Int) : Prop where
  h : 0 ≤ h ∧ h ≤ 8
  m : -60 ≤ m ∧ m ≤ 60
  o : -9 ≤ o ∧ o ≤ 9
theorem fault_in {h m o : Int} (k : InS h m o) : faultS (.int h) (.int m) (.int o) = none := by
  unfold faultS within
  simp [k.h.1, k.h.2, k.m.1, k.m.2, k.o.1, k.o.2]
theorem mk_in {h m o : Int} (k : InS h m o) : mkS h m o = .ok (spanD h m o) := by
  unfold mkS
  rw [fault_in k]
theorem within_int (i a b : Int) : within (.int i) a b = decide (a ≤ i ∧ i ≤ b) := rfl
theorem fault_none {h m o : Int} (e : faultS (.int h) (.int m) (.int o) = none) : InS h m o := by
  unfold faultS at e
  rw [within_int, within_int, within_int] at e
  split at e
  · split at e
    · split at e
      · rename_i a b c
        exact ⟨of_decide_eq_true a, of_decide_eq_true b, of_decide_eq_true c⟩
      · cases e
    · cases e
  · cases e
theorem InS.small {h m o : Int} (k : InS h m o) : Small h ∧ Small m ∧ Small o := by
  have := k.h; have := k.m; have := k.o
  unfold Small
  omega
def hdS (h m o : Int) : D := match faultS (.int h) (.int m) (.int o) with
  | some x => .tup [.str "span", .str x]
  | none => .tup [.str "told", .lst [.int h, .int m, .int o, .str (spT h m o)]]
theorem heard_S (h m o : Int) : F__law_heard (bd (mkS h m o) fun s => F__law_told s) = .ok (hdS h m o) := by
  unfold mkS hdS
  cases e : faultS (.int h) (.int m) (.int o) with
  | some x => exact heard_span x
  | none =>
    obtain ⟨s1, s2, s3⟩ := (fault_none e).small
    dsimp only
    rw [s_bd, q_told s1 s2 s3]
    exact heard_ok _
theorem fault_ok {h m o : Int} {x : Str} (e : faultS (.int h) (.int m) (.int o) = some x) : PyData.strOk x = true := by
  unfold faultS at e
  split at e
  · split at e
    · split at e
      · cases e
      · rw [← Option.some.inj e]; exact ok_of _
    · rw [← Option.some.inj e]; exact ok_of _
  · rw [← Option.some.inj e]; exact ok_of _
theorem hdS_self (h m o : Int) : eqD (hdS h m o) (hdS h m o) = .ok (.bl true) := by
  unfold hdS
  cases e : faultS (.int h) (.int m) (.int o) with
  | some x => exact eq_two (ok_of _) (fault_ok e)
  | none => exact eq_told (ok_spT _ _ _) _ _ _
end Lw
end
section
set_option linter.all false
set_option maxRecDepth 100000
namespace Lw
open PySem Gp
def L_Span_whole (k_ more : D) : Tr D :=
  fin (bdFk (W' := Unit) (bdk (bdk (bdk (bdk (bdk (.ok k_) fun v5 => (bdk (bdk (.ok (.int 0)) fun v3 => (bdk (bdk (.ok (.int 4)) fun v1 => (bdk (.ok []) fun r2 => .ok (v1 :: r2))) fun r4 => .ok (v3 :: r4))) fun r6 => .ok (v5 :: r6))) (ul3 F_is_within)) asB) fun k => .ok (!k)) fun k => if k = true then (bdk (.ok (.str "halves")) fun d => .ex "BadSpan" [("part", d)]) else (.ok (.nx ()))) fun (w7 : Unit) => (bdk (bdk (bdk (bdk (.ok (.int 2)) fun v10 => (bdk (.ok k_) fun v11 => mulD v10 v11)) fun v16 => (bdk (bdk (.ok more) fun v14 => (bdk (bdk (.ok k_) fun v12 => (bdk (.ok []) fun r13 => .ok (v12 :: r13))) fun r15 => .ok (v14 :: r15))) fun r17 => .ok (v16 :: r17))) (fun ds => bdk ((fun fs => ul3 (F_Span___init__ fs)) [] ds) fun fs => .ok (.obj "Span" fs))) fun d => .ok (.rt d)))
theorem lz_Span_whole : F_Span_whole = L_Span_whole := rfl
def L_Span___eq__ (self other : D) : Tr D :=
  fin (bdk (bdk (bdk (bdk (.ok other) fun d => bdk (opt (isi_Span d)) fun k => .ok (.bl k)) asB) fun k => if k = true then (bdk (bdk (.ok self) (fldD "Span" "own_parts")) fun v1 => (bdk (bdk (.ok other) (fldD "Span" "own_parts")) fun v2 => eqD v1 v2)) else .ok (.bl false)) fun d => .ok (.rt d))
theorem lz_Span___eq__ : F_Span___eq__ = L_Span___eq__ := rfl
def L_Span_read (text : D) : Tr D :=
  fin (bdk (bdk (bdk (bdk (.ok text) fun d => bdk (opt (isi_str d)) fun k => .ok (.bl k)) asB) fun k => if k = true then (bdk (.ok text) fun v2 => (isS v2 fun _ => (bdk (.ok (.str " ")) fun v3 => splitD v2 v3))) else (bdk (.ok []) fun ds => if ds.length ≤ sizeLine then .ok (.lst ds) else .bad)) fun words0 => (bdFk (W' := Unit) (bdk (bdk (bdk (bdk (bdk (bdk (.ok words0) fun v4 => (bdk (.ok []) fun r5 => .ok (v4 :: r5))) (ul1 lenD)) fun v6 => (bdk (.ok (.int 6)) fun v7 => neD v6 v7)) asB) fun k => if k = true then .ok true else (bdk (bdk (bdk (.ok words0) fun v8 => (bdk (bdk (.ok (.int 1)) asI) fun lo => bdk (.ok none) fun hi => stepD v8 lo hi 2)) fun v16 => (bdk (bdk (bdk (.ok (.str "halves")) fun v14 => (bdk (bdk (.ok (.str "odd")) fun v12 => (bdk (bdk (.ok (.str "more")) fun v10 => (bdk (.ok []) fun r11 => .ok (v10 :: r11))) fun r13 => .ok (v12 :: r13))) fun r15 => .ok (v14 :: r15))) fun ds => if ds.length ≤ sizeLine then .ok (.lst ds) else .bad) fun v17 => neD v16 v17)) asB)) fun k => if k = true then (bdk (bdk (.ok (.int 0)) fun v21 => (bdk (bdk (.ok (.int 0)) fun v19 => (bdk (.ok []) fun r20 => .ok (v19 :: r20))) fun r22 => .ok (v21 :: r22))) (ul2 fun d1 d2 => .ex "BadText" [("word", d2), ("line", d1)])) else (.ok (.nx ()))) fun (w18 : Unit) => (bdk (bdk (bdk (bdk (.ok words0) fun v24 => (bdk (.ok none) fun lo => bdk (.ok none) fun hi => stepD v24 lo hi 2)) itD) fun ds => bdk (lcF (fun word25 => nox (bdk (bdk (bdk (.ok word25) fun v27 => (bdk (.ok []) fun r28 => .ok (v27 :: r28))) (ul1 F_number_in)) fun y => .ok (some y))) ds) fun r => .ok (.lst r)) fun numbers22 => (bdFk (W' := Unit) (bdk (bdk (bdk (.ok .non) fun v29 => (bdk (.ok numbers22) fun v30 => inOD v29 v30)) asB) fun k => if k = true then (bdk (bdk (.ok (.int 0)) fun v34 => (bdk (bdk (.ok (.int 0)) fun v32 => (bdk (.ok []) fun r33 => .ok (v32 :: r33))) fun r35 => .ok (v34 :: r35))) (ul2 fun d1 d2 => .ex "BadText" [("word", d2), ("line", d1)])) else (.ok (.nx ()))) fun (w31 : Unit) => (bdk (.ok numbers22) fun d37 => unL3 d37 fun halves35 odd35 more35 => (bdFk (W' := Unit) (bdk (bdk (bdk (bdk (bdk (.ok halves35) fun v42 => (bdk (bdk (.ok more35) fun v40 => (bdk (bdk (.ok odd35) fun v38 => (bdk (.ok []) fun r39 => .ok (v38 :: r39))) fun r41 => .ok (v40 :: r41))) fun r43 => .ok (v42 :: r43))) (ul3 F_are_parts)) asB) fun k => .ok (!k)) fun k => if k = true then (bdk (bdk (.ok (.int 0)) fun v47 => (bdk (bdk (.ok (.int 0)) fun v45 => (bdk (.ok []) fun r46 => .ok (v45 :: r46))) fun r48 => .ok (v47 :: r48))) (ul2 fun d1 d2 => .ex "BadText" [("word", d2), ("line", d1)])) else (.ok (.nx ()))) fun (w44 : Unit) => (bdk (bdk (bdk (.ok halves35) fun v53 => (bdk (bdk (.ok more35) fun v51 => (bdk (bdk (.ok odd35) fun v49 => (bdk (.ok []) fun r50 => .ok (v49 :: r50))) fun r52 => .ok (v51 :: r52))) fun r54 => .ok (v53 :: r54))) (fun ds => bdk ((fun fs => ul3 (F_Span___init__ fs)) [] ds) fun fs => .ok (.obj "Span" fs))) fun d => .ok (.rt d))))))))
theorem lz_Span_read : F_Span_read = L_Span_read := rfl
def L__law_part (l_pen_here l_least l_most : D) : Tr D :=
  fin (bdFk (W' := Unit) (bdk (bdk (bdk (bdk (bdk (.ok l_pen_here) fun v3 => (bdk (bdk (.ok (.int 5)) fun v1 => (bdk (.ok []) fun r2 => .ok (v1 :: r2))) fun r4 => .ok (v3 :: r4))) (ul2 F_draw)) fun v5 => (bdk (.ok (.int 0)) fun v6 => gtD v5 v6)) asB) fun k => if k = true then (bdk (bdk (bdk (.ok l_pen_here) fun v30 => (bdk (bdk (bdk (bdk (.ok l_least) fun v26 => (bdk (bdk (.ok l_most) fun v24 => (bdk (bdk (bdk (.ok l_least) fun v16 => (bdk (bdk (bdk (.ok l_pen_here) fun v14 => (bdk (bdk (bdk (bdk (.ok l_most) fun v8 => (bdk (.ok l_least) fun v9 => subD v8 v9)) fun v10 => (bdk (.ok (.int 1)) fun v11 => addD v10 v11)) fun v12 => (bdk (.ok []) fun r13 => .ok (v12 :: r13))) fun r15 => .ok (v14 :: r15))) (ul2 F_draw)) fun v17 => addD v16 v17)) fun v22 => (bdk (bdk (.ok (.int 0)) fun v20 => (bdk (bdk (.ok (.int 1)) fun v18 => (bdk (.ok []) fun r19 => .ok (v18 :: r19))) fun r21 => .ok (v20 :: r21))) fun r23 => .ok (v22 :: r23))) fun r25 => .ok (v24 :: r25))) fun r27 => .ok (v26 :: r27))) fun ds => if ds.length ≤ sizeLine then .ok (.lst ds) else .bad) fun v28 => (bdk (.ok []) fun r29 => .ok (v28 :: r29))) fun r31 => .ok (v30 :: r31))) (ul2 F__law_pick)) fun d => .ok (.rt d)) else (.ok (.nx ()))) fun (w7 : Unit) => (bdk (bdk (bdk (.ok l_pen_here) fun v62 => (bdk (bdk (bdk (bdk (bdk (.ok l_least) fun v32 => (bdk (.ok (.int 1)) fun v33 => subD v32 v33)) fun v58 => (bdk (bdk (bdk (.ok l_most) fun v34 => (bdk (.ok (.int 1)) fun v35 => addD v34 v35)) fun v56 => (bdk (bdk (.ok .non) fun v54 => (bdk (bdk (.ok (.bl true)) fun v52 => (bdk (bdk (.ok (.bl false)) fun v50 => (bdk (bdk (.ok (.str "1")) fun v48 => (bdk (bdk (bdk (bdk (.ok (.int 1)) fun v36 => (bdk (.ok []) fun r37 => .ok (v36 :: r37))) fun ds => if ds.length ≤ sizeLine then .ok (.tup ds) else .bad) fun v46 => (bdk (bdk (.ok (.int 10000000000000000000000000000000000000000)) fun v44 => (bdk (bdk (bdk (.ok (.int 10000000000000000000000000000000000000000)) negD) fun v42 => (bdk (bdk (bdk (.ok []) fun ds => if ds.length ≤ sizeLine then .ok (.lst ds) else .bad) fun v40 => (bdk (bdk (.ok .dct) fun v38 => (bdk (.ok []) fun r39 => .ok (v38 :: r39))) fun r41 => .ok (v40 :: r41))) fun r43 => .ok (v42 :: r43))) fun r45 => .ok (v44 :: r45))) fun r47 => .ok (v46 :: r47))) fun r49 => .ok (v48 :: r49))) fun r51 => .ok (v50 :: r51))) fun r53 => .ok (v52 :: r53))) fun r55 => .ok (v54 :: r55))) fun r57 => .ok (v56 :: r57))) fun r59 => .ok (v58 :: r59))) fun ds => if ds.length ≤ sizeLine then .ok (.lst ds) else .bad) fun v60 => (bdk (.ok []) fun r61 => .ok (v60 :: r61))) fun r63 => .ok (v62 :: r63))) (ul2 F__law_pick)) fun d => .ok (.rt d)))
theorem lz__law_part : F__law_part = L__law_part := rfl
def L__law_joined_right (l_pen_here l_one l_parts : D) : Tr D :=
  fin (bdk (bdk (bdk (bdk (bdk (.ok l_pen_here) fun v4 => (bdk (bdk (.ok (.int 9)) fun v2 => (bdk (.ok []) fun r3 => .ok (v2 :: r3))) fun r5 => .ok (v4 :: r5))) (ul2 F_draw)) fun v22 => (bdk (bdk (bdk (bdk (bdk (.ok l_pen_here) fun v8 => (bdk (bdk (.ok (.int 121)) fun v6 => (bdk (.ok []) fun r7 => .ok (v6 :: r7))) fun r9 => .ok (v8 :: r9))) (ul2 F_draw)) fun v10 => (bdk (.ok (.int 60)) fun v11 => subD v10 v11)) fun v20 => (bdk (bdk (bdk (bdk (bdk (.ok l_pen_here) fun v14 => (bdk (bdk (.ok (.int 19)) fun v12 => (bdk (.ok []) fun r13 => .ok (v12 :: r13))) fun r15 => .ok (v14 :: r15))) (ul2 F_draw)) fun v16 => (bdk (.ok (.int 9)) fun v17 => subD v16 v17)) fun v18 => (bdk (.ok []) fun r19 => .ok (v18 :: r19))) fun r21 => .ok (v20 :: r21))) fun r23 => .ok (v22 :: r23))) fun ds => if ds.length ≤ sizeLine then .ok (.lst ds) else .bad) fun l_others0 => (bdk (bdk (bdk (nox (bdk (bdk (bdk (.ok l_others0) fun v24 => (bdk (.ok (.int 0)) fun v25 => ixD v24 v25)) fun v34 => (bdk (bdk (bdk (.ok l_others0) fun v26 => (bdk (.ok (.int 1)) fun v27 => ixD v26 v27)) fun v32 => (bdk (bdk (bdk (.ok l_others0) fun v28 => (bdk (.ok (.int 2)) fun v29 => ixD v28 v29)) fun v30 => (bdk (.ok []) fun r31 => .ok (v30 :: r31))) fun r33 => .ok (v32 :: r33))) fun r35 => .ok (v34 :: r35))) (fun ds => bdk ((fun fs => ul3 (F_Span___init__ fs)) [] ds) fun fs => .ok (.obj "Span" fs)))) fun v44 => (bdk (bdk (bdk (bdk (bdk (.ok l_pen_here) fun v38 => (bdk (bdk (.ok (.int 7)) fun v36 => (bdk (.ok []) fun r37 => .ok (v36 :: r37))) fun r39 => .ok (v38 :: r39))) (ul2 F_draw)) fun v40 => (bdk (.ok (.int 2)) fun v41 => subD v40 v41)) fun v42 => (bdk (.ok []) fun r43 => .ok (v42 :: r43))) fun r45 => .ok (v44 :: r45))) fun ds => if ds.length ≤ sizeLine then .ok (.tup ds) else .bad) fun d47 => un2 d47 fun l_other45 l_k45 => (bdFk (bdk (bdk (bdk (bdk (.ok (.int 1)) fun v50 => (bdk (bdk (bdk (.ok (.int 1)) negD) fun v48 => (bdk (.ok []) fun r49 => .ok (v48 :: r49))) fun r51 => .ok (v50 :: r51))) fun ds => if ds.length ≤ sizeLine then .ok (.tup ds) else .bad) itD) fun ds => forFk (fun (d53 : D) (w52 : Unit) => (bdk (bdk (bdk (bdk (.ok (.int 3)) fun v56 => (bdk (.ok []) fun r57 => .ok (v56 :: r57))) (ul1 rg1)) fun ds => bdk (lcF (fun l_at57 => nox (bdk (bdk (bdk (.ok l_parts) fun v59 => (bdk (.ok l_at57) fun v60 => ixD v59 v60)) fun v65 => (bdk (bdk (.ok d53) fun v63 => (bdk (bdk (.ok l_others0) fun v61 => (bdk (.ok l_at57) fun v62 => ixD v61 v62)) fun v64 => mulD v63 v64)) fun v66 => addD v65 v66)) fun y => .ok (some y))) ds) fun r => .ok (.lst r)) fun l_due54 => (bdk (bdk (bdk (bdk (.ok l_due54) fun v68 => (bdk (.ok (.int 0)) fun v69 => ixD v68 v69)) fun v78 => (bdk (bdk (bdk (.ok l_due54) fun v70 => (bdk (.ok (.int 1)) fun v71 => ixD v70 v71)) fun v76 => (bdk (bdk (bdk (.ok l_due54) fun v72 => (bdk (.ok (.int 2)) fun v73 => ixD v72 v73)) fun v74 => (bdk (.ok []) fun r75 => .ok (v74 :: r75))) fun r77 => .ok (v76 :: r77))) fun r79 => .ok (v78 :: r79))) (ul3 F__law_fault)) fun l_fault_here66 => (bdk (nox (F__law_heard (bdk (bdk (bdk (bdk (bdk (.ok d53) fun v81 => (bdk (.ok (.int 1)) fun v82 => eqD v81 v82)) asB) fun k => if k = true then (bdk (.ok l_one) fun v85 => (bdk (.ok l_other45) fun v86 => binO "Span" (ul2 F_Span___add__) v85 v86)) else (bdk (.ok l_one) fun v89 => (bdk (.ok l_other45) fun v90 => binO "Span" (ul2 F_Span___sub__) v89 v90))) fun v91 => (bdk (.ok []) fun r92 => .ok (v91 :: r92))) (ul1 F__law_told)))) fun l_heard_here79 => (bdFk (W' := Unit) (bdk (bdk (bdk (.ok l_heard_here79) fun v119 => (bdk (bdk (bdk (bdk (.ok l_fault_here66) fun (v93 : D) => (bdk (.ok .non) fun (v94 : D) => (match v94 with | .non => .ok (.bl (isN v93)) | _ => .bad))) asB) fun k => if k = true then (bdk (bdk (.ok (.str "told")) fun v113 => (bdk (bdk (bdk (.ok l_due54) fun v109 => (bdk (bdk (bdk (bdk (bdk (bdk (.ok l_due54) fun v95 => (bdk (.ok (.int 0)) fun v96 => ixD v95 v96)) fun v105 => (bdk (bdk (bdk (.ok l_due54) fun v97 => (bdk (.ok (.int 1)) fun v98 => ixD v97 v98)) fun v103 => (bdk (bdk (bdk (.ok l_due54) fun v99 => (bdk (.ok (.int 2)) fun v100 => ixD v99 v100)) fun v101 => (bdk (.ok []) fun r102 => .ok (v101 :: r102))) fun r104 => .ok (v103 :: r104))) fun r106 => .ok (v105 :: r106))) (ul3 F__law_text)) fun v107 => (bdk (.ok []) fun r108 => .ok (v107 :: r108))) fun ds => if ds.length ≤ sizeLine then .ok (.lst ds) else .bad) fun v110 => addD v109 v110)) fun v111 => (bdk (.ok []) fun r112 => .ok (v111 :: r112))) fun r114 => .ok (v113 :: r114))) fun ds => if ds.length ≤ sizeLine then .ok (.tup ds) else .bad) else (bdk (bdk (.ok (.str "span")) fun v117 => (bdk (bdk (.ok l_fault_here66) fun v115 => (bdk (.ok []) fun r116 => .ok (v115 :: r116))) fun r118 => .ok (v117 :: r118))) fun ds => if ds.length ≤ sizeLine then .ok (.tup ds) else .bad)) fun v120 => neD v119 v120)) asB) fun k => if k = true then (bdk (.ok (.bl false)) fun d => .ok (.rt d)) else (.ok (.nx ()))) fun (w121 : Unit) => (bdk (bdk (bdk (bdk (.ok l_parts) fun v123 => (bdk (.ok (.int 0)) fun v124 => ixD v123 v124)) fun v137 => (bdk (bdk (bdk (bdk (.ok l_parts) fun v125 => (bdk (.ok (.int 1)) fun v126 => ixD v125 v126)) fun v129 => (bdk (bdk (.ok d53) fun v127 => (bdk (.ok l_k45) fun v128 => mulD v127 v128)) fun v130 => addD v129 v130)) fun v135 => (bdk (bdk (bdk (.ok l_parts) fun v131 => (bdk (.ok (.int 2)) fun v132 => ixD v131 v132)) fun v133 => (bdk (.ok []) fun r134 => .ok (v133 :: r134))) fun r136 => .ok (v135 :: r136))) fun r138 => .ok (v137 :: r138))) (ul3 F__law_fault)) fun l_fault_here121 => (bdk (nox (F__law_heard (bdk (bdk (bdk (bdk (.ok d53) fun v140 => (bdk (.ok (.int 1)) fun v141 => eqD v140 v141)) asB) fun k => if k = true then (bdk (.ok l_one) fun v144 => (bdk (.ok l_k45) fun v145 => binOI "Span" (ul2 F_Span___add__) v144 v145)) else (bdk (.ok l_one) fun v148 => (bdk (.ok l_k45) fun v149 => binOI "Span" (ul2 F_Span___sub__) v148 v149))) fun o150 => (isO "Span" o150 fun _ => nox ((ul1 F_Span_more) [o150]))))) fun l_heard_here138 => (bdFk (W' := Unit) (bdk (bdk (bdk (.ok l_heard_here138) fun v167 => (bdk (bdk (bdk (bdk (.ok l_fault_here121) fun (v151 : D) => (bdk (.ok .non) fun (v152 : D) => (match v152 with | .non => .ok (.bl (isN v151)) | _ => .bad))) asB) fun k => if k = true then (bdk (bdk (.ok (.str "told")) fun v161 => (bdk (bdk (bdk (bdk (.ok l_parts) fun v153 => (bdk (.ok (.int 1)) fun v154 => ixD v153 v154)) fun v157 => (bdk (bdk (.ok d53) fun v155 => (bdk (.ok l_k45) fun v156 => mulD v155 v156)) fun v158 => addD v157 v158)) fun v159 => (bdk (.ok []) fun r160 => .ok (v159 :: r160))) fun r162 => .ok (v161 :: r162))) fun ds => if ds.length ≤ sizeLine then .ok (.tup ds) else .bad) else (bdk (bdk (.ok (.str "span")) fun v165 => (bdk (bdk (.ok l_fault_here121) fun v163 => (bdk (.ok []) fun r164 => .ok (v163 :: r164))) fun r166 => .ok (v165 :: r166))) fun ds => if ds.length ≤ sizeLine then .ok (.tup ds) else .bad)) fun v168 => neD v167 v168)) asB) fun k => if k = true then (bdk (.ok (.bl false)) fun d => .ok (.rt d)) else (.ok (.nx ()))) fun (w169 : Unit) => (.ok (.nx ())))))))))) ds ()) fun (w52 : Unit) => (bdk (bdk (bdk (.ok l_parts) itD) fun ds => bdk (lcF (fun l_part_here170 => nox (bdk (bdk (.ok l_k45) fun v172 => (bdk (.ok l_part_here170) fun v173 => mulD v172 v173)) fun y => .ok (some y))) ds) fun r => .ok (.lst r)) fun l_due169 => (bdk (bdk (bdk (bdk (.ok l_due169) fun v175 => (bdk (.ok (.int 0)) fun v176 => ixD v175 v176)) fun v185 => (bdk (bdk (bdk (.ok l_due169) fun v177 => (bdk (.ok (.int 1)) fun v178 => ixD v177 v178)) fun v183 => (bdk (bdk (bdk (.ok l_due169) fun v179 => (bdk (.ok (.int 2)) fun v180 => ixD v179 v180)) fun v181 => (bdk (.ok []) fun r182 => .ok (v181 :: r182))) fun r184 => .ok (v183 :: r184))) fun r186 => .ok (v185 :: r186))) (ul3 F__law_fault)) fun l_fault_here173 => (bdk (bdk (bdk (nox (F__law_heard (bdk (bdk (bdk (.ok l_k45) fun v188 => (bdk (.ok l_one) fun v189 => binR "Span" (ul2 F_Span___rmul__) v188 v189)) fun v190 => (bdk (.ok []) fun r191 => .ok (v190 :: r191))) (ul1 F__law_told)))) fun v192 => (bdk (.ok []) fun r193 => .ok (v192 :: r193))) fun ds => if ds.length ≤ sizeLine then .ok ds else .bad) fun l_twice186 => (bdk (nox (F__law_heard (bdk (bdk (bdk (.ok l_one) fun v196 => (bdk (.ok l_k45) fun v197 => binOI "Span" (ul2 F_Span___mul__) v196 v197)) fun v198 => (bdk (.ok []) fun r199 => .ok (v198 :: r199))) (ul1 F__law_told)))) fun (v200 : D) => if l_twice186.length < sizeLine then (bdFk (bdk (bdk (.ok (.lst (l_twice186 ++ [v200]))) itD) fun ds => forFk (fun (d202 : D) (w201 : Unit) => (bdFk (W' := Unit) (bdk (bdk (bdk (.ok d202) fun v230 => (bdk (bdk (bdk (bdk (.ok l_fault_here173) fun (v204 : D) => (bdk (.ok .non) fun (v205 : D) => (match v205 with | .non => .ok (.bl (isN v204)) | _ => .bad))) asB) fun k => if k = true then (bdk (bdk (.ok (.str "told")) fun v224 => (bdk (bdk (bdk (.ok l_due169) fun v220 => (bdk (bdk (bdk (bdk (bdk (bdk (.ok l_due169) fun v206 => (bdk (.ok (.int 0)) fun v207 => ixD v206 v207)) fun v216 => (bdk (bdk (bdk (.ok l_due169) fun v208 => (bdk (.ok (.int 1)) fun v209 => ixD v208 v209)) fun v214 => (bdk (bdk (bdk (.ok l_due169) fun v210 => (bdk (.ok (.int 2)) fun v211 => ixD v210 v211)) fun v212 => (bdk (.ok []) fun r213 => .ok (v212 :: r213))) fun r215 => .ok (v214 :: r215))) fun r217 => .ok (v216 :: r217))) (ul3 F__law_text)) fun v218 => (bdk (.ok []) fun r219 => .ok (v218 :: r219))) fun ds => if ds.length ≤ sizeLine then .ok (.lst ds) else .bad) fun v221 => addD v220 v221)) fun v222 => (bdk (.ok []) fun r223 => .ok (v222 :: r223))) fun r225 => .ok (v224 :: r225))) fun ds => if ds.length ≤ sizeLine then .ok (.tup ds) else .bad) else (bdk (bdk (.ok (.str "span")) fun v228 => (bdk (bdk (.ok l_fault_here173) fun v226 => (bdk (.ok []) fun r227 => .ok (v226 :: r227))) fun r229 => .ok (v228 :: r229))) fun ds => if ds.length ≤ sizeLine then .ok (.tup ds) else .bad)) fun v231 => neD v230 v231)) asB) fun k => if k = true then (bdk (.ok (.bl false)) fun d => .ok (.rt d)) else (.ok (.nx ()))) fun (w232 : Unit) => (.ok (.nx ())))) ds ()) fun (w201 : Unit) => (bdk (nox (F__law_heard (bdk (bdk (.ok l_k45) fun v234 => (bdk (.ok l_one) fun v235 => binR "Span" (ul2 F_Span___radd__) v234 v235)) fun o236 => (isO "Span" o236 fun _ => nox ((ul1 F_Span_more) [o236]))))) fun l_heard_here232 => (bdk (bdk (.ok l_heard_here232) fun v242 => (bdk (nox (F__law_heard (bdk (bdk (.ok l_one) fun v239 => (bdk (.ok l_k45) fun v240 => binOI "Span" (ul2 F_Span___add__) v239 v240)) fun o241 => (isO "Span" o241 fun _ => nox ((ul1 F_Span_more) [o241]))))) fun v243 => eqD v242 v243)) fun d => .ok (.rt d)))) else .bad)))))))
theorem lz__law_joined_right : F__law_joined_right = L__law_joined_right := rfl
def L__law_read_right (l_pen_here l_wording l_one : D) : Tr D :=
  fin (bdFk (W' := Unit) (bdk (bdk (bdk (nox (bdk (bdk (.ok l_wording) fun v1 => (bdk (.ok []) fun r2 => .ok (v1 :: r2))) (ul1 F_Span_read))) fun v3 => (bdk (.ok l_one) fun v4 => neO "Span" eqr_Span (ul2 F_Span___eq__) v3 v4)) asB) fun k => if k = true then (bdk (.ok (.bl false)) fun d => .ok (.rt d)) else (.ok (.nx ()))) fun (w5 : Unit) => (bdk (bdk (.ok l_wording) fun v7 => (isS v7 fun _ => (bdk (.ok (.str " ")) fun v8 => splitD v7 v8))) fun l_words5 => (bdk (bdk (bdk (.ok l_pen_here) fun v12 => (bdk (bdk (.ok (.int 6)) fun v10 => (bdk (.ok []) fun r11 => .ok (v10 :: r11))) fun r13 => .ok (v12 :: r13))) (ul2 F_draw)) fun l_at8 => (bdk (bdk (bdk (.ok l_pen_here) fun v35 => (bdk (bdk (bdk (bdk (.ok (.str "")) fun v31 => (bdk (bdk (.ok (.str "+1")) fun v29 => (bdk (bdk (.ok (.str "01")) fun v27 => (bdk (bdk (.ok (.str "-0")) fun v25 => (bdk (bdk (.ok (.str "9999")) fun v23 => (bdk (bdk (.ok (.str "halve")) fun v21 => (bdk (bdk (.ok (.str "x")) fun v19 => (bdk (bdk (.ok (.str "1 1")) fun v17 => (bdk (bdk (.ok (.str " ")) fun v15 => (bdk (.ok []) fun r16 => .ok (v15 :: r16))) fun r18 => .ok (v17 :: r18))) fun r20 => .ok (v19 :: r20))) fun r22 => .ok (v21 :: r22))) fun r24 => .ok (v23 :: r24))) fun r26 => .ok (v25 :: r26))) fun r28 => .ok (v27 :: r28))) fun r30 => .ok (v29 :: r30))) fun r32 => .ok (v31 :: r32))) fun ds => if ds.length ≤ sizeLine then .ok (.lst ds) else .bad) fun v33 => (bdk (.ok []) fun r34 => .ok (v33 :: r34))) fun r36 => .ok (v35 :: r36))) (ul2 F__law_pick)) fun l_odd13 => (bdk (bdk (bdk (bdk (.ok (.str " ")) fun v38 => (isS v38 fun _ => (bdk (bdk (bdk (bdk (.ok l_words5) fun v40 => (bdk (.ok none) fun lo => bdk (bdk (.ok l_at8) asI) fun hi => slD v40 lo hi)) fun v44 => (bdk (bdk (bdk (.ok l_odd13) fun v42 => (bdk (.ok []) fun r43 => .ok (v42 :: r43))) fun ds => if ds.length ≤ sizeLine then .ok (.lst ds) else .bad) fun v45 => addD v44 v45)) fun v50 => (bdk (bdk (.ok l_words5) fun v46 => (bdk (bdk (bdk (.ok l_at8) fun v48 => (bdk (.ok (.int 1)) fun v49 => addD v48 v49)) asI) fun lo => bdk (.ok none) fun hi => slD v46 lo hi)) fun v51 => addD v50 v51)) fun v39 => joinD v38 v39))) fun v64 => (bdk (bdk (bdk (.ok (.str " ")) fun v52 => (isS v52 fun _ => (bdk (bdk (bdk (.ok l_words5) fun v54 => (bdk (.ok none) fun lo => bdk (bdk (.ok l_at8) asI) fun hi => slD v54 lo hi)) fun v60 => (bdk (bdk (.ok l_words5) fun v56 => (bdk (bdk (bdk (.ok l_at8) fun v58 => (bdk (.ok (.int 1)) fun v59 => addD v58 v59)) asI) fun lo => bdk (.ok none) fun hi => slD v56 lo hi)) fun v61 => addD v60 v61)) fun v53 => joinD v52 v53))) fun v62 => (bdk (.ok []) fun r63 => .ok (v62 :: r63))) fun r65 => .ok (v64 :: r65))) fun ds => if ds.length ≤ sizeLine then .ok (.lst ds) else .bad) fun l_bad36 => (bdk (bdk (.ok l_bad36) fun v75 => (bdk (bdk (bdk (bdk (.ok l_wording) fun v67 => (bdk (.ok (.str " ")) fun v68 => addD v67 v68)) fun v73 => (bdk (bdk (bdk (.ok (.str " ")) fun v69 => (bdk (.ok l_wording) fun v70 => addD v69 v70)) fun v71 => (bdk (.ok []) fun r72 => .ok (v71 :: r72))) fun r74 => .ok (v73 :: r74))) fun ds => if ds.length ≤ sizeLine then .ok (.lst ds) else .bad) fun v76 => addD v75 v76)) fun l_bad65 => (bdFk (bdk (bdk (bdk (.ok l_bad65) fun v95 => (bdk (bdk (bdk (bdk (.ok l_wording) fun v77 => (bdk (.ok (.str " 1")) fun v78 => addD v77 v78)) fun v93 => (bdk (bdk (.ok (.str "")) fun v91 => (bdk (bdk (.ok .non) fun v89 => (bdk (bdk (.ok (.int 7)) fun v87 => (bdk (bdk (.ok (.bl true)) fun v85 => (bdk (bdk (bdk (bdk (.ok l_wording) fun v79 => (bdk (.ok []) fun r80 => .ok (v79 :: r80))) fun ds => if ds.length ≤ sizeLine then .ok (.lst ds) else .bad) fun v83 => (bdk (bdk (.ok l_one) fun v81 => (bdk (.ok []) fun r82 => .ok (v81 :: r82))) fun r84 => .ok (v83 :: r84))) fun r86 => .ok (v85 :: r86))) fun r88 => .ok (v87 :: r88))) fun r90 => .ok (v89 :: r90))) fun r92 => .ok (v91 :: r92))) fun r94 => .ok (v93 :: r94))) fun ds => if ds.length ≤ sizeLine then .ok (.lst ds) else .bad) fun v96 => addD v95 v96)) itD) fun ds => forFk (fun (d98 : D) (w97 : Unit) => (bdFk (W' := Unit) (bdk (bdk (bdk (nox (F__law_heard (bdk (bdk (.ok d98) fun v100 => (bdk (.ok []) fun r101 => .ok (v100 :: r101))) (ul1 F_Span_read)))) fun v108 => (bdk (bdk (bdk (.ok (.str "text")) fun v106 => (bdk (bdk (.ok (.int 0)) fun v104 => (bdk (bdk (.ok (.int 0)) fun v102 => (bdk (.ok []) fun r103 => .ok (v102 :: r103))) fun r105 => .ok (v104 :: r105))) fun r107 => .ok (v106 :: r107))) fun ds => if ds.length ≤ sizeLine then .ok (.tup ds) else .bad) fun v109 => neD v108 v109)) asB) fun k => if k = true then (bdk (.ok (.bl false)) fun d => .ok (.rt d)) else (.ok (.nx ()))) fun (w110 : Unit) => (.ok (.nx ())))) ds ()) fun (w97 : Unit) => (bdk (.ok (.bl true)) fun d => .ok (.rt d)))))))))
theorem lz__law_read_right : F__law_read_right = L__law_read_right := rfl
def L_law : Tr D :=
  fin (bdFk (bdk (bdk (bdk (.ok (.int 6)) fun v1 => (bdk (.ok []) fun r2 => .ok (v1 :: r2))) (ul1 rg1)) fun ds => forFk (fun (d4 : D) (w3 : Unit) => (bdk (bdk (bdk (bdk (bdk (.ok .pen) fun v10 => (bdk (bdk (.ok (.int 0)) fun v8 => (bdk (bdk (.ok (.int 8)) fun v6 => (bdk (.ok []) fun r7 => .ok (v6 :: r7))) fun r9 => .ok (v8 :: r9))) fun r11 => .ok (v10 :: r11))) (ul3 F__law_part)) fun v28 => (bdk (bdk (bdk (bdk (.ok .pen) fun v16 => (bdk (bdk (bdk (.ok (.int 60)) negD) fun v14 => (bdk (bdk (.ok (.int 60)) fun v12 => (bdk (.ok []) fun r13 => .ok (v12 :: r13))) fun r15 => .ok (v14 :: r15))) fun r17 => .ok (v16 :: r17))) (ul3 F__law_part)) fun v26 => (bdk (bdk (bdk (bdk (.ok .pen) fun v22 => (bdk (bdk (bdk (.ok (.int 9)) negD) fun v20 => (bdk (bdk (.ok (.int 9)) fun v18 => (bdk (.ok []) fun r19 => .ok (v18 :: r19))) fun r21 => .ok (v20 :: r21))) fun r23 => .ok (v22 :: r23))) (ul3 F__law_part)) fun v24 => (bdk (.ok []) fun r25 => .ok (v24 :: r25))) fun r27 => .ok (v26 :: r27))) fun r29 => .ok (v28 :: r29))) fun ds => if ds.length ≤ sizeLine then .ok (.tup ds) else .bad) fun d31 => un3 d31 fun l_halves29 l_more29 l_odd29 => (bdk (bdk (bdk (.ok l_halves29) fun v37 => (bdk (bdk (.ok l_more29) fun v35 => (bdk (bdk (.ok l_odd29) fun v33 => (bdk (.ok []) fun r34 => .ok (v33 :: r34))) fun r36 => .ok (v35 :: r36))) fun r38 => .ok (v37 :: r38))) (ul3 F__law_fault)) fun l_fault_here31 => (bdk (nox (F__law_heard (bdk (bdk (bdk (bdk (.ok l_halves29) fun v44 => (bdk (bdk (.ok l_more29) fun v42 => (bdk (bdk (.ok l_odd29) fun v40 => (bdk (.ok []) fun r41 => .ok (v40 :: r41))) fun r43 => .ok (v42 :: r43))) fun r45 => .ok (v44 :: r45))) (fun ds => bdk ((fun fs => ul3 (F_Span___init__ fs)) [] ds) fun fs => .ok (.obj "Span" fs))) fun v46 => (bdk (.ok []) fun r47 => .ok (v46 :: r47))) (ul1 F__law_told)))) fun l_heard_here38 => (bdFk (W' := Unit) (bdk (bdk (bdk (bdk (.ok l_fault_here31) fun (v48 : D) => (bdk (.ok .non) fun (v49 : D) => (match v49 with | .non => .ok (.bl (!isN v48)) | _ => .bad))) asB) fun k => if k = true then (bdk (bdk (.ok l_heard_here38) fun v54 => (bdk (bdk (bdk (.ok (.str "span")) fun v52 => (bdk (bdk (.ok l_fault_here31) fun v50 => (bdk (.ok []) fun r51 => .ok (v50 :: r51))) fun r53 => .ok (v52 :: r53))) fun ds => if ds.length ≤ sizeLine then .ok (.tup ds) else .bad) fun v55 => neD v54 v55)) asB) else .ok false) fun k => if k = true then (bdk (.ok (.bl false)) fun d => .ok (.rt d)) else (.ok (.nx ()))) fun (w56 : Unit) => (bdFk (W' := Unit) (bdk (bdk (bdk (.ok l_fault_here31) fun (v57 : D) => (bdk (.ok .non) fun (v58 : D) => (match v58 with | .non => .ok (.bl (isN v57)) | _ => .bad))) asB) fun k => if k = true then (bdk (bdk (nox (bdk (bdk (.ok l_halves29) fun v64 => (bdk (bdk (.ok l_more29) fun v62 => (bdk (bdk (.ok l_odd29) fun v60 => (bdk (.ok []) fun r61 => .ok (v60 :: r61))) fun r63 => .ok (v62 :: r63))) fun r65 => .ok (v64 :: r65))) (fun ds => bdk ((fun fs => ul3 (F_Span___init__ fs)) [] ds) fun fs => .ok (.obj "Span" fs)))) fun v74 => (bdk (bdk (bdk (bdk (.ok l_halves29) fun v70 => (bdk (bdk (.ok l_more29) fun v68 => (bdk (bdk (.ok l_odd29) fun v66 => (bdk (.ok []) fun r67 => .ok (v66 :: r67))) fun r69 => .ok (v68 :: r69))) fun r71 => .ok (v70 :: r71))) (ul3 F__law_text)) fun v72 => (bdk (.ok []) fun r73 => .ok (v72 :: r73))) fun r75 => .ok (v74 :: r75))) (ul2 fun l_one75 l_wording75 => (bdFk (W' := Unit) (bdk (bdk (bdk (bdk (.ok l_heard_here38) fun v89 => (bdk (bdk (bdk (.ok (.str "told")) fun v87 => (bdk (bdk (bdk (bdk (.ok l_halves29) fun v83 => (bdk (bdk (.ok l_more29) fun v81 => (bdk (bdk (.ok l_odd29) fun v79 => (bdk (bdk (.ok l_wording75) fun v77 => (bdk (.ok []) fun r78 => .ok (v77 :: r78))) fun r80 => .ok (v79 :: r80))) fun r82 => .ok (v81 :: r82))) fun r84 => .ok (v83 :: r84))) fun ds => if ds.length ≤ sizeLine then .ok (.lst ds) else .bad) fun v85 => (bdk (.ok []) fun r86 => .ok (v85 :: r86))) fun r88 => .ok (v87 :: r88))) fun ds => if ds.length ≤ sizeLine then .ok (.tup ds) else .bad) fun v90 => neD v89 v90)) asB) fun k => if k = true then .ok true else (bdk (bdk (bdk (bdk (.ok .pen) fun v95 => (bdk (bdk (.ok l_wording75) fun v93 => (bdk (bdk (.ok l_one75) fun v91 => (bdk (.ok []) fun r92 => .ok (v91 :: r92))) fun r94 => .ok (v93 :: r94))) fun r96 => .ok (v95 :: r96))) (ul3 F__law_read_right)) asB) fun k => .ok (!k))) fun k => if k = true then (bdk (.ok (.bl false)) fun d => .ok (.rt d)) else (.ok (.nx ()))) fun (w97 : Unit) => (bdFk (W' := Unit) (bdk (bdk (bdk (bdk (bdk (bdk (.ok .pen) fun v108 => (bdk (bdk (.ok l_one75) fun v106 => (bdk (bdk (bdk (bdk (.ok l_halves29) fun v102 => (bdk (bdk (.ok l_more29) fun v100 => (bdk (bdk (.ok l_odd29) fun v98 => (bdk (.ok []) fun r99 => .ok (v98 :: r99))) fun r101 => .ok (v100 :: r101))) fun r103 => .ok (v102 :: r103))) fun ds => if ds.length ≤ sizeLine then .ok (.lst ds) else .bad) fun v104 => (bdk (.ok []) fun r105 => .ok (v104 :: r105))) fun r107 => .ok (v106 :: r107))) fun r109 => .ok (v108 :: r109))) (ul3 F__law_joined_right)) asB) fun k => .ok (!k)) fun k => if k = true then .ok true else (bdk (bdk (bdk (.ok l_one75) fun v116 => (bdk (bdk (bdk (.ok l_halves29) fun v114 => (bdk (bdk (.ok l_more29) fun v112 => (bdk (bdk (.ok l_odd29) fun v110 => (bdk (.ok []) fun r111 => .ok (v110 :: r111))) fun r113 => .ok (v112 :: r113))) fun r115 => .ok (v114 :: r115))) fun ds => if ds.length ≤ sizeLine then .ok (.tup ds) else .bad) fun v117 => eqO "Span" eqr_Span (ul2 F_Span___eq__) v116 v117)) asB) fun k => if k = true then .ok true else (bdk (bdk (.ok l_one75) fun v118 => (bdk (.ok l_wording75) fun v119 => eqO "Span" eqr_Span (ul2 F_Span___eq__) v118 v119)) asB))) fun k => if k = true then (bdk (.ok (.bl false)) fun d => .ok (.rt d)) else (.ok (.nx ()))) fun (w120 : Unit) => (bdFk (W' := Unit) (bdk (bdk (bdk (bdk (.ok l_one75) fun v127 => (bdk (nox (bdk (bdk (.ok l_halves29) fun v125 => (bdk (bdk (.ok l_more29) fun v123 => (bdk (bdk (.ok l_odd29) fun v121 => (bdk (.ok []) fun r122 => .ok (v121 :: r122))) fun r124 => .ok (v123 :: r124))) fun r126 => .ok (v125 :: r126))) (fun ds => bdk ((fun fs => ul3 (F_Span___init__ fs)) [] ds) fun fs => .ok (.obj "Span" fs)))) fun v128 => neO "Span" eqr_Span (ul2 F_Span___eq__) v127 v128)) asB) fun k => if k = true then .ok true else (bdk (bdk (bdk (.ok l_one75) fun v137 => (bdk (nox (bdk (bdk (.ok l_halves29) fun v135 => (bdk (bdk (.ok l_more29) fun v133 => (bdk (bdk (bdk (.ok (.int 0)) fun v129 => (bdk (.ok l_odd29) fun v130 => subD v129 v130)) fun v131 => (bdk (.ok []) fun r132 => .ok (v131 :: r132))) fun r134 => .ok (v133 :: r134))) fun r136 => .ok (v135 :: r136))) (fun ds => bdk ((fun fs => ul3 (F_Span___init__ fs)) [] ds) fun fs => .ok (.obj "Span" fs)))) fun v138 => eqO "Span" eqr_Span (ul2 F_Span___eq__) v137 v138)) asB) fun k => if k = true then (bdk (bdk (.ok l_odd29) fun v139 => (bdk (.ok (.int 0)) fun v140 => neD v139 v140)) asB) else .ok false)) fun k => if k = true then (bdk (.ok (.bl false)) fun d => .ok (.rt d)) else (.ok (.nx ()))) fun (w141 : Unit) => (.ok (.nx ()))))))) else (.ok (.nx ()))) fun (w59 : Unit) => (bdk (bdk (bdk (.ok .pen) fun v147 => (bdk (bdk (.ok (.int 0)) fun v145 => (bdk (bdk (.ok (.int 4)) fun v143 => (bdk (.ok []) fun r144 => .ok (v143 :: r144))) fun r146 => .ok (v145 :: r146))) fun r148 => .ok (v147 :: r148))) (ul3 F__law_part)) fun l_k141 => (bdk (bdk (bdk (bdk (bdk (bdk (bdk (.ok l_k141) fun v154 => (bdk (bdk (.ok (.int 0)) fun v152 => (bdk (bdk (.ok (.int 0)) fun v150 => (bdk (.ok []) fun r151 => .ok (v150 :: r151))) fun r153 => .ok (v152 :: r153))) fun r155 => .ok (v154 :: r155))) (ul3 F__law_fault)) fun (v156 : D) => (bdk (.ok .non) fun (v157 : D) => (match v157 with | .non => .ok (.bl (!isN v156)) | _ => .bad))) asB) fun k => if k = true then .ok true else (bdk (bdk (.ok l_k141) fun v158 => (bdk (.ok (.int 4)) fun v159 => gtD v158 v159)) asB)) fun k => if k = true then (.ok (.str "halves")) else (bdk (bdk (.ok (.int 0)) fun v164 => (bdk (bdk (.ok l_more29) fun v162 => (bdk (bdk (.ok (.int 0)) fun v160 => (bdk (.ok []) fun r161 => .ok (v160 :: r161))) fun r163 => .ok (v162 :: r163))) fun r165 => .ok (v164 :: r165))) (ul3 F__law_fault))) fun l_fault_here148 => (bdk (nox (F__law_heard (bdk (bdk (bdk (bdk (.ok l_k141) fun v169 => (bdk (bdk (.ok l_more29) fun v167 => (bdk (.ok []) fun r168 => .ok (v167 :: r168))) fun r170 => .ok (v169 :: r170))) (ul2 F_Span_whole)) fun v171 => (bdk (.ok []) fun r172 => .ok (v171 :: r172))) (ul1 F__law_told)))) fun l_heard_here165 => (bdFk (W' := Unit) (bdk (bdk (bdk (.ok l_heard_here165) fun v201 => (bdk (bdk (bdk (bdk (.ok l_fault_here148) fun (v173 : D) => (bdk (.ok .non) fun (v174 : D) => (match v174 with | .non => .ok (.bl (isN v173)) | _ => .bad))) asB) fun k => if k = true then (bdk (bdk (.ok (.str "told")) fun v195 => (bdk (bdk (bdk (bdk (bdk (.ok (.int 2)) fun v175 => (bdk (.ok l_k141) fun v176 => mulD v175 v176)) fun v191 => (bdk (bdk (.ok l_more29) fun v189 => (bdk (bdk (.ok l_k141) fun v187 => (bdk (bdk (bdk (bdk (bdk (.ok (.int 2)) fun v177 => (bdk (.ok l_k141) fun v178 => mulD v177 v178)) fun v183 => (bdk (bdk (.ok l_more29) fun v181 => (bdk (bdk (.ok l_k141) fun v179 => (bdk (.ok []) fun r180 => .ok (v179 :: r180))) fun r182 => .ok (v181 :: r182))) fun r184 => .ok (v183 :: r184))) (ul3 F__law_text)) fun v185 => (bdk (.ok []) fun r186 => .ok (v185 :: r186))) fun r188 => .ok (v187 :: r188))) fun r190 => .ok (v189 :: r190))) fun r192 => .ok (v191 :: r192))) fun ds => if ds.length ≤ sizeLine then .ok (.lst ds) else .bad) fun v193 => (bdk (.ok []) fun r194 => .ok (v193 :: r194))) fun r196 => .ok (v195 :: r196))) fun ds => if ds.length ≤ sizeLine then .ok (.tup ds) else .bad) else (bdk (bdk (.ok (.str "span")) fun v199 => (bdk (bdk (.ok l_fault_here148) fun v197 => (bdk (.ok []) fun r198 => .ok (v197 :: r198))) fun r200 => .ok (v199 :: r200))) fun ds => if ds.length ≤ sizeLine then .ok (.tup ds) else .bad)) fun v202 => neD v201 v202)) asB) fun k => if k = true then (bdk (.ok (.bl false)) fun d => .ok (.rt d)) else (.ok (.nx ()))) fun (w203 : Unit) => (.ok (.nx ())))))))))))) ds ()) fun (w3 : Unit) => (bdk (bdk (bdk (bdk (bdk (bdk (bdk (nox (bdk (bdk (.ok (.int 3)) fun v204 => (bdk (.ok []) fun r205 => .ok (v204 :: r205))) (fun ds => bdk ((fun fs => ul3 (F_Span___init__ fs)) [] (ds ++ [.int 0, .int 0])) fun fs => .ok (.obj "Span" fs)))) fun v206 => (bdk (.ok []) fun r207 => .ok (v206 :: r207))) (ul1 F__law_told)) fun v208 => (bdk (.ok none) fun lo => bdk (bdk (.ok (.int 3)) asI) fun hi => slD v208 lo hi)) fun v216 => (bdk (bdk (bdk (.ok (.int 3)) fun v214 => (bdk (bdk (.ok (.int 0)) fun v212 => (bdk (bdk (.ok (.int 0)) fun v210 => (bdk (.ok []) fun r211 => .ok (v210 :: r211))) fun r213 => .ok (v212 :: r213))) fun r215 => .ok (v214 :: r215))) fun ds => if ds.length ≤ sizeLine then .ok (.lst ds) else .bad) fun v217 => eqD v216 v217)) asB) fun k => if k = true then (bdk (bdk (bdk (bdk (bdk (bdk (nox (bdk (.ok []) (fun ds => (ul2 F_Span_whole) (ds ++ [.int 1, .int 0])))) fun v218 => (bdk (.ok []) fun r219 => .ok (v218 :: r219))) (ul1 F__law_told)) fun v220 => (bdk (.ok none) fun lo => bdk (bdk (.ok (.int 3)) asI) fun hi => slD v220 lo hi)) fun v228 => (bdk (bdk (bdk (.ok (.int 2)) fun v226 => (bdk (bdk (.ok (.int 0)) fun v224 => (bdk (bdk (.ok (.int 1)) fun v222 => (bdk (.ok []) fun r223 => .ok (v222 :: r223))) fun r225 => .ok (v224 :: r225))) fun r227 => .ok (v226 :: r227))) fun ds => if ds.length ≤ sizeLine then .ok (.lst ds) else .bad) fun v229 => eqD v228 v229)) asB) fun k => if k = true then (bdk (.ok (.int 60)) fun v230 => (bdk (.ok (.int 60)) fun v231 => eqD v230 v231)) else .ok (.bl false)) else .ok (.bl false)) fun d => .ok (.rt d)))
theorem lz_law : F_law = L_law := rfl
end Lw
end
section
set_option Elab.async false
set_option linter.all false
set_option maxRecDepth 100000
set_option maxHeartbeats 1000000
namespace Lw
open PySem Gp L2 Gh
def dF (x : Option Str) : D := match x with | some x => .str x | none => .non
theorem q_faultI (h m o : Int) : F__law_fault (.int h) (.int m) (.int o) = .ok (dF (faultS (.int h) (.int m) (.int o))) := by
  rw [q_fault (.int h) (.int m) (.int o)]
  rfl
theorem s_rg3 : rg1 (.int 3) = .ok [.int 0, .int 1, .int 2] := rfl
theorem s_ix0 (a b c : D) : ixD (.lst [a, b, c]) (.int 0) = .ok a := by simp [ixD, L2.atI, L2.ixN]
theorem s_ix1 (a b c : D) : ixD (.lst [a, b, c]) (.int 1) = .ok b := by simp [ixD, L2.atI, L2.ixN]
theorem s_ix2 (a b c : D) : ixD (.lst [a, b, c]) (.int 2) = .ok c := by simp [ixD, L2.atI, L2.ixN]
theorem z1L : (1 ≤ sizeLine) = True := eq_true (by decide)
theorem z2L : (2 ≤ sizeLine) = True := eq_true (by decide)
theorem z3L : (3 ≤ sizeLine) = True := eq_true (by decide)
theorem z4L : (4 ≤ sizeLine) = True := eq_true (by decide)
theorem z1l : (1 < sizeLine) = True := eq_true (by decide)
theorem s_for2 {L : Type} {f : D → Unit → Tr (Fl Unit Unit)} {a b : D} (h1 : f a () = .ok (.nx ())) (h2 : f b () = .ok (.nx ())) : forF (L := L) f [a, b] () = .ok (.nx ()) := by
  rw [forF_cons, h1, s_bd]
  dsimp only
  rw [forF_cons, h2, s_bd]
  rfl
theorem ne_of_eq {a b : D} (h : eqD a b = .ok (.bl true)) : neD a b = .ok (.bl false) := by
  unfold eqD at h
  unfold neD
  cases e : eqB a b with
  | ok k =>
    rw [e] at h
    injection h with h
    injection h with h
    subst h
    rfl
  | ex c fs => rw [e] at h; cases h
  | bad => rw [e] at h; cases h
  | draw m f => rw [e] at h; cases h
theorem heard_S' {h m o : Int} {f : D → Tr D} (hf : ∀ s, f s = F__law_told s) : F__law_heard (bd (mkS h m o) f) = .ok (hdS h m o) := by
  rw [show f = fun s => F__law_told s from funext hf]
  exact heard_S h m o
def hdM (h m o : Int) : D := match faultS (.int h) (.int m) (.int o) with
  | some x => .tup [.str "span", .str x]
  | none => .tup [.str "told", .int m]
theorem heard_M {h m o : Int} {f : D → Tr D} (hf : ∀ s, f s = isO "Span" s fun _ => nox (F_Span_more s)) : F__law_heard (bd (mkS h m o) f) = .ok (hdM h m o) := by
  rw [show f = fun s => isO "Span" s fun _ => nox (F_Span_more s) from funext hf]
  unfold mkS hdM
  cases e : faultS (.int h) (.int m) (.int o) with
  | some x => exact heard_span x
  | none =>
    dsimp only
    rw [s_bd, is_span, q_more]
    exact heard_ok _
theorem hdM_self (h m o : Int) : eqD (hdM h m o) (hdM h m o) = .ok (.bl true) := by
  unfold hdM
  cases e : faultS (.int h) (.int m) (.int o) with
  | some x => exact eq_two (ok_of _) (fault_ok e)
  | none => exact eq_ti (ok_of _) _
theorem isN_dF (x : Option Str) : isN (dF x) = decide (x = none) := by
  cases x with
  | none => rfl
  | some x => rfl
theorem s_addL31 (a b c d : D) : addD (.lst [a, b, c]) (.lst [d]) = .ok (.lst [a, b, c, d]) := if_pos (c := 4 ≤ sizeLine) (e := Tr.bad) (by decide)
theorem bin_SS (F : List D → Tr D) (a b c x y z : Int) : binO "Span" F (spanD a b c) (spanD x y z) = F [spanD a b c, spanD x y z] := rfl
theorem bin_SI (F : List D → Tr D) (a b c k : Int) : binOI "Span" F (spanD a b c) (.int k) = F [spanD a b c, .int k] := rfl
theorem bin_RI (F : List D → Tr D) (a b c k : Int) : binR "Span" F (.int k) (spanD a b c) = F [spanD a b c, .int k] := rfl
theorem due_S {h m o : Int} : (if decide (faultS (.int h) (.int m) (.int o) = none) = true then (Tr.ok (D.tup [.str "told", .lst [.int h, .int m, .int o, .str (spT h m o)]])) else .ok (.tup [.str "span", dF (faultS (.int h) (.int m) (.int o))])) = .ok (hdS h m o) := by
  unfold hdS
  cases faultS (.int h) (.int m) (.int o) with
  | some x => rfl
  | none => rfl
theorem due_M {h m o : Int} : (if decide (faultS (.int h) (.int m) (.int o) = none) = true then (Tr.ok (D.tup [.str "told", .int m])) else .ok (.tup [.str "span", dF (faultS (.int h) (.int m) (.int o))])) = .ok (hdM h m o) := by
  unfold hdM
  cases faultS (.int h) (.int m) (.int o) with
  | some x => rfl
  | none => rfl
theorem s_mul1 (x : Int) : mulD (.int 1) (.int x) = .ok (.int (1 * x)) := s_mul (.inl (by decide))
theorem s_mulN (x : Int) : mulD (.int (-1)) (.int x) = .ok (.int (-1 * x)) := s_mul (.inl (by decide))
theorem ne_S (h m o : Int) : neD (hdS h m o) (hdS h m o) = .ok (.bl false) := ne_of_eq (hdS_self h m o)
theorem ne_M (h m o : Int) : neD (hdM h m o) (hdM h m o) = .ok (.bl false) := ne_of_eq (hdM_self h m o)
theorem s_mulKl {k x : Int} (hk : -100 ≤ k ∧ k ≤ 100) : mulD (.int k) (.int x) = .ok (.int (k * x)) := s_mul (.inl (by omega))
theorem mul_I' {a b c k : Int} (hk : -100 ≤ k ∧ k ≤ 100) : F_Span___mul__ (spanD a b c) (.int k) = mkS (k * a) (k * b) (k * c) := by
  rw [mul_I hk, Int.mul_comm a, Int.mul_comm b, Int.mul_comm c]
theorem rmul_I' {a b c k : Int} (hk : -100 ≤ k ∧ k ≤ 100) : F_Span___rmul__ (spanD a b c) (.int k) = mkS (k * a) (k * b) (k * c) := by
  rw [rmul_I hk, Int.mul_comm a, Int.mul_comm b, Int.mul_comm c]
theorem s_for2k {L : Type} {f : D → Unit → Tr (Fl Unit Unit)} {a b : D} {u : Dp f} (h1 : f a () = .ok (.nx ())) (h2 : f b () = .ok (.nx ())) : forFk (L := L) f [a, b] () u = .ok (.nx ()) := s_for2 h1 h2
theorem heard_S2k {h m o : Int} {f : D → Tr (List D)} {g : List D → Tr D} {u : Dp f} {v : Dp g} (hf : ∀ s, bd (f s) g = F__law_told s) : F__law_heard (bdk (bdk (mkS h m o) f u) g v) = .ok (hdS h m o) := by
  show F__law_heard (bd (bd (mkS h m o) f) g) = _
  rw [s_bdbd]
  exact heard_S' hf
theorem heard_M2k {h m o : Int} {f : D → Tr D} {u : Dp f} (hf : ∀ s, f s = isO "Span" s fun _ => nox (F_Span_more s)) : F__law_heard (bdk (mkS h m o) f u) = .ok (hdM h m o) := heard_M hf
theorem q_mkk (h m o : Int) {f : Fs → Tr D} {u : Dp f} (hf : ∀ fs, f fs = Tr.ok (D.obj "Span" fs)) : bdk (F_Span___init__ [] (.int h) (.int m) (.int o)) f u = mkS h m o := by
  unfold bdk
  rw [show f = fun fs => Tr.ok (D.obj "Span" fs) from funext hf]
  exact q_mk h m o
theorem s_asI (d : Int) : asI (.int d) = .ok (some d) := rfl
end Lw
end
section
set_option Elab.async false
set_option linter.all false
set_option maxRecDepth 100000
set_option maxHeartbeats 1000000
namespace Lw
open PySem Gp L2 Gh
theorem joined_right {h m o : Int} (k : InS h m o) : Bx (· = .bl true) (F__law_joined_right .pen (spanD h m o) (.lst [.int h, .int m, .int o])) 4 := by
  rw [lz__law_joined_right]
  unfold L__law_joined_right
  simp -implicitDefEqProofs -dsimp only [implies_true, s_bd, ↓k_bd, k_bd, k_bdx, k_bdd, s_nox, k_bdF, k_bdFr, k_bdFx, s_finr, s_finn, s_find, k_bdFd, ↓reduceIte, s_asB, s_asI, s_ul1, s_ul2, s_ul3, s_sub, s_add, s_neg, s_eq, s_len, s_itl, s_itt, s_opt, List.length_cons, List.length_nil, s_un2t, decide_true, decide_false, Bool.not_true, Bool.not_false, if_true, if_false, Bool.false_eq_true, Nat.reduceAdd, z1L, z2L, z3L, z4L, z1l, q_draw, q_mkk, s_ix0, s_ix1, s_ix2, s_rg3, q_faultI, isN_dF, s_addL31]
  refine bx_draw (by decide) (by decide) fun x x0 x1 => ?_
  refine bx_draw (by decide) (by decide) fun y y0 y1 => ?_
  refine bx_draw (by decide) (by decide) fun z z0 z1 => ?_
  have ko : InS x (y - 60) (z - 9) := ⟨by omega, by omega, by omega⟩
  simp -implicitDefEqProofs -dsimp only [implies_true, s_bd, ↓k_bd, k_bd, k_bdx, k_bdd, s_nox, k_bdF, k_bdFr, k_bdFx, s_finr, s_finn, s_find, k_bdFd, ↓reduceIte, s_asB, s_asI, s_ul1, s_ul2, s_ul3, s_sub, s_add, s_neg, s_eq, s_len, s_itl, s_itt, s_opt, List.length_cons, List.length_nil, s_un2t, decide_true, decide_false, Bool.not_true, Bool.not_false, if_true, if_false, Bool.false_eq_true, Nat.reduceAdd, z1L, z2L, z3L, z4L, z1l, q_draw, q_mkk, s_ix0, s_ix1, s_ix2, s_rg3, q_faultI, isN_dF, s_addL31, mk_in ko]
  refine bx_draw (by decide) (by decide) fun j j0 j1 => ?_
  have hk : -100 ≤ j - 2 ∧ j - 2 ≤ 100 := by omega
  have kh := k.h; have km := k.m; have kd := k.o
  rw [s_for2k ?h1 ?h2]
  case h1 =>
    have t1 := q_ltext (h := h + 1 * x) (m := m + 1 * (y - 60)) (o := o + 1 * (z - 9)) (by unfold Small; omega) (by unfold Small; omega) (by unfold Small; omega)
    simp -implicitDefEqProofs -dsimp only [implies_true, s_bd, ↓k_bd, k_bd, k_bdx, k_bdd, s_nox, k_bdF, k_bdFr, k_bdFx, s_finr, s_finn, s_find, k_bdFd, ↓reduceIte, s_asB, s_asI, s_ul1, s_ul2, s_ul3, s_sub, s_add, s_neg, s_eq, s_len, s_itl, s_itt, s_opt, List.length_cons, List.length_nil, s_un2t, decide_true, decide_false, Bool.not_true, Bool.not_false, if_true, if_false, Bool.false_eq_true, Nat.reduceAdd, z1L, z2L, z3L, z4L, z1l, q_draw, q_mkk, s_ix0, s_ix1, s_ix2, s_rg3, q_faultI, isN_dF, s_addL31, s_mul1, lcF_cons, lcF_nil, bin_SS, add_S, heard_S2k, t1, due_S, ne_S, bin_SI, add_I, heard_M2k, due_M, ne_M]
  case h2 =>
    have d1 : decide ((-1 : Int) = 1) = false := rfl
    have t1 := q_ltext (h := h + -1 * x) (m := m + -1 * (y - 60)) (o := o + -1 * (z - 9)) (by unfold Small; omega) (by unfold Small; omega) (by unfold Small; omega)
    simp -implicitDefEqProofs -dsimp only [implies_true, s_bd, ↓k_bd, k_bd, k_bdx, k_bdd, s_nox, k_bdF, k_bdFr, k_bdFx, s_finr, s_finn, s_find, k_bdFd, ↓reduceIte, s_asB, s_asI, s_ul1, s_ul2, s_ul3, s_sub, s_add, s_neg, s_eq, s_len, s_itl, s_itt, s_opt, List.length_cons, List.length_nil, s_un2t, decide_true, decide_false, Bool.not_true, Bool.not_false, if_true, if_false, Bool.false_eq_true, Nat.reduceAdd, z1L, z2L, z3L, z4L, z1l, q_draw, q_mkk, s_ix0, s_ix1, s_ix2, s_rg3, q_faultI, isN_dF, s_addL31, s_mulN, lcF_cons, lcF_nil, bin_SS, sub_S, heard_S2k, t1, due_S, ne_S, bin_SI, sub_I, heard_M2k, due_M, ne_M, d1]
  have sm : ∀ v : Int, -60 ≤ v ∧ v ≤ 60 → Small ((j - 2) * v) := fun v hv => by
    have : j = 0 ∨ j = 1 ∨ j = 2 ∨ j = 3 ∨ j = 4 ∨ j = 5 ∨ j = 6 := by omega
    unfold Small
    rcases this with rfl | rfl | rfl | rfl | rfl | rfl | rfl <;> omega
  have t1 := q_ltext (sm h (by omega)) (sm m (by omega)) (sm o (by omega))
  simp -implicitDefEqProofs -dsimp only [implies_true, s_bd, ↓k_bd, k_bd, k_bdx, k_bdd, s_nox, k_bdF, k_bdFr, k_bdFx, s_finr, s_finn, s_find, k_bdFd, ↓reduceIte, s_asB, s_asI, s_ul1, s_ul2, s_ul3, s_sub, s_add, s_neg, s_eq, s_len, s_itl, s_itt, s_opt, List.length_cons, List.length_nil, s_un2t, decide_true, decide_false, Bool.not_true, Bool.not_false, if_true, if_false, Bool.false_eq_true, Nat.reduceAdd, z1L, z2L, z3L, z4L, z1l, q_draw, q_mkk, s_ix0, s_ix1, s_ix2, s_rg3, q_faultI, isN_dF, s_addL31, s_mulKl hk, lcF_cons, lcF_nil, bin_RI, bin_SI, rmul_I' hk, mul_I' hk, heard_S2k, List.cons_append, List.nil_append]
  rw [s_for2k ?h3 ?h4]
  case h3 => simp -implicitDefEqProofs -dsimp only [implies_true, s_bd, ↓k_bd, k_bd, k_bdx, k_bdd, s_nox, k_bdF, k_bdFr, k_bdFx, s_finr, s_finn, s_find, k_bdFd, ↓reduceIte, s_asB, s_asI, s_ul1, s_ul2, s_ul3, s_sub, s_add, s_neg, s_eq, s_len, s_itl, s_itt, s_opt, List.length_cons, List.length_nil, s_un2t, decide_true, decide_false, Bool.not_true, Bool.not_false, if_true, if_false, Bool.false_eq_true, Nat.reduceAdd, z1L, z2L, z3L, z4L, z1l, q_draw, q_mkk, s_ix0, s_ix1, s_ix2, s_rg3, q_faultI, isN_dF, s_addL31, t1, due_S, ne_S]
  case h4 => simp -implicitDefEqProofs -dsimp only [implies_true, s_bd, ↓k_bd, k_bd, k_bdx, k_bdd, s_nox, k_bdF, k_bdFr, k_bdFx, s_finr, s_finn, s_find, k_bdFd, ↓reduceIte, s_asB, s_asI, s_ul1, s_ul2, s_ul3, s_sub, s_add, s_neg, s_eq, s_len, s_itl, s_itt, s_opt, List.length_cons, List.length_nil, s_un2t, decide_true, decide_false, Bool.not_true, Bool.not_false, if_true, if_false, Bool.false_eq_true, Nat.reduceAdd, z1L, z2L, z3L, z4L, z1l, q_draw, q_mkk, s_ix0, s_ix1, s_ix2, s_rg3, q_faultI, isN_dF, s_addL31, t1, due_S, ne_S]
  simp -implicitDefEqProofs -dsimp only [implies_true, s_bd, ↓k_bd, k_bd, k_bdx, k_bdd, s_nox, k_bdF, k_bdFr, k_bdFx, s_finr, s_finn, s_find, k_bdFd, ↓reduceIte, s_asB, s_asI, s_ul1, s_ul2, s_ul3, s_sub, s_add, s_neg, s_eq, s_len, s_itl, s_itt, s_opt, List.length_cons, List.length_nil, s_un2t, decide_true, decide_false, Bool.not_true, Bool.not_false, if_true, if_false, Bool.false_eq_true, Nat.reduceAdd, z1L, z2L, z3L, z4L, z1l, q_draw, q_mkk, s_ix0, s_ix1, s_ix2, s_rg3, q_faultI, isN_dF, s_addL31, bin_RI, bin_SI, radd_I, add_I, heard_M2k, hdM_self]
  exact bx_ok rfl
end Lw
end
section
set_option Elab.async false
set_option linter.all false
set_option maxRecDepth 100000
set_option maxHeartbeats 1000000
namespace Lw
open PySem Gp L2 Gh
theorem mem_join {S : List Nat} {c : Nat} : ∀ {l : List (List Nat)} {w : List Nat}, w ∈ l → c ∈ w → c ∈ TL.joinL S l
  | [x], w, hw, hc => by
    rw [List.mem_singleton] at hw
    subst hw
    exact hc
  | x :: y :: r, w, hw, hc => by
    show c ∈ x ++ (S ++ TL.joinL S (y :: r))
    rcases List.mem_cons.mp hw with rfl | hw
    · exact List.mem_append_left _ hc
    · exact List.mem_append_right _ (List.mem_append_right _ (mem_join hw hc))
theorem strOk_iff (t : Str) : PyData.strOk t = true ↔ ∀ c ∈ TL.tl t, c < 0x110000 := by
  unfold PyData.strOk TL.tl
  rw [Array.all_eq_true_iff_forall_mem]
  simp
theorem ok_split {t w : Str} (h : PyData.strOk t = true) (hw : w ∈ Txt.split t sp) : PyData.strOk w = true := by
  rw [strOk_iff] at h ⊢
  intro c hc
  refine h c ?_
  rw [← StrLaws.join_split t sp, TL.tl_join]
  exact mem_join (List.mem_map_of_mem hw) hc
theorem ne_three {a b c x y z : Str} (h1 : PyData.strOk a = true) (h2 : PyData.strOk b = true) (h3 : PyData.strOk c = true) (k1 : PyData.strOk x = true) (k2 : PyData.strOk y = true) (k3 : PyData.strOk z = true) : neD (.lst [.str a, .str b, .str c]) (.lst [.str x, .str y, .str z]) = .ok (.bl (!decide (a = x ∧ b = y ∧ c = z))) := by
  have e : ∀ a b c : Str, toPy (.lst [.str a, .str b, .str c]) = some (.list [.str a, .str b, .str c]) := fun _ _ _ => rfl
  have e2 : eqB (.lst [.str a, .str b, .str c]) (.lst [.str x, .str y, .str z]) = .ok (decide (a = x ∧ b = y ∧ c = z)) := by
    unfold eqB
    rw [show eqS (.lst [.str a, .str b, .str c]) (.lst [.str x, .str y, .str z]) = none from rfl]
    dsimp only
    rw [e, e]
    dsimp only
    have sh : ∀ a b c : Str, PyData.strOk a = true → PyData.strOk b = true → PyData.strOk c = true → SeqAt.shaped (.list [.str a, .str b, .str c]) = true := fun a b c h1 h2 h3 => by
      simp [SeqAt.shaped, PyData.canLay0, PyData.canLayAll0, PyData.depth, PyData.depthAll, h1, h2, h3]
    rw [if_pos ⟨sh _ _ _ h1 h2 h3, sh _ _ _ k1 k2 k3⟩]
    simp only [PyData.eqv, PyData.eqvAll]
    by_cases q1 : a = x <;> by_cases q2 : b = y <;> by_cases q3 : c = z <;> simp [q1, q2, q3]
  unfold neD
  rw [e2]
  rfl
theorem q_parts (h m o : Int) : F_are_parts (.int h) (.int m) (.int o) = .ok (.bl (decide (faultS (.int h) (.int m) (.int o) = none))) := by
  unfold F_are_parts faultS
  simp -implicitDefEqProofs only [s_bd, s_ul3, s_neg, q_within (.int _), s_asB]
  cases within (.int h) 0 8 with
  | false => rfl
  | true =>
    cases within (.int m) (-60) 60 with
    | false => rfl
    | true => cases within (.int o) (-9) 9 <;> rfl
def badT : Tr D := .ex "BadText" [("word", .int 0), ("line", .int 0)]
theorem in_num (x y z : D) (hx : x = .non ∨ ∃ n, x = .int n) (hy : y = .non ∨ ∃ n, y = .int n) (hz : z = .non ∨ ∃ n, z = .int n) : (inOD .non (.lst [x, y, z]) = .ok (.bl true)) ∨ (∃ a b c : Int, x = .int a ∧ y = .int b ∧ z = .int c ∧ inOD .non (.lst [x, y, z]) = .ok (.bl false)) := by
  rcases hx with rfl | ⟨a, rfl⟩ <;> rcases hy with rfl | ⟨b, rfl⟩ <;> rcases hz with rfl | ⟨c, rfl⟩
  all_goals first
    | exact .inl rfl
    | exact .inr ⟨_, _, _, rfl, rfl, rfl, rfl⟩
theorem num_or {w : Str} {d : D} (h : Num w d) : d = .non ∨ ∃ n, d = .int n := by
  rcases h with h | ⟨n, h, _⟩
  · exact .inl h
  · exact .inr ⟨n, h⟩
theorem sp_join (a c e : Str) : Str.join sp [a, "halves", c, "odd", e, "more"] = a ++ " halves " ++ c ++ " odd " ++ e ++ " more" := by
  apply map_tl_inj
  rw [TL.tl_join]
  have tc : ∀ a b : Str, TL.tl (a ++ b) = TL.tl a ++ TL.tl b := fun a b => Array.toList_append
  have e1 : TL.tl (" halves " : Str) = TL.tl sp ++ TL.tl ("halves" : Str) ++ TL.tl sp := by decide +kernel
  have e2 : TL.tl (" odd " : Str) = TL.tl sp ++ TL.tl ("odd" : Str) ++ TL.tl sp := by decide +kernel
  have e3 : TL.tl (" more" : Str) = TL.tl sp ++ TL.tl ("more" : Str) := by decide +kernel
  simp only [tc, e1, e2, e3, List.map_cons, List.map_nil, TL.joinL, List.append_assoc]
theorem s_nei (i j : Int) : neD (.int i) (.int j) = .ok (.bl (!decide (i = j))) := rfl
theorem st_odd (a b c d e f : D) : stepD (.lst [a, b, c, d, e, f]) (some 1) none 2 = .ok (.lst [b, d, f]) := by
  have z : stL 6 (some 1) none 2 = [.inl 1, .inl 3, .inl 5] := by decide +kernel
  have p : pickS [a, b, c, d, e, f] (some 1) none 2 = [b, d, f] := by
    show picks (stL 6 (some 1) none 2) [] [a, b, c, d, e, f] = _
    rw [z]
    rfl
  show (if (pickS [a, b, c, d, e, f] (some 1) none 2).length ≤ sizeLine then Tr.ok (D.lst (pickS [a, b, c, d, e, f] (some 1) none 2)) else .bad) = _
  rw [p]
  exact if_pos (show 3 ≤ sizeLine by decide)
theorem st_even (a b c d e f : D) : stepD (.lst [a, b, c, d, e, f]) none none 2 = .ok (.lst [a, c, e]) := by
  have z : stL 6 none none 2 = [.inl 0, .inl 2, .inl 4] := by decide +kernel
  have p : pickS [a, b, c, d, e, f] none none 2 = [a, c, e] := by
    show picks (stL 6 none none 2) [] [a, b, c, d, e, f] = _
    rw [z]
    rfl
  show (if (pickS [a, b, c, d, e, f] none none 2).length ≤ sizeLine then Tr.ok (D.lst (pickS [a, b, c, d, e, f] none none 2)) else .bad) = _
  rw [p]
  exact if_pos (show 3 ≤ sizeLine by decide)
theorem read_W {t a b c d e f : Str} {x y z : D} (sz : Sz t) (hW : Txt.split t sp = [a, b, c, d, e, f]) (ok : ∀ w ∈ Txt.split t sp, PyData.strOk w = true)
    (ha : F_number_in (.str a) = .ok x) (hc : F_number_in (.str c) = .ok y) (he : F_number_in (.str e) = .ok z) (nx : x = .non ∨ ∃ n, x = .int n) (ny : y = .non ∨ ∃ n, y = .int n) (nz : z = .non ∨ ∃ n, z = .int n) :
    (F_Span_read (.str t) = badT ∧ (∀ h o m : Int, x = .int h → y = .int o → z = .int m → b = "halves" → d = "odd" → f = "more" → ¬ InS h m o)) ∨ (∃ h o m : Int, x = .int h ∧ y = .int o ∧ z = .int m ∧ b = "halves" ∧ d = "odd" ∧ f = "more" ∧ InS h m o ∧ F_Span_read (.str t) = .ok (spanD h m o)) := by
  have ii : isi_str (.str t) = some true := rfl
  have qs : splitD (.str t) (.str " ") = .ok (.lst ((Txt.split t sp).map D.str)) := q_split sz
  rw [hW] at qs ok
  have z3 : 0 + 1 + 1 + 1 ≤ sizeLine := by decide
  have n6 : (!decide (((0 + 1 + 1 + 1 + 1 + 1 + 1 : Nat) : Int) = 6)) = false := rfl
  have l6 : lenD (.lst [.str a, .str b, .str c, .str d, .str e, .str f]) = .ok (.int ((0 + 1 + 1 + 1 + 1 + 1 + 1 : Nat) : Int)) := rfl
  have ne := ne_three (a := b) (b := d) (c := f) (x := "halves") (y := "odd") (z := "more") (ok b (by simp)) (ok d (by simp)) (ok f (by simp)) (ok_of _) (ok_of _) (ok_of _)
  have u3 : ∀ {α : Type} (x y z : D) (k : D → D → D → Tr α), unL3 (.lst [x, y, z]) k = k x y z := fun _ _ _ _ => rfl
  have n6' : decide ((6 : Int) = 6) = true := rfl
  have l6' : lenD (.lst [.str a, .str b, .str c, .str d, .str e, .str f]) = .ok (.int 6) := rfl
  rw [lz_Span_read]
  unfold L_Span_read
  by_cases hb : b = "halves" ∧ d = "odd" ∧ f = "more"
  · rw [decide_eq_true hb] at ne
    obtain ⟨h1, h2, h3⟩ := hb
    rcases in_num x y z nx ny nz with q | ⟨p, r, s, rfl, rfl, rfl, q⟩
    · refine .inl ⟨?_, fun h o m e1 e2 e3 => ?_⟩
      · simp -implicitDefEqProofs -dsimp only [implies_true, s_bd, ↓k_bd, k_bd, k_bdx, k_bdd, s_nox, k_bdF, k_bdFr, k_bdFx, s_finr, s_finn, s_find, k_bdFd, ↓reduceIte, s_asB, s_asI, s_ul1, s_ul2, s_ul3, s_sub, s_add, s_neg, s_eq, s_len, s_itl, s_itt, s_opt, List.length_cons, List.length_nil, s_un2t, decide_true, decide_false, Bool.not_true, Bool.not_false, if_true, if_false, Bool.false_eq_true, Nat.reduceAdd, z1L, z2L, z3L, z4L, z1l, q_draw, q_mkk, s_ix0, s_ix1, s_ix2, s_rg3, q_faultI, isN_dF, s_addL31, ii, isS_str, qs, List.map_cons, List.map_nil, l6', s_nei, n6', st_odd, ne, st_even, lcF_cons, lcF_nil, ha, hc, he, q]
        rfl
      · subst e1; subst e2; subst e3
        cases q
    · by_cases ft : faultS (.int p) (.int s) (.int r) = none
      · refine .inr ⟨p, r, s, rfl, rfl, rfl, h1, h2, h3, fault_none ft, ?_⟩
        simp -implicitDefEqProofs -dsimp only [implies_true, s_bd, ↓k_bd, k_bd, k_bdx, k_bdd, s_nox, k_bdF, k_bdFr, k_bdFx, s_finr, s_finn, s_find, k_bdFd, ↓reduceIte, s_asB, s_asI, s_ul1, s_ul2, s_ul3, s_sub, s_add, s_neg, s_eq, s_len, s_itl, s_itt, s_opt, List.length_cons, List.length_nil, s_un2t, decide_true, decide_false, Bool.not_true, Bool.not_false, if_true, if_false, Bool.false_eq_true, Nat.reduceAdd, z1L, z2L, z3L, z4L, z1l, q_draw, q_mkk, s_ix0, s_ix1, s_ix2, s_rg3, q_faultI, isN_dF, s_addL31, ii, isS_str, qs, List.map_cons, List.map_nil, l6', s_nei, n6', st_odd, ne, st_even, lcF_cons, lcF_nil, ha, hc, he, q, u3, q_parts, q_mk, ft, mk_in (fault_none ft)]
      · refine .inl ⟨?_, fun h o m e1 e2 e3 _ _ _ k => ft ?_⟩
        · simp -implicitDefEqProofs -dsimp only [implies_true, s_bd, ↓k_bd, k_bd, k_bdx, k_bdd, s_nox, k_bdF, k_bdFr, k_bdFx, s_finr, s_finn, s_find, k_bdFd, ↓reduceIte, s_asB, s_asI, s_ul1, s_ul2, s_ul3, s_sub, s_add, s_neg, s_eq, s_len, s_itl, s_itt, s_opt, List.length_cons, List.length_nil, s_un2t, decide_true, decide_false, Bool.not_true, Bool.not_false, if_true, if_false, Bool.false_eq_true, Nat.reduceAdd, z1L, z2L, z3L, z4L, z1l, q_draw, q_mkk, s_ix0, s_ix1, s_ix2, s_rg3, q_faultI, isN_dF, s_addL31, ii, isS_str, qs, List.map_cons, List.map_nil, l6', s_nei, n6', st_odd, ne, st_even, lcF_cons, lcF_nil, ha, hc, he, q, u3, q_parts, q_mk, ft]
          rfl
        · injection e1 with e1
          injection e2 with e2
          injection e3 with e3
          subst e1; subst e2; subst e3
          exact fault_in k
  · rw [decide_eq_false hb] at ne
    refine .inl ⟨?_, fun h o m _ _ _ h1 h2 h3 => absurd ⟨h1, h2, h3⟩ hb⟩
    simp -implicitDefEqProofs -dsimp only [implies_true, s_bd, ↓k_bd, k_bd, k_bdx, k_bdd, s_nox, k_bdF, k_bdFr, k_bdFx, s_finr, s_finn, s_find, k_bdFd, ↓reduceIte, s_asB, s_asI, s_ul1, s_ul2, s_ul3, s_sub, s_add, s_neg, s_eq, s_len, s_itl, s_itt, s_opt, List.length_cons, List.length_nil, s_un2t, decide_true, decide_false, Bool.not_true, Bool.not_false, if_true, if_false, Bool.false_eq_true, Nat.reduceAdd, z1L, z2L, z3L, z4L, z1l, q_draw, q_mkk, s_ix0, s_ix1, s_ix2, s_rg3, q_faultI, isN_dF, s_addL31, ii, isS_str, qs, List.map_cons, List.map_nil, l6', s_nei, n6', st_odd, ne]
    rfl
theorem read_len {t : Str} (sz : Sz t) (h : (Txt.split t sp).length ≠ 6) : F_Span_read (.str t) = badT := by
  have ii : isi_str (.str t) = some true := rfl
  have qs : splitD (.str t) (.str " ") = .ok (.lst ((Txt.split t sp).map D.str)) := q_split sz
  have n6 : (!decide (((Txt.split t sp).length : Int) = 6)) = true := by
    rw [decide_eq_false (by omega)]; rfl
  have l6 : lenD (.lst ((Txt.split t sp).map D.str)) = .ok (.int ((Txt.split t sp).length : Int)) := by
    rw [s_len, List.length_map]
  unfold F_Span_read
  simp -implicitDefEqProofs only [s_bd, ii, s_opt, s_asB, if_true, isS_str, qs, s_ul1, l6, s_nei, n6, s_ul2]
  rfl
theorem read_non {d : D} (h : isi_str d = some false) : F_Span_read d = badT := by
  have n6 : (!decide (((0 : Nat) : Int) = 6)) = true := rfl
  have z0 : 0 ≤ sizeLine := by decide
  unfold F_Span_read
  simp -implicitDefEqProofs only [s_bd, h, s_opt, s_asB, if_true, if_false, Bool.false_eq_true, List.length_nil, z0, s_ul1, s_len, s_nei, n6, s_ul2]
  rfl
theorem num_txt {w : Str} {n : Int} (h : Num w (.int n)) : w = txt n := by
  rcases h with h | ⟨k, h, e⟩
  · cases h
  · injection h with h
    subst h
    exact e
theorem six {l : List Str} (h : l.length = 6) : ∃ a b c d e f, l = [a, b, c, d, e, f] := by
  match l, h with
  | [a, b, c, d, e, f], _ => exact ⟨a, b, c, d, e, f, rfl⟩
theorem read_bad {t : Str} (h : t.length ≤ 100000) (ok : PyData.strOk t = true) (hb : ∀ h m o, InS h m o → t ≠ spT h m o) : F_Span_read (.str t) = badT := by
  have sz := sz_of h
  by_cases l : (Txt.split t sp).length = 6
  · obtain ⟨a, b, c, d, e, f, hW⟩ := six l
    have hs := sz.2.2
    have hs' : ∀ w ∈ Txt.split t sp, w.length ≤ sizeLine := hs
    rw [hW] at hs'
    obtain ⟨x, ha, nx⟩ := q_num a (hs' a (by simp))
    obtain ⟨y, hc, ny⟩ := q_num c (hs' c (by simp))
    obtain ⟨z, he, nz⟩ := q_num e (hs' e (by simp))
    rcases read_W sz hW (fun w hw => ok_split ok hw) ha hc he (num_or nx) (num_or ny) (num_or nz) with r | ⟨h, o, m, rfl, rfl, rfl, e1, e2, e3, k, _⟩
    · exact r.1
    · refine absurd ?_ (hb h m o k)
      rw [← StrLaws.join_split t sp, hW, num_txt nx, num_txt ny, num_txt nz, e1, e2, e3]
      exact sp_join _ _ _
  · exact read_len sz l
def odds : List Str := ["", "+1", "01", "-0", "9999", "halve", "x"]
def chkN (n : Int) : Bool := !(TL.tl (txt n)).contains 32 && (match F_number_in (.str (txt n)) with | .ok (.int k) => decide (k = n) | _ => false) && odds.all fun w => !(decide (txt n = w))
theorem chk_all : ∀ k : Fin 121, chkN ((k.val : Int) - 60) = true := by decide +kernel
theorem chk_n {n : Int} (h : -60 ≤ n ∧ n ≤ 60) : 32 ∉ TL.tl (txt n) ∧ F_number_in (.str (txt n)) = .ok (.int n) ∧ ∀ w ∈ odds, txt n ≠ w := by
  have z := chk_all ⟨(n + 60).toNat, by omega⟩
  rw [show (((n + 60).toNat : Nat) : Int) - 60 = n by omega] at z
  unfold chkN at z
  rw [Bool.and_eq_true, Bool.and_eq_true] at z
  obtain ⟨⟨z1, z2⟩, z3⟩ := z
  refine ⟨fun q => ?_, ?_, fun w hw q => ?_⟩
  · rw [List.contains_iff_mem.mpr q] at z1
    cases z1
  · split at z2
    · rename_i k e
      rw [e, of_decide_eq_true z2]
    · cases z2
  · have := List.all_eq_true.mp z3 w hw
    rw [decide_eq_true q] at this
    cases this
theorem InS.all {h m o : Int} (k : InS h m o) : (-60 ≤ h ∧ h ≤ 60) ∧ (-60 ≤ m ∧ m ≤ 60) ∧ (-60 ≤ o ∧ o ≤ 60) := by
  have := k.h; have := k.m; have := k.o
  omega
def wds (h m o : Int) : List Str := [txt h, "halves", txt o, "odd", txt m, "more"]
theorem wds_join (h m o : Int) : Str.join sp (wds h m o) = spT h m o := sp_join _ _ _
theorem wds_no {h m o : Int} (k : InS h m o) : ∀ p ∈ wds h m o, 32 ∉ TL.tl p := by
  obtain ⟨a, b, c⟩ := k.all
  have z1 : 32 ∉ TL.tl ("halves" : Str) := by decide +kernel
  have z2 : 32 ∉ TL.tl ("odd" : Str) := by decide +kernel
  have z3 : 32 ∉ TL.tl ("more" : Str) := by decide +kernel
  intro p hp
  unfold wds at hp
  simp only [List.mem_cons, List.not_mem_nil, or_false] at hp
  rcases hp with rfl | rfl | rfl | rfl | rfl | rfl
  · exact (chk_n a).1
  · exact z1
  · exact (chk_n c).1
  · exact z2
  · exact (chk_n b).1
  · exact z3
theorem split_sp {h m o : Int} (k : InS h m o) : Txt.split (spT h m o) sp = wds h m o := by
  rw [← wds_join]
  exact split_of (List.cons_ne_nil _ _) (wds_no k)
theorem len_sp {h m o : Int} (k : InS h m o) : (spT h m o).length ≤ 4000 := by
  obtain ⟨p1, p2, p3⟩ := k.small
  have l1 := str_sz (sm_60 p1)
  have l2 := str_sz (sm_60 p2)
  have l3 := str_sz (sm_60 p3)
  have e1 : (" halves " : Str).length = 8 := by decide +kernel
  have e2 : (" odd " : Str).length = 5 := by decide +kernel
  have e3 : (" more" : Str).length = 5 := by decide +kernel
  unfold spT txt
  simp only [str_len2]
  omega
theorem read_ok {h m o : Int} (k : InS h m o) : F_Span_read (.str (spT h m o)) = .ok (spanD h m o) := by
  obtain ⟨a, b, c⟩ := k.all
  have sz := sz_of (Nat.le_trans (len_sp k) (by decide))
  rcases read_W sz (split_sp k) (fun w hw => ok_split (ok_spT h m o) hw) (chk_n a).2.1 (chk_n c).2.1 (chk_n b).2.1 (.inr ⟨_, rfl⟩) (.inr ⟨_, rfl⟩) (.inr ⟨_, rfl⟩) with r | ⟨_, _, _, e1, e2, e3, _, _, _, _, r⟩
  · exact absurd k (r.2 h o m rfl rfl rfl rfl rfl rfl)
  · injection e1 with e1
    injection e2 with e2
    injection e3 with e3
    subst e1; subst e2; subst e3
    exact r
end Lw
end
section
set_option Elab.async false
set_option linter.all false
set_option maxRecDepth 100000
set_option maxHeartbeats 1000000
namespace Lw
open PySem Gp L2 Gh
theorem sl_to {ws : List Str} {d : Int} (h : 0 ≤ d) : slD (.lst (ws.map D.str)) none (some d) = .ok (.lst ((ws.take d.toNat).map D.str)) := by
  have e : cutG (ws.map D.str) none (some d) = (ws.take d.toNat).map D.str := by
    unfold cutG
    have e1 : HT.sIx (ws.map D.str).length 0 none = 0 := rfl
    have e2 : HT.sIx (ws.map D.str).length (ws.map D.str).length (some d) = min d.toNat ws.length := by
      have z := HT.sIx_nat (ws.map D.str).length (ws.map D.str).length d.toNat
      rw [Int.toNat_of_nonneg h, List.length_map] at z
      rw [List.length_map]
      exact z
    rw [e1, e2, List.drop_zero, Nat.sub_zero, ← List.map_take]
    congr 1
    rcases Nat.le_total d.toNat ws.length with l | l
    · rw [Nat.min_eq_left l]
    · rw [Nat.min_eq_right l, List.take_of_length_le l, List.take_of_length_le (Nat.le_refl _)]
  show Tr.ok (D.lst (cutG (ws.map D.str) none (some d))) = _
  rw [e]
theorem sl_from {ws : List Str} {d : Int} (h : 0 ≤ d) : slD (.lst (ws.map D.str)) (some d) none = .ok (.lst ((ws.drop d.toNat).map D.str)) := by
  have e : cutG (ws.map D.str) (some d) none = (ws.drop d.toNat).map D.str := by
    unfold cutG
    have e2 : HT.sIx (ws.map D.str).length (ws.map D.str).length none = (ws.map D.str).length := rfl
    have e1 : HT.sIx (ws.map D.str).length 0 (some d) = min d.toNat ws.length := by
      have z := HT.sIx_nat (ws.map D.str).length 0 d.toNat
      rw [Int.toNat_of_nonneg h, List.length_map] at z
      rw [List.length_map]
      exact z
    rw [e1, e2, List.length_map, ← List.map_drop]
    rcases Nat.le_total d.toNat ws.length with l | l
    · rw [Nat.min_eq_left l, List.take_of_length_le (by rw [List.length_map, List.length_drop]; omega)]
    · rw [Nat.min_eq_right l, List.drop_of_length_le l, List.drop_of_length_le (Nat.le_refl _)]
      simp
  show Tr.ok (D.lst (cutG (ws.map D.str) (some d) none)) = _
  rw [e]
theorem s_addM (a b : List Str) (h : a.length + b.length ≤ 1000000) : addD (.lst (a.map D.str)) (.lst (b.map D.str)) = .ok (.lst ((a ++ b).map D.str)) := by
  rw [List.map_append]
  exact if_pos (by rw [List.length_map, List.length_map]; exact Nat.le_trans h (by decide))
theorem s_addM1 (a : List Str) (w : Str) (h : a.length + 1 ≤ 1000000) : addD (.lst (a.map D.str)) (.lst [.str w]) = .ok (.lst ((a ++ [w]).map D.str)) := s_addM a [w] h
theorem s_adds (a b : Str) (h : a.length + b.length ≤ 1000000) : addD (.str a) (.str b) = .ok (.str (a ++ b)) := if_pos (Nat.le_trans h (by decide))
def cnt (t : Str) : Nat := (TL.tl t).count 32
theorem tl_cat (a b : Str) : TL.tl (a ++ b) = TL.tl a ++ TL.tl b := Array.toList_append
theorem cnt_cat (a b : Str) : cnt (a ++ b) = cnt a + cnt b := by
  unfold cnt
  rw [tl_cat, List.count_append]
theorem cnt_joinL : ∀ l : List (List Nat), l ≠ [] → (TL.joinL [32] l).count 32 + 1 = (l.map fun w => w.count 32 + 1).sum
  | [], h => absurd rfl h
  | [x], _ => rfl
  | x :: y :: r, _ => by
    have z := cnt_joinL (y :: r) (List.cons_ne_nil _ _)
    show (x ++ ([32] ++ TL.joinL [32] (y :: r))).count 32 + 1 = (x.count 32 + 1) + ((y :: r).map fun w => w.count 32 + 1).sum
    rw [List.count_append, List.count_append, ← z]
    have : [32].count 32 = 1 := rfl
    omega
theorem cnt_join {l : List Str} (h : l ≠ []) : cnt (Str.join sp l) + 1 = (l.map fun w => cnt w + 1).sum := by
  unfold cnt
  rw [TL.tl_join, sp_tl, cnt_joinL _ (fun z => h (List.map_eq_nil_iff.mp z)), List.map_map]
  rfl
theorem cnt_zero {l : List Str} (h : ∀ p ∈ l, 32 ∉ TL.tl p) : (l.map fun w => cnt w + 1).sum = l.length := by
  induction l with
  | nil => rfl
  | cons x r ih =>
    rw [List.map_cons, List.sum_cons, ih fun p hp => h p (List.mem_cons_of_mem _ hp), List.length_cons]
    have : cnt x = 0 := List.count_eq_zero.mpr (h x (List.mem_cons_self))
    omega
theorem cnt_sp {h m o : Int} (k : InS h m o) : cnt (spT h m o) = 5 := by
  have z := cnt_join (l := wds h m o) (List.cons_ne_nil _ _)
  rw [wds_join, cnt_zero (wds_no k)] at z
  have : (wds h m o).length = 6 := rfl
  omega
theorem mem_joinL {c : Nat} {S : List Nat} : ∀ {l : List (List Nat)}, c ∈ TL.joinL S l → c ∈ S ∨ ∃ w ∈ l, c ∈ w
  | [x], h => .inr ⟨x, List.mem_cons_self, h⟩
  | x :: y :: r, h => by
    have h : c ∈ x ++ (S ++ TL.joinL S (y :: r)) := h
    rcases List.mem_append.mp h with h | h
    · exact .inr ⟨x, List.mem_cons_self, h⟩
    rcases List.mem_append.mp h with h | h
    · exact .inl h
    rcases mem_joinL h with h | ⟨w, hw, hc⟩
    · exact .inl h
    · exact .inr ⟨w, List.mem_cons_of_mem _ hw, hc⟩
theorem ok_joinS {l : List Str} (h : ∀ w ∈ l, PyData.strOk w = true) : PyData.strOk (Str.join sp l) = true := by
  rw [strOk_iff]
  intro c hc
  rw [TL.tl_join] at hc
  rcases mem_joinL hc with hc | ⟨w, hw, hc⟩
  · rw [sp_tl] at hc
    rw [List.mem_singleton.mp hc]
    decide
  · obtain ⟨v, hv, rfl⟩ := List.mem_map.mp hw
    exact (strOk_iff v).mp (h v hv) c hc
theorem ok_wds (h m o : Int) : ∀ w ∈ wds h m o, PyData.strOk w = true := fun w hw => by
  unfold wds at hw
  simp only [List.mem_cons, List.not_mem_nil, or_false] at hw
  rcases hw with rfl | rfl | rfl | rfl | rfl | rfl <;> exact ok_of _
theorem nW_wds {h m o : Int} (k : InS h m o) : nW (wds h m o) ≤ 4001 := by
  have := join_nW (wds h m o) (List.cons_ne_nil _ _)
  rw [wds_join] at this
  have := len_sp k
  omega
theorem bent_put {h m o : Int} (k : InS h m o) {n : Nat} (hn : n < 6) {w : Str} (hw : w ∈ odds ∨ 0 < cnt w) : ∀ h' m' o', InS h' m' o' → Str.join sp ((wds h m o).take n ++ [w] ++ (wds h m o).drop (n + 1)) ≠ spT h' m' o' := fun h' m' o' k' q => by
  have c := cnt_join (l := (wds h m o).take n ++ [w] ++ (wds h m o).drop (n + 1)) (by simp)
  have s1 : ((wds h m o).take n).map (fun w => cnt w + 1) = _ := rfl
  rw [q, cnt_sp k', List.map_append, List.map_append, List.sum_append, List.sum_append, cnt_zero (fun p hp => wds_no k p (List.mem_of_mem_take hp)), cnt_zero (fun p hp => wds_no k p (List.mem_of_mem_drop hp)), List.length_take, List.length_drop] at c
  have l6 : (wds h m o).length = 6 := rfl
  have e1 : ([w].map fun w => cnt w + 1).sum = cnt w + 1 := by simp
  rw [l6, e1] at c
  have c0 : cnt w = 0 := by omega
  rcases hw with hw | hw
  · have hs : ∀ p ∈ (wds h m o).take n ++ [w] ++ (wds h m o).drop (n + 1), 32 ∉ TL.tl p := fun p hp => by
      rcases List.mem_append.mp hp with hp | hp
      · rcases List.mem_append.mp hp with hp | hp
        · exact wds_no k p (List.mem_of_mem_take hp)
        · rw [List.mem_singleton.mp hp]
          exact List.count_eq_zero.mp c0
      · exact wds_no k p (List.mem_of_mem_drop hp)
    have e := split_of (by simp) hs
    rw [q, split_sp k'] at e
    have hm : w ∈ wds h' m' o' := by rw [e]; simp
    obtain ⟨a, b, c⟩ := k'.all
    have od : ∀ x ∈ odds, x ≠ "halves" ∧ x ≠ "odd" ∧ x ≠ "more" := by decide +kernel
    obtain ⟨z1, z2, z3⟩ := od w hw
    unfold wds at hm
    simp only [List.mem_cons, List.not_mem_nil, or_false] at hm
    rcases hm with hm | hm | hm | hm | hm | hm
    · exact (chk_n a).2.2 w hw hm.symm
    · exact z1 hm
    · exact (chk_n c).2.2 w hw hm.symm
    · exact z2 hm
    · exact (chk_n b).2.2 w hw hm.symm
    · exact z3 hm
  · omega
theorem bent_cut {h m o : Int} (k : InS h m o) {n : Nat} (hn : n < 6) : ∀ h' m' o', InS h' m' o' → Str.join sp ((wds h m o).take n ++ (wds h m o).drop (n + 1)) ≠ spT h' m' o' := fun h' m' o' k' q => by
  have l6 : (wds h m o).length = 6 := rfl
  have c := cnt_join (l := (wds h m o).take n ++ (wds h m o).drop (n + 1)) (fun z => by
    have := congrArg List.length z
    rw [List.length_append, List.length_take, List.length_drop, l6, List.length_nil] at this
    omega)
  rw [q, cnt_sp k', List.map_append, List.sum_append, cnt_zero (fun p hp => wds_no k p (List.mem_of_mem_take hp)), cnt_zero (fun p hp => wds_no k p (List.mem_of_mem_drop hp)), List.length_take, List.length_drop, l6] at c
  omega
theorem bent_cnt {t : Str} (ht : cnt t ≠ 5) : ∀ h' m' o', InS h' m' o' → t ≠ spT h' m' o' := fun h' m' o' k' q => by
  rw [q, cnt_sp k'] at ht
  exact ht rfl
end Lw
end
section
set_option Elab.async false
set_option linter.all false
set_option maxRecDepth 100000
set_option maxHeartbeats 1000000
namespace Lw
open PySem Gp L2 Gh
theorem s_forAll {L : Type} {f : D → Unit → Tr (Fl Unit Unit)} : ∀ {ds : List D}, (∀ d ∈ ds, f d () = .ok (.nx ())) → forF (L := L) f ds () = .ok (.nx ())
  | [], _ => rfl
  | d :: r, h => by
    rw [forF_cons, h d List.mem_cons_self, s_bd]
    exact s_forAll fun x hx => h x (List.mem_cons_of_mem _ hx)
theorem sp_eq (a b c x y z : Int) : eqD (.tup [.int a, .int b, .int c]) (.tup [.int x, .int y, .int z]) = .ok (.bl (decide (a = x ∧ b = y ∧ c = z))) := by
  have e2 : eqB (.tup [.int a, .int b, .int c]) (.tup [.int x, .int y, .int z]) = .ok (decide (a = x ∧ b = y ∧ c = z)) := by
    unfold eqB
    rw [show eqS (.tup [.int a, .int b, .int c]) (.tup [.int x, .int y, .int z]) = none from rfl]
    dsimp only
    have e : ∀ a b c : Int, toPy (.tup [.int a, .int b, .int c]) = some (.tuple [.int a, .int b, .int c]) := fun _ _ _ => rfl
    rw [e, e]
    dsimp only
    have sh : ∀ a b c : Int, SeqAt.shaped (.tuple [.int a, .int b, .int c]) = true := fun a b c => by
      simp [SeqAt.shaped, PyData.canLay0, PyData.canLayAll0, PyData.depth, PyData.depthAll]
    rw [if_pos ⟨sh _ _ _, sh _ _ _⟩]
    simp only [PyData.eqv, PyData.eqvAll]
    by_cases q1 : a = x <;> by_cases q2 : b = y <;> by_cases q3 : c = z <;> simp [q1, q2, q3]
  unfold eqD
  rw [e2]
  rfl
theorem q_eqS (a b c x y z : Int) : F_Span___eq__ (spanD a b c) (spanD x y z) = .ok (.bl (decide (a = x ∧ b = y ∧ c = z))) := by
  have ii : isi_Span (spanD x y z) = some true := rfl
  have f1 : ∀ a b c : Int, fldD "Span" "own_parts" (spanD a b c) = .ok (.tup [.int a, .int b, .int c]) := fun _ _ _ => rfl
  rw [lz_Span___eq__]
  unfold L_Span___eq__
  simp -implicitDefEqProofs -dsimp only [implies_true, isS_str, s_bd, ↓k_bd, k_bd, k_bdx, k_bdd, s_nox, k_bdF, k_bdFr, k_bdFx, s_finr, s_finn, s_find, k_bdFd, ↓reduceIte, s_asB, s_asI, s_ul1, s_ul2, s_ul3, s_sub, s_add, s_neg, s_eq, s_len, s_itl, s_itt, s_opt, List.length_cons, List.length_nil, s_un2t, decide_true, decide_false, Bool.not_true, Bool.not_false, if_true, if_false, Bool.false_eq_true, Nat.reduceAdd, z1L, z2L, z3L, z4L, z1l, q_draw, q_mkk, s_ix0, s_ix1, s_ix2, s_rg3, q_faultI, isN_dF, s_addL31, ii, f1, sp_eq]
theorem q_eqN {d : D} (h : isi_Span d = some false) (a b c : Int) : F_Span___eq__ (spanD a b c) d = .ok (.bl false) := by
  rw [lz_Span___eq__]
  unfold L_Span___eq__
  simp -implicitDefEqProofs -dsimp only [implies_true, isS_str, s_bd, ↓k_bd, k_bd, k_bdx, k_bdd, s_nox, k_bdF, k_bdFr, k_bdFx, s_finr, s_finn, s_find, k_bdFd, ↓reduceIte, s_asB, s_asI, s_ul1, s_ul2, s_ul3, s_sub, s_add, s_neg, s_eq, s_len, s_itl, s_itt, s_opt, List.length_cons, List.length_nil, s_un2t, decide_true, decide_false, Bool.not_true, Bool.not_false, if_true, if_false, Bool.false_eq_true, Nat.reduceAdd, z1L, z2L, z3L, z4L, z1l, q_draw, q_mkk, s_ix0, s_ix1, s_ix2, s_rg3, q_faultI, isN_dF, s_addL31, h]
theorem s_eqO {d : D} (h : eqr_Span d = true) (F : List D → Tr D) (a b c : Int) : eqO "Span" eqr_Span F (spanD a b c) d = F [spanD a b c, d] := by
  unfold eqO
  rw [is_span, if_pos h]
theorem s_neO {d : D} (h : eqr_Span d = true) (F : List D → Tr D) (a b c : Int) : neO "Span" eqr_Span F (spanD a b c) d = bd (bd (F [spanD a b c, d]) asB) fun k => .ok (.bl (!k)) := by
  unfold neO
  rw [is_span, if_pos h]
theorem heard_bad : F__law_heard badT = .ok (.tup [.str "text", .int 0, .int 0]) := heard_text 0 0
theorem ne_text : neD (.tup [.str "text", .int 0, .int 0]) (.tup [.str "text", .int 0, .int 0]) = .ok (.bl false) := by
  have e : toPy (.tup [.str "text", .int 0, .int 0]) = some (.tuple [.str "text", .int 0, .int 0]) := rfl
  have e2 : eqB (.tup [.str "text", .int 0, .int 0]) (.tup [.str "text", .int 0, .int 0]) = .ok true := by
    unfold eqB
    rw [show eqS (.tup [.str "text", .int 0, .int 0]) (.tup [.str "text", .int 0, .int 0]) = none from rfl]
    dsimp only
    rw [e]
    dsimp only
    have sh : SeqAt.shaped (.tuple [.str "text", .int 0, .int 0]) = true := by
      simp [SeqAt.shaped, PyData.canLay0, PyData.canLayAll0, PyData.depth, PyData.depthAll, ok_of]
    rw [if_pos ⟨sh, sh⟩]
    simp [PyData.eqv, PyData.eqvAll]
  unfold neD
  rw [e2]
  rfl
def OddP (d : D) : Prop := ∃ w, d = .str w ∧ (w ∈ odds ∨ 0 < cnt w) ∧ PyData.strOk w = true ∧ w.length ≤ 10
def oddB : D → Bool
  | .str w => decide (w ∈ odds ∨ 0 < cnt w) && PyData.strOk w && decide (w.length ≤ 10)
  | _ => false
theorem odd_of {ds : List D} (h : ds.all oddB = true) : ∀ d ∈ ds, OddP d := fun d hd => by
  have z := List.all_eq_true.mp h d hd
  cases d with
  | str w =>
    unfold oddB at z
    dsimp only at z
    rw [Bool.and_eq_true, Bool.and_eq_true] at z
    exact ⟨w, rfl, of_decide_eq_true z.1.1, z.1.2, of_decide_eq_true z.2⟩
  | _ => cases z
theorem s_L22 (a b c d : D) : addD (.lst [a, b]) (.lst [c, d]) = .ok (.lst [a, b, c, d]) := if_pos (c := 4 ≤ sizeLine) (e := Tr.bad) (by decide)
theorem s_L47 (a b c d e f g h i j k : D) : addD (.lst [a, b, c, d]) (.lst [e, f, g, h, i, j, k]) = .ok (.lst [a, b, c, d, e, f, g, h, i, j, k]) := if_pos (c := 11 ≤ sizeLine) (e := Tr.bad) (by decide)
theorem read_right {h m o : Int} (k : InS h m o) : Bx (· = .bl true) (F__law_read_right .pen (.str (spT h m o)) (spanD h m o)) 2 := by
  have ne1 : neO "Span" eqr_Span (ul2 F_Span___eq__) (spanD h m o) (spanD h m o) = .ok (.bl false) := by
    rw [s_neO rfl, s_ul2, q_eqS, decide_eq_true ⟨rfl, rfl, rfl⟩]
    rfl
  have qs : splitD (.str (spT h m o)) (.str " ") = .ok (.lst ((wds h m o).map D.str)) := by
    rw [← split_sp k]
    exact q_split (sz_of (Nat.le_trans (len_sp k) (by decide)))
  have z9 : (9 ≤ sizeLine) = True := eq_true (by decide)
  have z7 : (7 ≤ sizeLine) = True := eq_true (by decide)
  rw [lz__law_read_right]
  unfold L__law_read_right
  simp -implicitDefEqProofs -dsimp only [implies_true, isS_str, s_bd, ↓k_bd, k_bd, k_bdx, k_bdd, s_nox, k_bdF, k_bdFr, k_bdFx, s_finr, s_finn, s_find, k_bdFd, ↓reduceIte, s_asB, s_asI, s_ul1, s_ul2, s_ul3, s_sub, s_add, s_neg, s_eq, s_len, s_itl, s_itt, s_opt, List.length_cons, List.length_nil, s_un2t, decide_true, decide_false, Bool.not_true, Bool.not_false, if_true, if_false, Bool.false_eq_true, Nat.reduceAdd, z1L, z2L, z3L, z4L, z1l, q_draw, q_mkk, s_ix0, s_ix1, s_ix2, s_rg3, q_faultI, isN_dF, s_addL31, read_ok k, ne1, isS_str, qs, z9, z7]
  refine bx_draw (by decide) (by decide) fun at' a0 a1 => ?_
  rw [k_finbd]
  refine bk_thenB (b := 0) (b_pick (P := OddP) (by decide) (by decide) (odd_of (by decide +kernel))) (fun d hd => ?_) (by decide)
  obtain ⟨w, rfl, hw, okw, lw⟩ := hd
  obtain ⟨n, rfl⟩ : ∃ n : Nat, at' = n := ⟨at'.toNat, by omega⟩
  have hn : n < 6 := by omega
  have l6 : (wds h m o).length = 6 := rfl
  have nw := nW_wds k
  have lsp := len_sp k
  have ls : (" " : Str).length = 1 := by decide +kernel
  have ls1 : (" 1" : Str).length = 2 := by decide +kernel
  have cut := nW_cut (wds h m o) (show n ≤ n + 1 by omega)
  have nw1 : nW [w] = w.length + 1 := rfl
  have j1 := q_join (l := (wds h m o).take n ++ [w] ++ (wds h m o).drop (n + 1)) (by rw [nW_app, nW_app, nw1]; omega)
  have j2 := q_join (l := (wds h m o).take n ++ (wds h m o).drop (n + 1)) (by rw [nW_app]; omega)
  have t1 : ((n : Int)).toNat = n := rfl
  have t2 : ((n : Int) + 1).toNat = n + 1 := by omega
  have lt : ((wds h m o).take n).length ≤ 6 := by rw [List.length_take]; omega
  have ld : ((wds h m o).drop (n + 1)).length ≤ 6 := by rw [List.length_drop]; omega
  have lz1 : ((wds h m o).take n ++ [w]).length ≤ 7 := by rw [List.length_append]; simp; omega
  have o1 := ok_joinS (l := (wds h m o).take n ++ [w] ++ (wds h m o).drop (n + 1)) (fun x hx => by
    rcases List.mem_append.mp hx with hx | hx
    · rcases List.mem_append.mp hx with hx | hx
      · exact ok_wds h m o x (List.mem_of_mem_take hx)
      · rw [List.mem_singleton.mp hx]
        exact okw
    · exact ok_wds h m o x (List.mem_of_mem_drop hx))
  have o2 := ok_joinS (l := (wds h m o).take n ++ (wds h m o).drop (n + 1)) (fun x hx => by
    rcases List.mem_append.mp hx with hx | hx
    · exact ok_wds h m o x (List.mem_of_mem_take hx)
    · exact ok_wds h m o x (List.mem_of_mem_drop hx))
  have jl : ∀ l : List Str, (Str.join sp l).length ≤ nW l := fun l => by
    have j := StrLaws.join_length_le sp l
    rw [show sp.length = 1 by decide +kernel, Nat.mul_one, nW_eq] at j
    exact j
  have b1 := read_bad (Nat.le_trans (jl _) (by rw [nW_app, nW_app, nw1]; omega)) o1 (bent_put k hn hw)
  have b2 := read_bad (Nat.le_trans (jl _) (by rw [nW_app]; omega)) o2 (bent_cut k hn)
  have cs := cnt_sp k
  have c1 : cnt (" " : Str) = 1 := by decide +kernel
  have c2 : cnt (" 1" : Str) = 1 := by decide +kernel
  have c0 : cnt ("" : Str) = 0 := by decide +kernel
  have b3 : F_Span_read (.str (spT h m o ++ " ")) = badT := read_bad (by rw [str_len2, ls]; omega) (ok_cat _ _ (ok_spT h m o) (ok_of _)) (bent_cnt (by rw [cnt_cat, c1, cs]; decide))
  have b4 : F_Span_read (.str (" " ++ spT h m o)) = badT := read_bad (by rw [str_len2, ls]; omega) (ok_cat _ _ (ok_of _) (ok_spT h m o)) (bent_cnt (by rw [cnt_cat, c1, cs]; decide))
  have b5 : F_Span_read (.str (spT h m o ++ " 1")) = badT := read_bad (by rw [str_len2, ls1]; omega) (ok_cat _ _ (ok_spT h m o) (ok_of _)) (bent_cnt (by rw [cnt_cat, c2, cs]; decide))
  have b6 : F_Span_read (.str "") = badT := read_bad (by decide +kernel) (ok_of _) (bent_cnt (by rw [c0]; decide))
  have e1 : addD (.str (spT h m o)) (.str " ") = .ok (.str (spT h m o ++ " ")) := s_adds _ _ (by rw [ls]; omega)
  have e2 : addD (.str " ") (.str (spT h m o)) = .ok (.str (" " ++ spT h m o)) := s_adds _ _ (by rw [ls]; omega)
  have e3 : addD (.str (spT h m o)) (.str " 1") = .ok (.str (spT h m o ++ " 1")) := s_adds _ _ (by rw [ls1]; omega)
  simp -implicitDefEqProofs -dsimp only [implies_true, isS_str, s_bd, ↓k_bd, k_bd, k_bdx, k_bdd, s_nox, k_bdF, k_bdFr, k_bdFx, s_finr, s_finn, s_find, k_bdFd, ↓reduceIte, s_asB, s_asI, s_ul1, s_ul2, s_ul3, s_sub, s_add, s_neg, s_eq, s_len, s_itl, s_itt, s_opt, List.length_cons, List.length_nil, s_un2t, decide_true, decide_false, Bool.not_true, Bool.not_false, if_true, if_false, Bool.false_eq_true, Nat.reduceAdd, z1L, z2L, z3L, z4L, z1l, q_draw, q_mkk, s_ix0, s_ix1, s_ix2, s_rg3, q_faultI, isN_dF, s_addL31, z7, sl_to (ws := wds h m o) (d := (n : Int)) (by omega), sl_from (ws := wds h m o) (d := (n : Int) + 1) (by omega), t1, t2, s_addM1 ((wds h m o).take n) w (by omega), s_addM ((wds h m o).take n ++ [w]) ((wds h m o).drop (n + 1)) (by omega), s_addM ((wds h m o).take n) ((wds h m o).drop (n + 1)) (by omega), show joinD (.str " ") _ = _ from j1, show joinD (.str " ") _ = _ from j2, e1, e2, e3, s_L22, s_L47]
  rw [k_for, s_forAll ?hf]
  case hf =>
    intro d hd
    have hb : F_Span_read d = badT := by
      simp only [List.mem_cons, List.not_mem_nil, or_false] at hd
      rcases hd with rfl | rfl | rfl | rfl | rfl | rfl | rfl | rfl | rfl | rfl | rfl
      · exact b1
      · exact b2
      · exact b3
      · exact b4
      · exact b5
      · exact b6
      all_goals exact read_non rfl
    simp -implicitDefEqProofs -dsimp only [implies_true, isS_str, s_bd, ↓k_bd, k_bd, k_bdx, k_bdd, s_nox, k_bdF, k_bdFr, k_bdFx, s_finr, s_finn, s_find, k_bdFd, ↓reduceIte, s_asB, s_asI, s_ul1, s_ul2, s_ul3, s_sub, s_add, s_neg, s_eq, s_len, s_itl, s_itt, s_opt, List.length_cons, List.length_nil, s_un2t, decide_true, decide_false, Bool.not_true, Bool.not_false, if_true, if_false, Bool.false_eq_true, Nat.reduceAdd, z1L, z2L, z3L, z4L, z1l, q_draw, q_mkk, s_ix0, s_ix1, s_ix2, s_rg3, q_faultI, isN_dF, s_addL31, hb, heard_bad, ne_text]
  exact bx_ok rfl
end Lw
end
section
set_option Elab.async false
set_option linter.all false
set_option maxRecDepth 100000
set_option maxHeartbeats 1000000
namespace Lw
open PySem Gp L2 Gh
theorem b_part {a b : Int} (h : a < b) (hb : b < 1000) (ha : -1000 < a) : Bx Prt (F__law_part .pen (.int a) (.int b)) 3 := by
  have z0 : (0 ≤ sizeLine) = True := eq_true (by decide)
  have z5 : (5 ≤ sizeLine) = True := eq_true (by decide)
  have z11 : (11 ≤ sizeLine) = True := eq_true (by decide)
  rw [lz__law_part]
  unfold L__law_part
  simp -implicitDefEqProofs -dsimp only [implies_true, isS_str, s_bd, ↓k_bd, k_bd, k_bdx, k_bdd, s_nox, k_bdF, k_bdFr, k_bdFx, s_finr, s_finn, s_find, k_bdFd, ↓reduceIte, s_asB, s_asI, s_ul1, s_ul2, s_ul3, s_sub, s_add, s_neg, s_eq, s_len, s_itl, s_itt, s_opt, List.length_cons, List.length_nil, s_un2t, decide_true, decide_false, Bool.not_true, Bool.not_false, if_true, if_false, Bool.false_eq_true, Nat.reduceAdd, z1L, z2L, z3L, z4L, z1l, q_draw, q_mkk, s_ix0, s_ix1, s_ix2, s_rg3, q_faultI, isN_dF, s_addL31, s_gt]
  refine bx_draw (by decide) (by decide) fun x x0 x1 => ?_
  by_cases c : 0 < x
  · simp -implicitDefEqProofs -dsimp only [implies_true, isS_str, s_bd, ↓k_bd, k_bd, k_bdx, k_bdd, s_nox, k_bdF, k_bdFr, k_bdFx, s_finr, s_finn, s_find, k_bdFd, ↓reduceIte, s_asB, s_asI, s_ul1, s_ul2, s_ul3, s_sub, s_add, s_neg, s_eq, s_len, s_itl, s_itt, s_opt, List.length_cons, List.length_nil, s_un2t, decide_true, decide_false, Bool.not_true, Bool.not_false, if_true, if_false, Bool.false_eq_true, Nat.reduceAdd, z1L, z2L, z3L, z4L, z1l, q_draw, q_mkk, s_ix0, s_ix1, s_ix2, s_rg3, q_faultI, isN_dF, s_addL31, c, z5]
    refine bx_draw (by omega) (by omega) fun y y0 y1 => ?_
    rw [k_bdFbd, k_finbd]
    refine bk_thenB (b := 0) (b_pick (P := Prt) (by simp) (by simp) (fun d hd => ?_)) (fun d hd => bx_ok hd) (by decide)
    simp only [List.mem_cons, List.not_mem_nil, or_false] at hd
    rcases hd with rfl | rfl | rfl | rfl | rfl <;> exact .int _
  · simp -implicitDefEqProofs -dsimp only [implies_true, isS_str, s_bd, ↓k_bd, k_bd, k_bdx, k_bdd, s_nox, k_bdF, k_bdFr, k_bdFx, s_finr, s_finn, s_find, k_bdFd, ↓reduceIte, s_asB, s_asI, s_ul1, s_ul2, s_ul3, s_sub, s_add, s_neg, s_eq, s_len, s_itl, s_itt, s_opt, List.length_cons, List.length_nil, s_un2t, decide_true, decide_false, Bool.not_true, Bool.not_false, if_true, if_false, Bool.false_eq_true, Nat.reduceAdd, z1L, z2L, z3L, z4L, z1l, q_draw, q_mkk, s_ix0, s_ix1, s_ix2, s_rg3, q_faultI, isN_dF, s_addL31, c, z0, z11]
    rw [k_finbd]
    refine bk_thenB (b := 0) (b_pick (P := Prt) (by simp) (by simp) (fun d hd => ?_)) (fun d hd => bx_ok hd) (by decide)
    simp only [List.mem_cons, List.not_mem_nil, or_false] at hd
    rcases hd with rfl | rfl | rfl | rfl | rfl | rfl | rfl | rfl | rfl | rfl | rfl <;> constructor
end Lw
end
section
set_option Elab.async false
set_option linter.all false
set_option maxRecDepth 100000
set_option maxHeartbeats 1000000
namespace Lw
open PySem Gp L2 Gh
theorem q_faultP {h m o : D} (p1 : Prt h) (p2 : Prt m) (p3 : Prt o) : F__law_fault h m o = .ok (dF (faultS h m o)) := by
  rw [q_fault p1 p2 p3]
  rfl
theorem fault_okP {h m o : D} {x : Str} (e : faultS h m o = some x) : PyData.strOk x = true := by
  unfold faultS at e
  split at e
  · split at e
    · split at e
      · cases e
      · rw [← Option.some.inj e]; exact ok_of _
    · rw [← Option.some.inj e]; exact ok_of _
  · rw [← Option.some.inj e]; exact ok_of _
theorem within_i {d : D} {a b : Int} (h : within d a b = true) : ∃ i : Int, d = .int i ∧ a ≤ i ∧ i ≤ b := by
  cases d with
  | int i => exact ⟨i, rfl, of_decide_eq_true h⟩
  | _ => cases h
theorem fault_ints {h m o : D} (e : faultS h m o = none) : ∃ i j k : Int, h = .int i ∧ m = .int j ∧ o = .int k ∧ InS i j k := by
  unfold faultS at e
  split at e
  · split at e
    · split at e
      · rename_i a b c
        obtain ⟨i, rfl, hi⟩ := within_i a
        obtain ⟨j, rfl, hj⟩ := within_i b
        obtain ⟨k, rfl, hk⟩ := within_i c
        exact ⟨i, j, k, rfl, rfl, rfl, hi, hj, hk⟩
      · cases e
    · cases e
  · cases e
theorem q_initB {h m o : D} (p1 : Prt h) (p2 : Prt m) (p3 : Prt o) {x : Str} (e : faultS h m o = some x) : F_Span___init__ [] h m o = .ex "BadSpan" [("part", .str x)] := by
  rw [q_init p1 p2 p3, e]
theorem ne_sp {x : Str} (h : PyData.strOk x = true) : neD (.tup [.str "span", .str x]) (.tup [.str "span", .str x]) = .ok (.bl false) := ne_of_eq (eq_two (ok_of _) h)
theorem ne_S4 (h m o : Int) : neD (.tup [.str "told", .lst [.int h, .int m, .int o, .str (spT h m o)]]) (.tup [.str "told", .lst [.int h, .int m, .int o, .str (spT h m o)]]) = .ok (.bl false) := ne_of_eq (eq_told (ok_spT h m o) h m o)
def KW (l_more29 l_k141 : D) : Tr (Fl Unit Unit) := (bdk (bdk (bdk (bdk (bdk (bdk (bdk (.ok l_k141) fun v154 => (bdk (bdk (.ok (.int 0)) fun v152 => (bdk (bdk (.ok (.int 0)) fun v150 => (bdk (.ok []) fun r151 => .ok (v150 :: r151))) fun r153 => .ok (v152 :: r153))) fun r155 => .ok (v154 :: r155))) (ul3 F__law_fault)) fun (v156 : D) => (bdk (.ok .non) fun (v157 : D) => (match v157 with | .non => .ok (.bl (!isN v156)) | _ => .bad))) asB) fun k => if k = true then .ok true else (bdk (bdk (.ok l_k141) fun v158 => (bdk (.ok (.int 4)) fun v159 => gtD v158 v159)) asB)) fun k => if k = true then (.ok (.str "halves")) else (bdk (bdk (.ok (.int 0)) fun v164 => (bdk (bdk (.ok l_more29) fun v162 => (bdk (bdk (.ok (.int 0)) fun v160 => (bdk (.ok []) fun r161 => .ok (v160 :: r161))) fun r163 => .ok (v162 :: r163))) fun r165 => .ok (v164 :: r165))) (ul3 F__law_fault))) fun l_fault_here148 => (bdk (nox (F__law_heard (bdk (bdk (bdk (bdk (.ok l_k141) fun v169 => (bdk (bdk (.ok l_more29) fun v167 => (bdk (.ok []) fun r168 => .ok (v167 :: r168))) fun r170 => .ok (v169 :: r170))) (ul2 F_Span_whole)) fun v171 => (bdk (.ok []) fun r172 => .ok (v171 :: r172))) (ul1 F__law_told)))) fun l_heard_here165 => (bdFk (W' := Unit) (bdk (bdk (bdk (.ok l_heard_here165) fun v201 => (bdk (bdk (bdk (bdk (.ok l_fault_here148) fun (v173 : D) => (bdk (.ok .non) fun (v174 : D) => (match v174 with | .non => .ok (.bl (isN v173)) | _ => .bad))) asB) fun k => if k = true then (bdk (bdk (.ok (.str "told")) fun v195 => (bdk (bdk (bdk (bdk (bdk (.ok (.int 2)) fun v175 => (bdk (.ok l_k141) fun v176 => mulD v175 v176)) fun v191 => (bdk (bdk (.ok l_more29) fun v189 => (bdk (bdk (.ok l_k141) fun v187 => (bdk (bdk (bdk (bdk (bdk (.ok (.int 2)) fun v177 => (bdk (.ok l_k141) fun v178 => mulD v177 v178)) fun v183 => (bdk (bdk (.ok l_more29) fun v181 => (bdk (bdk (.ok l_k141) fun v179 => (bdk (.ok []) fun r180 => .ok (v179 :: r180))) fun r182 => .ok (v181 :: r182))) fun r184 => .ok (v183 :: r184))) (ul3 F__law_text)) fun v185 => (bdk (.ok []) fun r186 => .ok (v185 :: r186))) fun r188 => .ok (v187 :: r188))) fun r190 => .ok (v189 :: r190))) fun r192 => .ok (v191 :: r192))) fun ds => if ds.length ≤ sizeLine then .ok (.lst ds) else .bad) fun v193 => (bdk (.ok []) fun r194 => .ok (v193 :: r194))) fun r196 => .ok (v195 :: r196))) fun ds => if ds.length ≤ sizeLine then .ok (.tup ds) else .bad) else (bdk (bdk (.ok (.str "span")) fun v199 => (bdk (bdk (.ok l_fault_here148) fun v197 => (bdk (.ok []) fun r198 => .ok (v197 :: r198))) fun r200 => .ok (v199 :: r200))) fun ds => if ds.length ≤ sizeLine then .ok (.tup ds) else .bad)) fun v202 => neD v201 v202)) asB) fun k => if k = true then (bdk (.ok (.bl false)) fun d => .ok (.rt d)) else (.ok (.nx ()))) fun (w203 : Unit) => (.ok (.nx ())))))
theorem whole_bx {m : D} (hK : ∀ k, Prt k → KW m k = .ok (.nx ())) : Bx (fun r : Fl Unit Unit => r = .nx ()) (bdk (F__law_part .pen (.int 0) (.int 4)) fun k => KW m k) 3 :=
  bk_then (b := 0) (b_part (a := 0) (b := 4) (by decide) (by decide) (by decide)) (fun k hk => by rw [hK k hk]; exact bx_ok rfl) (by decide)
theorem fault_k {k : D} : faultS k (.int 0) (.int 0) = if within k 0 8 = true then none else some ("halves" : Str) := by
  unfold faultS
  rw [show within (.int 0) (-60) 60 = true from rfl, show within (.int 0) (-9) 9 = true from rfl, if_pos rfl, if_pos rfl]
theorem fault_m {m : D} : faultS (.int 0) m (.int 0) = if within m (-60) 60 = true then none else some ("more" : Str) := by
  unfold faultS
  rw [show within (.int 0) 0 8 = true from rfl, show within (.int 0) (-9) 9 = true from rfl, if_pos rfl, if_pos rfl]
theorem fault_2k {k : Int} {m : D} (h : 0 ≤ k ∧ k ≤ 4) : faultS (.int (2 * k)) m (.int k) = if within m (-60) 60 = true then none else some ("more" : Str) := by
  unfold faultS
  rw [show within (.int (2 * k)) 0 8 = true from decide_eq_true (by omega), show within (.int k) (-9) 9 = true from decide_eq_true (by omega), if_pos rfl, if_pos rfl]
theorem q_wholeB {l m : D} (pl : Prt l) (w : within l 0 4 = false) : F_Span_whole l m = .ex "BadSpan" [("part", .str "halves")] := by
  rw [lz_Span_whole]
  unfold L_Span_whole
  simp -implicitDefEqProofs -dsimp only [implies_true, s_bdx, s_bd, ↓k_bd, k_bd, k_bdx, k_bdd, s_nox, k_bdF, k_bdFr, k_bdFx, s_finr, s_finn, s_find, k_bdFd, ↓reduceIte, s_asB, s_asI, s_ul1, s_ul2, s_ul3, s_sub, s_add, s_neg, s_eq, s_len, s_itl, s_itt, s_opt, List.length_cons, List.length_nil, s_un2t, decide_true, decide_false, Bool.not_true, Bool.not_false, if_true, if_false, Bool.false_eq_true, Nat.reduceAdd, z1L, z2L, z3L, z4L, z1l, q_draw, q_mkk, s_ix0, s_ix1, s_ix2, s_rg3, q_faultI, isN_dF, s_addL31, q_within pl, w]
  rfl
theorem q_wholeI {k : Int} {m : D} (w : 0 ≤ k ∧ k ≤ 4) : F_Span_whole (.int k) m = bd (F_Span___init__ [] (.int (2 * k)) m (.int k)) fun fs => .ok (.obj "Span" fs) := by
  have w' : within (.int k) 0 4 = true := decide_eq_true w
  have e : mulD (.int 2) (.int k) = .ok (.int (2 * k)) := s_mul (.inl (by decide))
  rw [lz_Span_whole]
  unfold L_Span_whole
  simp -implicitDefEqProofs -dsimp only [implies_true, s_bdx, s_bd, ↓k_bd, k_bd, k_bdx, k_bdd, s_nox, k_bdF, k_bdFr, k_bdFx, s_finr, s_finn, s_find, k_bdFd, ↓reduceIte, s_asB, s_asI, s_ul1, s_ul2, s_ul3, s_sub, s_add, s_neg, s_eq, s_len, s_itl, s_itt, s_opt, List.length_cons, List.length_nil, s_un2t, decide_true, decide_false, Bool.not_true, Bool.not_false, if_true, if_false, Bool.false_eq_true, Nat.reduceAdd, z1L, z2L, z3L, z4L, z1l, q_draw, q_mkk, s_ix0, s_ix1, s_ix2, s_rg3, q_faultI, isN_dF, s_addL31, q_within (.int k), w', e]
  exact s_fin_id _
theorem s_gtI (i j : Int) : gtD (.int i) (.int j) = .ok (.bl (decide (j < i))) := rfl
theorem whole_k {m l : D} (pm : Prt m) (pl : Prt l) : KW m l = .ok (.nx ()) := by
  unfold KW
  have f1 := q_faultP pl (.int 0) (.int 0)
  have f2 := q_faultP (.int 0) pm (.int 0)
  rw [fault_k] at f1
  rw [fault_m] at f2
  cases w : within l 0 4 with
  | false =>
    have hb := q_wholeB (m := m) pl w
    have nh : neD (.tup [.str "span", .str "halves"]) (.tup [.str "span", .str "halves"]) = .ok (.bl false) := ne_sp (ok_of _)
    cases w8 : within l 0 8 with
    | false =>
      rw [w8] at f1
      simp -implicitDefEqProofs -dsimp only [implies_true, s_bdx, s_bd, ↓k_bd, k_bd, k_bdx, k_bdd, s_nox, k_bdF, k_bdFr, k_bdFx, s_finr, s_finn, s_find, k_bdFd, ↓reduceIte, s_asB, s_asI, s_ul1, s_ul2, s_ul3, s_sub, s_add, s_neg, s_eq, s_len, s_itl, s_itt, s_opt, List.length_cons, List.length_nil, s_un2t, decide_true, decide_false, Bool.not_true, Bool.not_false, if_true, if_false, Bool.false_eq_true, Nat.reduceAdd, z1L, z2L, z3L, z4L, z1l, q_draw, q_mkk, s_ix0, s_ix1, s_ix2, s_rg3, q_faultI, isN_dF, s_addL31, f1, dF, isN_str, hb, heard_span, nh]
    | true =>
      rw [w8] at f1
      obtain ⟨k, rfl, k0, k8⟩ := within_i w8
      have k4 : (4 < k) := by
        have : ¬ (0 ≤ k ∧ k ≤ 4) := of_decide_eq_false w
        omega
      simp -implicitDefEqProofs -dsimp only [implies_true, s_bdx, s_bd, ↓k_bd, k_bd, k_bdx, k_bdd, s_nox, k_bdF, k_bdFr, k_bdFx, s_finr, s_finn, s_find, k_bdFd, ↓reduceIte, s_asB, s_asI, s_ul1, s_ul2, s_ul3, s_sub, s_add, s_neg, s_eq, s_len, s_itl, s_itt, s_opt, List.length_cons, List.length_nil, s_un2t, decide_true, decide_false, Bool.not_true, Bool.not_false, if_true, if_false, Bool.false_eq_true, Nat.reduceAdd, z1L, z2L, z3L, z4L, z1l, q_draw, q_mkk, s_ix0, s_ix1, s_ix2, s_rg3, q_faultI, isN_dF, s_addL31, f1, dF, isN_non, s_gtI, k4, isN_str, hb, heard_span, nh]
  | true =>
    obtain ⟨k, rfl, k0, k4⟩ := within_i w
    have w8 : within (.int k) 0 8 = true := decide_eq_true ⟨k0, by omega⟩
    have n4 : ¬ (4 < k) := by omega
    rw [w8] at f1
    have e2 : mulD (.int 2) (.int k) = .ok (.int (2 * k)) := s_mul (.inl (by decide))
    have hw := q_wholeI (m := m) ⟨k0, k4⟩
    have fk := fault_2k (m := m) ⟨k0, k4⟩
    cases wm : within m (-60) 60 with
    | false =>
      rw [wm] at f2 fk
      have nh : neD (.tup [.str "span", .str "more"]) (.tup [.str "span", .str "more"]) = .ok (.bl false) := ne_sp (ok_of _)
      have hi := q_initB (.int (2 * k)) pm (.int k) fk
      simp -implicitDefEqProofs -dsimp only [implies_true, s_bdx, s_bd, ↓k_bd, k_bd, k_bdx, k_bdd, s_nox, k_bdF, k_bdFr, k_bdFx, s_finr, s_finn, s_find, k_bdFd, ↓reduceIte, s_asB, s_asI, s_ul1, s_ul2, s_ul3, s_sub, s_add, s_neg, s_eq, s_len, s_itl, s_itt, s_opt, List.length_cons, List.length_nil, s_un2t, decide_true, decide_false, Bool.not_true, Bool.not_false, if_true, if_false, Bool.false_eq_true, Nat.reduceAdd, z1L, z2L, z3L, z4L, z1l, q_draw, q_mkk, s_ix0, s_ix1, s_ix2, s_rg3, q_faultI, isN_dF, s_addL31, f1, dF, isN_non, s_gtI, n4, f2, isN_str, hw, hi, heard_span, nh]
    | true =>
      obtain ⟨j, rfl, j0, j1⟩ := within_i wm
      rw [wm] at f2 fk
      have ki : InS (2 * k) j k := fault_none fk
      have hs : hdS (2 * k) j k = .tup [.str "told", .lst [.int (2 * k), .int j, .int k, .str (spT (2 * k) j k)]] := by
        unfold hdS
        rw [fk]
        rfl
      obtain ⟨s1, s2, s3⟩ := ki.small
      simp -implicitDefEqProofs -dsimp only [implies_true, s_bdx, s_bd, ↓k_bd, k_bd, k_bdx, k_bdd, s_nox, k_bdF, k_bdFr, k_bdFx, s_finr, s_finn, s_find, k_bdFd, ↓reduceIte, s_asB, s_asI, s_ul1, s_ul2, s_ul3, s_sub, s_add, s_neg, s_eq, s_len, s_itl, s_itt, s_opt, List.length_cons, List.length_nil, s_un2t, decide_true, decide_false, Bool.not_true, Bool.not_false, if_true, if_false, Bool.false_eq_true, Nat.reduceAdd, z1L, z2L, z3L, z4L, z1l, q_draw, q_mkk, s_ix0, s_ix1, s_ix2, s_rg3, q_faultI, isN_dF, s_addL31, f1, dF, isN_non, s_gtI, n4, f2, isN_str, hw, heard_S2k, hs, e2, q_ltext s1 s2 s3, ne_S4, q_mk]
theorem law_bx : Bx (· = .bl true) F_law 1000 := by
  have s_rg6 : rg1 (.int 6) = .ok [.int 0, .int 1, .int 2, .int 3, .int 4, .int 5] := rfl
  rw [lz_law]
  unfold L_law
  simp -implicitDefEqProofs -dsimp only [implies_true, s_bdx, s_bd, ↓k_bd, k_bd, k_bdx, k_bdd, s_nox, k_bdF, k_bdFr, k_bdFx, s_finr, s_finn, s_find, k_bdFd, ↓reduceIte, s_asB, s_asI, s_ul1, s_ul2, s_ul3, s_sub, s_add, s_neg, s_eq, s_len, s_itl, s_itt, s_opt, List.length_cons, List.length_nil, s_un2t, decide_true, decide_false, Bool.not_true, Bool.not_false, if_true, if_false, Bool.false_eq_true, Nat.reduceAdd, z1L, z2L, z3L, z4L, z1l, q_draw, q_mkk, s_ix0, s_ix1, s_ix2, s_rg3, q_faultI, isN_dF, s_addL31, s_rg6]
  refine bk_loopU (c := 18) (b := 0) (fun d hd => ?_) ?_ (by decide)
  · simp -implicitDefEqProofs -dsimp only [implies_true, s_bdx, s_bd, ↓k_bd, k_bd, k_bdx, k_bdd, s_nox, k_bdF, k_bdFr, k_bdFx, s_finr, s_finn, s_find, k_bdFd, ↓reduceIte, s_asB, s_asI, s_ul1, s_ul2, s_ul3, s_sub, s_add, s_neg, s_eq, s_len, s_itl, s_itt, s_opt, List.length_cons, List.length_nil, s_un2t, decide_true, decide_false, Bool.not_true, Bool.not_false, if_true, if_false, Bool.false_eq_true, Nat.reduceAdd, z1L, z2L, z3L, z4L, z1l, q_draw, q_mkk, s_ix0, s_ix1, s_ix2, s_rg3, q_faultI, isN_dF, s_addL31, k_bdbd, k_bdFbd, k_finbd]
    refine bk_then (b := 15) (b_part (a := 0) (b := 8) (by decide) (by decide) (by decide)) (fun h ph => ?_) (by decide)
    simp -implicitDefEqProofs -dsimp only [implies_true, isS_str, s_bdx, s_bd, ↓k_bd, k_bd, k_bdx, k_bdd, s_nox, k_bdF, k_bdFr, k_bdFx, s_finr, s_finn, s_find, k_bdFd, ↓reduceIte, s_asB, s_asI, s_ul1, s_ul2, s_ul3, s_sub, s_add, s_neg, s_eq, s_len, s_itl, s_itt, s_opt, List.length_cons, List.length_nil, s_un2t, decide_true, decide_false, Bool.not_true, Bool.not_false, if_true, if_false, Bool.false_eq_true, Nat.reduceAdd, z1L, z2L, z3L, z4L, z1l, q_draw, s_ix0, s_ix1, s_ix2, s_rg3, q_faultI, isN_dF, s_addL31, k_bdbd, k_bdFbd, k_finbd]
    refine bk_then (b := 12) (b_part (a := -60) (b := 60) (by decide) (by decide) (by decide)) (fun m pm => ?_) (by decide)
    simp -implicitDefEqProofs -dsimp only [implies_true, isS_str, s_bdx, s_bd, ↓k_bd, k_bd, k_bdx, k_bdd, s_nox, k_bdF, k_bdFr, k_bdFx, s_finr, s_finn, s_find, k_bdFd, ↓reduceIte, s_asB, s_asI, s_ul1, s_ul2, s_ul3, s_sub, s_add, s_neg, s_eq, s_len, s_itl, s_itt, s_opt, List.length_cons, List.length_nil, s_un2t, decide_true, decide_false, Bool.not_true, Bool.not_false, if_true, if_false, Bool.false_eq_true, Nat.reduceAdd, z1L, z2L, z3L, z4L, z1l, q_draw, s_ix0, s_ix1, s_ix2, s_rg3, q_faultI, isN_dF, s_addL31, k_bdbd, k_bdFbd, k_finbd]
    refine bk_then (b := 9) (b_part (a := -9) (b := 9) (by decide) (by decide) (by decide)) (fun o po => ?_) (by decide)
    cases e : faultS h m o with
    | some x =>
      have okx := fault_okP e
      simp -implicitDefEqProofs -dsimp only [implies_true, s_bdx, s_bd, ↓k_bd, k_bd, k_bdx, k_bdd, s_nox, k_bdF, k_bdFr, k_bdFx, s_finr, s_finn, s_find, k_bdFd, ↓reduceIte, s_asB, s_asI, s_ul1, s_ul2, s_ul3, s_sub, s_add, s_neg, s_eq, s_len, s_itl, s_itt, s_opt, List.length_cons, List.length_nil, s_un2t, decide_true, decide_false, Bool.not_true, Bool.not_false, if_true, if_false, Bool.false_eq_true, Nat.reduceAdd, z1L, z2L, z3L, z4L, z1l, q_draw, q_mkk, s_ix0, s_ix1, s_ix2, s_rg3, q_faultI, isN_dF, s_addL31, k_bdbd, k_bdFbd, k_finbd, s_un3t, q_faultP ph pm po, e, q_initB ph pm po e, heard_span, dF, isN_str, ne_sp okx]
      exact bx_le (whole_bx fun k hk => whole_k pm hk) (by decide)
    | none =>
      obtain ⟨i, j, k, rfl, rfl, rfl, hk⟩ := fault_ints e
      have hs : hdS i j k = .tup [.str "told", .lst [.int i, .int j, .int k, .str (spT i j k)]] := by
        unfold hdS
        rw [e]
      have qf := q_faultI i j k
      rw [e] at qf
      obtain ⟨s1, s2, s3⟩ := hk.small
      have hk' : InS i j (0 - k) := ⟨hk.h, hk.m, by have := hk.o; omega⟩
      have eqt := s_eqO (d := .tup [.int i, .int j, .int k]) rfl (ul2 F_Span___eq__) i j k
      have eqs := s_eqO (d := .str (spT i j k)) rfl (ul2 F_Span___eq__) i j k
      have eqo := s_eqO (d := spanD i j (0 - k)) rfl (ul2 F_Span___eq__) i j k
      have neo := s_neO (d := spanD i j k) rfl (ul2 F_Span___eq__) i j k
      have n1 := q_eqN (d := .tup [.int i, .int j, .int k]) rfl i j k
      have n2 := q_eqN (d := .str (spT i j k)) rfl i j k
      simp -implicitDefEqProofs -dsimp only [implies_true, s_bdx, s_bd, ↓k_bd, k_bd, k_bdx, k_bdd, s_nox, k_bdF, k_bdFr, k_bdFx, s_finr, s_finn, s_find, k_bdFd, ↓reduceIte, s_asB, s_asI, s_ul1, s_ul2, s_ul3, s_sub, s_add, s_neg, s_eq, s_len, s_itl, s_itt, s_opt, List.length_cons, List.length_nil, s_un2t, decide_true, decide_false, Bool.not_true, Bool.not_false, if_true, if_false, Bool.false_eq_true, Nat.reduceAdd, z1L, z2L, z3L, z4L, z1l, q_draw, q_mkk, s_ix0, s_ix1, s_ix2, s_rg3, q_faultI, isN_dF, s_addL31, k_bdbd, k_bdFbd, k_finbd, s_un3t, qf, dF, isN_non, q_told s1 s2 s3, heard_ok, mk_in hk, q_ltext s1 s2 s3, ne_S4]
      refine bk_then (b := 7) (read_right hk) (fun d hd => ?_) (by decide)
      subst hd
      simp -implicitDefEqProofs -dsimp only [implies_true, s_bdx, s_bd, ↓k_bd, k_bd, k_bdx, k_bdd, s_nox, k_bdF, k_bdFr, k_bdFx, s_finr, s_finn, s_find, k_bdFd, ↓reduceIte, s_asB, s_asI, s_ul1, s_ul2, s_ul3, s_sub, s_add, s_neg, s_eq, s_len, s_itl, s_itt, s_opt, List.length_cons, List.length_nil, s_un2t, decide_true, decide_false, Bool.not_true, Bool.not_false, if_true, if_false, Bool.false_eq_true, Nat.reduceAdd, z1L, z2L, z3L, z4L, z1l, q_draw, q_mkk, s_ix0, s_ix1, s_ix2, s_rg3, q_faultI, isN_dF, s_addL31, k_bdbd, k_bdFbd, k_finbd]
      refine bk_then (b := 3) (joined_right hk) (fun d hd => ?_) (by decide)
      subst hd
      have qe1 : F_Span___eq__ (spanD i j k) (spanD i j k) = .ok (.bl true) := by rw [q_eqS, decide_eq_true ⟨rfl, rfl, rfl⟩]
      cases hx : decide (k = 0 - k) with
      | false =>
        have qe2 : F_Span___eq__ (spanD i j k) (spanD i j (0 - k)) = .ok (.bl false) := by
          rw [q_eqS, decide_eq_false]
          exact fun z => of_decide_eq_false hx z.2.2
        simp -implicitDefEqProofs -dsimp only [implies_true, s_bdx, s_bd, ↓k_bd, k_bd, k_bdx, k_bdd, s_nox, k_bdF, k_bdFr, k_bdFx, s_finr, s_finn, s_find, k_bdFd, ↓reduceIte, s_asB, s_asI, s_ul1, s_ul2, s_ul3, s_sub, s_add, s_neg, s_eq, s_len, s_itl, s_itt, s_opt, List.length_cons, List.length_nil, s_un2t, decide_true, decide_false, Bool.not_true, Bool.not_false, if_true, if_false, Bool.false_eq_true, Nat.reduceAdd, z1L, z2L, z3L, z4L, z1l, q_draw, q_mkk, s_ix0, s_ix1, s_ix2, s_rg3, q_faultI, isN_dF, s_addL31, k_bdbd, k_bdFbd, k_finbd, eqt, eqs, neo, n1, n2, qe1, qe2, mk_in hk, mk_in hk', eqo]
        exact bx_le (whole_bx fun l hl => whole_k pm hl) (by decide)
      | true =>
        have z := of_decide_eq_true hx
        have qe2 : F_Span___eq__ (spanD i j k) (spanD i j (0 - k)) = .ok (.bl true) := by
          rw [q_eqS, decide_eq_true]
          exact ⟨rfl, rfl, z⟩
        have nk : neD (.int k) (.int 0) = .ok (.bl false) := by
          rw [show k = 0 by omega]; rfl
        simp -implicitDefEqProofs -dsimp only [implies_true, s_bdx, s_bd, ↓k_bd, k_bd, k_bdx, k_bdd, s_nox, k_bdF, k_bdFr, k_bdFx, s_finr, s_finn, s_find, k_bdFd, ↓reduceIte, s_asB, s_asI, s_ul1, s_ul2, s_ul3, s_sub, s_add, s_neg, s_eq, s_len, s_itl, s_itt, s_opt, List.length_cons, List.length_nil, s_un2t, decide_true, decide_false, Bool.not_true, Bool.not_false, if_true, if_false, Bool.false_eq_true, Nat.reduceAdd, z1L, z2L, z3L, z4L, z1l, q_draw, q_mkk, s_ix0, s_ix1, s_ix2, s_rg3, q_faultI, isN_dF, s_addL31, k_bdbd, k_bdFbd, k_finbd, eqt, eqs, neo, n1, n2, qe1, qe2, mk_in hk, mk_in hk', eqo, nk]
        exact bx_le (whole_bx fun l hl => whole_k pm hl) (by decide)
  · have k1 : InS 3 0 0 := ⟨by decide, by decide, by decide⟩
    have k2 : InS (2 * 1) 0 1 := ⟨by decide, by decide, by decide⟩
    have t1 := q_told k1.small.1 k1.small.2.1 k1.small.2.2
    have t2 := q_told k2.small.1 k2.small.2.1 k2.small.2.2
    have sl3 : ∀ (a b c : Int) (t : Str), slD (.lst [.int a, .int b, .int c, .str t]) none (some 3) = .ok (.lst [.int a, .int b, .int c]) := fun _ _ _ _ => rfl
    have e1 : eqD (.lst [.int 3, .int 0, .int 0]) (.lst [.int 3, .int 0, .int 0]) = .ok (.bl true) := s_eq_ints [3, 0, 0] [3, 0, 0]
    have e2 : eqD (.lst [.int (2 * 1), .int 0, .int 1]) (.lst [.int 2, .int 0, .int 1]) = .ok (.bl true) := s_eq_ints [2, 0, 1] [2, 0, 1]
    simp -implicitDefEqProofs -dsimp only [implies_true, s_bdx, s_bd, ↓k_bd, k_bd, k_bdx, k_bdd, s_nox, k_bdF, k_bdFr, k_bdFx, s_finr, s_finn, s_find, k_bdFd, ↓reduceIte, s_asB, s_asI, s_ul1, s_ul2, s_ul3, s_sub, s_add, s_neg, s_eq, s_len, s_itl, s_itt, s_opt, List.length_cons, List.length_nil, s_un2t, decide_true, decide_false, Bool.not_true, Bool.not_false, if_true, if_false, Bool.false_eq_true, Nat.reduceAdd, z1L, z2L, z3L, z4L, z1l, q_draw, q_mkk, s_ix0, s_ix1, s_ix2, s_rg3, q_faultI, isN_dF, s_addL31, List.cons_append, List.nil_append, q_mk, mk_in k1, t1, sl3, e1, q_wholeI (k := 1) (m := .int 0) ⟨by decide, by decide⟩, mk_in k2, t2, e2]
    exact bx_ok rfl
theorem law_yes : Yes F_law := Bo.yes (n := 1000) (by decide +kernel) law_bx.bo
end Lw
end
section
set_option Elab.async false
set_option linter.all false
set_option maxRecDepth 100000
set_option maxHeartbeats 4000000
set_option pp.maxSteps 600
namespace Lw
open PySem PySem.Spec PyProof.Rows L2 Gh Gp Gz
theorem pm_PromO {P : Program} {w : World} {K : PySem.W.Frag} {mg : Str → Option Value} {base : Heap} {CX : CXT} {k : Nat} {f : Addr} {fd : FuncData} {ps : List Str} {sp : Sp} (G : FnOk P w K mg base CX k f fd ps sp) (b : Binds K fd ps []) : PromO P w K mg base CX k f [] sp := ⟨fd, ps, [], G, b, .nil⟩
def TTl (K : PySem.W.Frag) : List (Addr × Str) := [((He.cT K ("_law_joined_right", none)).2, Gp.qlOf d__law_joined_right K), ((He.cT K ("_law_read_right", none)).2, Gp.qlOf d__law_read_right K), ((He.cT K ("law", none)).2, Gp.qlOf d_law K)]
theorem facts {P : Program} {w : World} {K : PySem.W.Frag} {h : Heap} {mg : Str → Option Value} {f : Addr} (X : K.In h) (G : h.Ns mainGlobals mg) (hfa : mg ("law" : Str) = some (.ref f)) (c2 : Gp.SaysS exs fns tfs sds pfile h K) (gl : (He.Fa.glo "law").ok K = true) (hP : ((P.main.file : Str) == pfile) = true ∧ (P.main.scope.names.lookup ("super" : Str)).isSome = false) :
    ∃ fd : FuncData, (∀ (s : Shared) (v : Value), BindsTo s fd ⟨[v], []⟩ [("_law_script", v)]) ∧ ∀ base : Heap, K.In base → base.Ns mainGlobals mg → (∀ p ∈ tfs.map (He.cT K), LamX.TabB base mg p.1 p.2) → FnG P w K mg base CX0 10 f fd ["_law_script"] (spLaw K (TTl K)) := by
  have c := c2.s.t
  have T : Tx K mg := tx_of X G c
  have e := hfa.symm.trans (He.glo_ok X G gl)
  cases e
  obtain ⟨f0, F0⟩ := c.def_ 0 (d := d_BadSpan___init__) rfl
  obtain ⟨f1, F1⟩ := c.def_ 1 (d := d_BadText___init__) rfl
  obtain ⟨f2, F2⟩ := c.def_ 2 (d := d__law_pen) rfl
  obtain ⟨f3, F3⟩ := c.def_ 3 (d := d__law_draw) rfl
  obtain ⟨f4, F4⟩ := c.def_ 4 (d := d_is_integer) rfl
  obtain ⟨f5, F5⟩ := c.def_ 5 (d := d_is_within) rfl
  obtain ⟨f6, F6⟩ := c.def_ 6 (d := d_Span___init__) rfl
  obtain ⟨f7, F7⟩ := c.def_ 7 (d := d_Span_whole) rfl
  obtain ⟨f8, F8⟩ := c.def_ 8 (d := d_Span_halves) rfl
  obtain ⟨f9, F9⟩ := c.def_ 9 (d := d_Span_more) rfl
  obtain ⟨f10, F10⟩ := c.def_ 10 (d := d_Span_odd) rfl
  obtain ⟨f11, F11⟩ := c.def_ 11 (d := d_Span___eq__) rfl
  obtain ⟨f12, F12⟩ := c.def_ 12 (d := d_Span___str__) rfl
  obtain ⟨f13, F13⟩ := c.def_ 13 (d := d_number_in) rfl
  obtain ⟨f14, F14⟩ := c.def_ 14 (d := d_are_parts) rfl
  obtain ⟨f15, F15⟩ := c.def_ 15 (d := d_Span_read) rfl
  obtain ⟨f16, F16⟩ := c.def_ 16 (d := d_Span_plus) rfl
  obtain ⟨f17, F17⟩ := c.def_ 17 (d := d_Span___add__) rfl
  obtain ⟨f18, F18⟩ := c.def_ 18 (d := d_Span___radd__) rfl
  obtain ⟨f19, F19⟩ := c.def_ 19 (d := d_Span___sub__) rfl
  obtain ⟨f20, F20⟩ := c.def_ 20 (d := d_Span___mul__) rfl
  obtain ⟨f21, F21⟩ := c.def_ 21 (d := d_Span___rmul__) rfl
  obtain ⟨f22, F22⟩ := c.def_ 22 (d := d__law_pick) rfl
  obtain ⟨f23, F23⟩ := c.def_ 23 (d := d__law_heard) rfl
  obtain ⟨f24, F24⟩ := c.def_ 24 (d := d__law_part) rfl
  obtain ⟨f25, F25⟩ := c.def_ 25 (d := d__law_fault) rfl
  obtain ⟨f26, F26⟩ := c.def_ 26 (d := d__law_told) rfl
  obtain ⟨f27, F27⟩ := c.def_ 27 (d := d__law_text) rfl
  obtain ⟨f28, F28⟩ := c.def_ 28 (d := d__law_joined_right) rfl
  obtain ⟨f29, F29⟩ := c.def_ 29 (d := d__law_read_right) rfl
  obtain ⟨f30, F30⟩ := c.def_ 30 (d := d_law) rfl
  have b30 := FunD.bindsA (ps := ["_law_script"]) F30 fun _ _ _ _ _ _ us hl => match us, hl with | [_], _ => rfl
  refine ⟨f30, fun s v => b30 s [v] rfl, fun base _ _ TB => ?_⟩
  have lm__law_joined_right : LamD base mg K (TTl K) d__law_joined_right ("_law_joined_right", none) := ⟨TB _ (List.mem_map.mpr ⟨_, by decide, rfl⟩), by simp only [TTl, List.mem_cons, true_or, or_true], fun p hp e => by
      simp only [TTl, List.mem_cons, List.mem_nil_iff, or_false] at hp
      rcases hp with rfl | rfl | rfl
      · rfl
      · exact absurd e (T.tn__law_joined_right__law_read_right).symm
      · exact absurd e (T.tn__law_joined_right_law).symm⟩
  have lm__law_read_right : LamD base mg K (TTl K) d__law_read_right ("_law_read_right", none) := ⟨TB _ (List.mem_map.mpr ⟨_, by decide, rfl⟩), by simp only [TTl, List.mem_cons, true_or, or_true], fun p hp e => by
      simp only [TTl, List.mem_cons, List.mem_nil_iff, or_false] at hp
      rcases hp with rfl | rfl | rfl
      · exact absurd e T.tn__law_joined_right__law_read_right
      · rfl
      · exact absurd e (T.tn__law_read_right_law).symm⟩
  have lm_law : LamD base mg K (TTl K) d_law ("law", none) := ⟨TB _ (List.mem_map.mpr ⟨_, by decide, rfl⟩), by simp only [TTl, List.mem_cons, true_or, or_true], fun p hp e => by
      simp only [TTl, List.mem_cons, List.mem_nil_iff, or_false] at hp
      rcases hp with rfl | rfl | rfl
      · exact absurd e T.tn__law_joined_right_law
      · exact absurd e T.tn__law_read_right_law
      · rfl⟩
  have p0 : PromO P w K mg base CX0 1 (md "BadSpan" "__init__" K) [] (spErr1 (gd "BadSpan" K) "part") := pm_PromO (ok_BadSpan___init__ F0 T ) (F0.bindsN fun _ _ _ _ _ _ us hl => match us, hl with | [_, _], _ => rfl)
  have p1 : PromO P w K mg base CX0 1 (md "BadText" "__init__" K) [] (spErr2 (gd "BadText" K) "line" "word") := pm_PromO (ok_BadText___init__ F1 T ) (F1.bindsN fun _ _ _ _ _ _ us hl => match us, hl with | [_, _, _], _ => rfl)
  have p2 : PromO P w K mg base CX0 1 (gd "_law_pen" K) [] (spPn K) := pm_PromO (ok__law_pen F2 T ) (F2.bindsN fun _ _ _ _ _ _ us hl => match us, hl with | [_], _ => rfl)
  have p3 : PromO P w K mg base CX0 1 (gd "_law_draw" K) [] (spF K (TTl K) (ul2 F_draw)) := pm_PromO (ok__law_draw (Tb := TTl K) F3 T ) (F3.bindsN fun _ _ _ _ _ _ us hl => match us, hl with | [_, _], _ => rfl)
  have p4 : PromO P w K mg base CX0 1 (gd "is_integer" K) [] (spF K (TTl K) (ul1 F_is_integer)) := pm_PromO (ok_is_integer (Tb := TTl K) F4 T ) (F4.bindsN fun _ _ _ _ _ _ us hl => match us, hl with | [_], _ => rfl)
  have p5 : PromO P w K mg base CX0 2 (gd "is_within" K) [] (spF K (TTl K) (ul3 F_is_within)) := pm_PromO (ok_is_within (Tb := TTl K) F5 T p4) (F5.bindsN fun _ _ _ _ _ _ us hl => match us, hl with | [_, _, _], _ => rfl)
  have p6 : PromO P w K mg base (L2.CX P w) 3 (md "Span" "__init__" K) [] (spI K (TTl K) "Span" (fun fs => ul3 (F_Span___init__ fs))) := by
    obtain ⟨ds, hv, hb⟩ := FunD.binds1 (ps := ["self", "halves", "more", "odd"]) F6 4 2 (by intro z; cases z) rfl fun _ _ _ _ _ _ _ us its hu hi => match us, hu, its, hi with | [_, _, _, _], _, [_, _], _ => ⟨_, rfl, rfl⟩
    cases hv
    exact pm_PromO (ok_Span___init__ (Tb := TTl K) F6 T p5 p0) hb
  have pd6_0 : PromO P w K mg base (L2.CX P w) 3 (md "Span" "__init__" K) [V.int 0, V.int 0] (spI K (TTl K) "Span" (fun fs => ul3 (F_Span___init__ fs))) := by
    obtain ⟨ds, hv, hb⟩ := FunD.binds1 (ps := ["self", "halves", "more", "odd"]) F6 2 0 (by intro z; cases z) rfl fun _ _ _ _ _ _ _ us its hu hi => match us, hu, its, hi with | [_, _], _, [_, _], _ => ⟨_, rfl, rfl⟩
    exact ⟨_, _, ds, (ok_Span___init__ (Tb := TTl K) F6 T p5 p0), hb, hv⟩
  have p7 : PromO P w K mg base (L2.CX P w) 5 (staG "Span" "whole" K) [] (spF K (TTl K) (ul2 F_Span_whole)) := by
    obtain ⟨ds, hv, hb⟩ := FunD.binds1 (ps := ["k", "more"]) F7 2 2 (by intro z; cases z) rfl fun _ _ _ _ _ _ _ us its hu hi => match us, hu, its, hi with | [_, _], _, [_, _], _ => ⟨_, rfl, rfl⟩
    cases hv
    exact pm_PromO (ok_Span_whole (Tb := TTl K) F7 T p5 p0 p6) hb
  have pd7_0 : PromO P w K mg base (L2.CX P w) 5 (staG "Span" "whole" K) [V.int 1, V.int 0] (spF K (TTl K) (ul2 F_Span_whole)) := by
    obtain ⟨ds, hv, hb⟩ := FunD.binds1 (ps := ["k", "more"]) F7 0 0 (by intro z; cases z) rfl fun _ _ _ _ _ _ _ us its hu hi => match us, hu, its, hi with | [], _, [_, _], _ => ⟨_, rfl, rfl⟩
    exact ⟨_, _, ds, (ok_Span_whole (Tb := TTl K) F7 T p5 p0 p6), hb, hv⟩
  have p8 : PromO P w K mg base CX0 1 (propG "Span" "halves" K) [] (spF K (TTl K) (ul1 F_Span_halves)) := pm_PromO (ok_Span_halves (Tb := TTl K) F8 T ) (F8.bindsN fun _ _ _ _ _ _ us hl => match us, hl with | [_], _ => rfl)
  have p9 : PromO P w K mg base CX0 1 (propG "Span" "more" K) [] (spF K (TTl K) (ul1 F_Span_more)) := pm_PromO (ok_Span_more (Tb := TTl K) F9 T ) (F9.bindsN fun _ _ _ _ _ _ us hl => match us, hl with | [_], _ => rfl)
  have p10 : PromO P w K mg base CX0 1 (propG "Span" "odd" K) [] (spF K (TTl K) (ul1 F_Span_odd)) := pm_PromO (ok_Span_odd (Tb := TTl K) F10 T ) (F10.bindsN fun _ _ _ _ _ _ us hl => match us, hl with | [_], _ => rfl)
  have p11 : PromO P w K mg base CX0 1 (md "Span" "__eq__" K) [] (spF K (TTl K) (ul2 F_Span___eq__)) := pm_PromO (ok_Span___eq__ (Tb := TTl K) F11 T ) (F11.bindsN fun _ _ _ _ _ _ us hl => match us, hl with | [_, _], _ => rfl)
  have p12 : PromO P w K mg base CX0 3 (md "Span" "__str__" K) [] (spF K (TTl K) (ul1 F_Span___str__)) := pm_PromO (ok_Span___str__ (Tb := TTl K) F12 T p9 p10 p8) (F12.bindsN fun _ _ _ _ _ _ us hl => match us, hl with | [_], _ => rfl)
  have p13 : PromO P w K mg base CX0 1 (gd "number_in" K) [] (spF K (TTl K) (ul1 F_number_in)) := pm_PromO (ok_number_in (Tb := TTl K) F13 T ) (F13.bindsN fun _ _ _ _ _ _ us hl => match us, hl with | [_], _ => rfl)
  have p14 : PromO P w K mg base CX0 3 (gd "are_parts" K) [] (spF K (TTl K) (ul3 F_are_parts)) := pm_PromO (ok_are_parts (Tb := TTl K) F14 T p5) (F14.bindsN fun _ _ _ _ _ _ us hl => match us, hl with | [_, _, _], _ => rfl)
  have p15 : PromO P w K mg base (L2.CX P w) 5 (clsG "Span" "read" K) [] (spK K (TTl K) "Span" (ul1 F_Span_read)) := pm_PromO (ok_Span_read (Tb := TTl K) F15 T p1 p13 p14 p6) (F15.bindsN fun _ _ _ _ _ _ us hl => match us, hl with | [_, _], _ => rfl)
  have p16 : PromO P w K mg base (L2.CX P w) 5 (md "Span" "plus" K) [] (spF K (TTl K) (ul3 F_Span_plus)) := pm_PromO (ok_Span_plus (Tb := TTl K) F16 T p6 p8 p9 p10) (F16.bindsN fun _ _ _ _ _ _ us hl => match us, hl with | [_, _, _], _ => rfl)
  have p17 : PromO P w K mg base (L2.CX P w) 6 (md "Span" "__add__" K) [] (spF K (TTl K) (ul2 F_Span___add__)) := pm_PromO (ok_Span___add__ (Tb := TTl K) F17 T p16) (F17.bindsN fun _ _ _ _ _ _ us hl => match us, hl with | [_, _], _ => rfl)
  have p18 : PromO P w K mg base (L2.CX P w) 6 (md "Span" "__radd__" K) [] (spF K (TTl K) (ul2 F_Span___radd__)) := pm_PromO (ok_Span___radd__ (Tb := TTl K) F18 T p16) (F18.bindsN fun _ _ _ _ _ _ us hl => match us, hl with | [_, _], _ => rfl)
  have p19 : PromO P w K mg base (L2.CX P w) 6 (md "Span" "__sub__" K) [] (spF K (TTl K) (ul2 F_Span___sub__)) := pm_PromO (ok_Span___sub__ (Tb := TTl K) F19 T p16) (F19.bindsN fun _ _ _ _ _ _ us hl => match us, hl with | [_, _], _ => rfl)
  have p20 : PromO P w K mg base (L2.CX P w) 5 (md "Span" "__mul__" K) [] (spF K (TTl K) (ul2 F_Span___mul__)) := pm_PromO (ok_Span___mul__ (Tb := TTl K) F20 T p6 p8 p9 p10) (F20.bindsN fun _ _ _ _ _ _ us hl => match us, hl with | [_, _], _ => rfl)
  have p21 : PromO P w K mg base (L2.CX P w) 5 (md "Span" "__rmul__" K) [] (spF K (TTl K) (ul2 F_Span___rmul__)) := pm_PromO (ok_Span___rmul__ (Tb := TTl K) F21 T p6 p8 p9 p10) (F21.bindsN fun _ _ _ _ _ _ us hl => match us, hl with | [_, _], _ => rfl)
  have p22 : PromO P w K mg base CX0 2 (gd "_law_pick" K) [] (spF K (TTl K) (ul2 F__law_pick)) := pm_PromO (ok__law_pick (Tb := TTl K) F22 T p3) (F22.bindsN fun _ _ _ _ _ _ us hl => match us, hl with | [_, _], _ => rfl)
  have p23 : HrdP K d__law_heard ["_law_ask"] := ⟨f23, F23, F23.bindsN fun _ _ _ _ _ _ us hl => match us, hl with | [_], _ => rfl⟩
  have p24 : PromO P w K mg base CX0 3 (gd "_law_part" K) [] (spF K (TTl K) (ul3 F__law_part)) := pm_PromO (ok__law_part (Tb := TTl K) F24 T p3 p22) (F24.bindsN fun _ _ _ _ _ _ us hl => match us, hl with | [_, _, _], _ => rfl)
  have p25 : PromO P w K mg base CX0 1 (gd "_law_fault" K) [] (spF K (TTl K) (ul3 F__law_fault)) := pm_PromO (ok__law_fault (Tb := TTl K) F25 T ) (F25.bindsN fun _ _ _ _ _ _ us hl => match us, hl with | [_, _, _], _ => rfl)
  have p26 : PromO P w K mg base CX0 6 (gd "_law_told" K) [] (spF K (TTl K) (ul1 F__law_told)) := pm_PromO (ok__law_told (Tb := TTl K) F26 T p8 p9 p10 p12) (F26.bindsN fun _ _ _ _ _ _ us hl => match us, hl with | [_], _ => rfl)
  have p27 : PromO P w K mg base CX0 1 (gd "_law_text" K) [] (spF K (TTl K) (ul3 F__law_text)) := pm_PromO (ok__law_text (Tb := TTl K) F27 T ) (F27.bindsN fun _ _ _ _ _ _ us hl => match us, hl with | [_, _, _], _ => rfl)
  have p28 : PromO P w K mg base CX0 9 (gd "_law_joined_right" K) [] (spF K (TTl K) (ul3 F__law_joined_right)) := pm_PromO (ok__law_joined_right (Tb := TTl K) F28 T p3 p6 p25 p23 lm__law_joined_right p26 p17 p19 p27 p9 p21 p20 p18) (F28.bindsN fun _ _ _ _ _ _ us hl => match us, hl with | [_, _, _], _ => rfl)
  have p29 : PromO P w K mg base CX0 8 (gd "_law_read_right" K) [] (spF K (TTl K) (ul3 F__law_read_right)) := pm_PromO (ok__law_read_right (Tb := TTl K) F29 T p15 p11 p3 p22 p23 lm__law_read_right) (F29.bindsN fun _ _ _ _ _ _ us hl => match us, hl with | [_, _, _], _ => rfl)
  exact (FnOk.toG (ok_law (Tb := TTl K) F30 T law_yes p2 p24 p25 p23 lm_law p26 p6 p27 p29 p28 p11 p7 pd6_0 pd7_0))
end Lw
open PySem PySem.W PySem.Calls PyProof.Rows
set_option maxRecDepth 100000 in
set_option maxHeartbeats 0 in
theorem PySem.Challenge.cw_everyhunt_k02_spans_made_holds : PySem.Challenge.rw_everyhunt_k02_spans_made.Holds := by
  w_on; o_law
  refine HandSHeadRun.head_any (r := OpenLaw.row PySem.Challenge.rw_everyhunt_k02_spans_made) (q := view (OpenLaw.row PySem.Challenge.rw_everyhunt_k02_spans_made).prog [31]) (H := Lw.hk) (ob := Lw.ob) (M := 20000) (loose := Lw.loose) (d := HandSHeadRun.topDef (OpenLaw.row PySem.Challenge.rw_everyhunt_k02_spans_made).prog 31) (kwd := []) Lw.ob_eq
    (by kernel_rfl) (fun s => by kernel_rfl) Lw.run (by kernel_rfl) (by kernel_rfl) (by kernel_rfl) (by rfl) (by first | assumption | decide +kernel) (by decide +kernel) ⟨rfl, rfl, rfl, rfl, rfl, by decide +kernel⟩ ?hw ?hc
  case hw => w_witness2
  case hc =>
    refine Gh.walk_ofTsG (l := PySem.Challenge.rw_everyhunt_k02_spans_made) (n := 63) (k := 10) (x := "_law_script") (CX := fun _ => L2.CX0) rfl (by decide) (by kernel_rfl) ⟨rfl, by decide, by decide⟩ ?F (fun _ _ _ _ _ z => z)
    intro w mg fa h Y G hmg0
    obtain ⟨K, KX, c⟩ := Y
    have hmg : mg ("law" : PySem.Str) = some (.ref fa) := by
      have e : (HandSHeadRun.topDef (OpenLaw.row PySem.Challenge.rw_everyhunt_k02_spans_made).prog 31).name = ("law" : PySem.Str) := by kernel_rfl
      rw [← e]
      exact hmg0
    obtain ⟨fd, hb, hF⟩ := Lw.facts (P := (PySem.Challenge.rw_everyhunt_k02_spans_made).prog) (w := w) KX G hmg c (c.s.t.fact 93 rfl) ⟨by kernel_rfl, by kernel_rfl⟩
    refine ⟨K, fd, Lw.tfs.map (He.cT K), Gp.spLaw K (Lw.TTl K), KX, fun p hp => ?_, fun p hp => ?_, fun p hp => ?_, hb, fun H a ns hl hT hS => ⟨a, ns, rfl, hS, hl, fun p hp => ?_, fun _ => rfl⟩, fun base h1 h2 h3 => hF base h1 h2 h3⟩
    · obtain ⟨d, hd, rfl⟩ := List.mem_map.mp hp
      exact c.s.empty d hd
    · obtain ⟨d, hd, rfl⟩ := List.mem_map.mp hp
      exact c.s.out d hd
    · obtain ⟨d, hd, rfl⟩ := List.mem_map.mp hp
      exact PySem.W.codeHd_of_K KX (c.s.hd d hd)
    · have e : ∀ p ∈ Lw.TTl K, ∃ d ∈ Lw.tfs.map (He.cT K), p.1 = d.2 := fun p hp => by
        have z : (Lw.TTl K).map (·.1) = (Lw.tfs.map (He.cT K)).map (·.2) := rfl
        have m : p.1 ∈ (Lw.tfs.map (He.cT K)).map (·.2) := by rw [← z]; exact List.mem_map.mpr ⟨p, hp, rfl⟩
        obtain ⟨d, hd, e⟩ := List.mem_map.mp m
        exact ⟨d, hd, e.symm⟩
      obtain ⟨d, hd, ed⟩ := e p hp
      exact LamX.TabS.nil (by rw [ed]; exact hT d hd)
#print axioms PySem.Challenge.cw_everyhunt_k02_spans_made_holds
end
