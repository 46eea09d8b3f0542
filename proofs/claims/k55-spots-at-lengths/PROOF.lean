import PyProof.Rows.All
import Wide.All
import OpenK.AllK
import Wide.FinOn
import KE.KStateDown
import KE.KOpsOwn
import HandS.ForMost
import HandS.More
import HandS.Exc
import HandS.WordsExc
import HandS.Defaults
import HandS.Property
import HandS.IsInst
import HandS.Wide
import HandS.Head0
import HandS.Head1
import HandS.Head2
import HandS.HeadEnd
import HandS.HeadHook1
import HandS.HeadHook2
import PyProof.ReprRoads
import HandS.ExcInit
import HandS.ExcField
import HandS.ExcIs
import KE.KExcIs
import HandS.EndTab
import HandS.HeadHook4
import HandS.Star
import HandS.ClsMeth
import HandS.Lambda
import HandS.RaiseMore
import HandS.Iter
import KE.GoesMore
import PyProof.EnumMake
import HandS.MakeKw
import KE.KCallOwn
import PyProof.InstNe
import HandS.GenList
import PyProof.GenComp
import HandS.TupAny
import HandS.SortInts
import HandS.OwnEq
import HandS.Style
import HandS.Conv
import KE.KSuper
import HandS.NestedK
import HandS.SetFor
import HandS.Strs
import HandS.Zip
import HandS.TryMany
import HandS.FStr
import HandS.TupLe
import HandS.NoneIn
import PySem.Challenge.RW_everyhunt_k55_spots_at_lengths
set_option Elab.async false
section
set_option Elab.async false
set_option linter.all false
set_option maxRecDepth 100000
namespace Gh
open PySem PySem.Spec PyProof.Rows L2
structure Df where
  adr : PySem.W.Frag → Addr
  name : Str
  qual : Str
  st : Stmt
  dfl : List He.Dv := []
def Df.val (d : Df) : He.FnW := some (d.name, d.qual, defArgs d.st, .stmts (defBody d.st), defScope d.st, mainGlobals, [], builtinsNs)
def Df.dvs (K : PySem.W.Frag) (d : Df) : List V := d.dfl.map (He.Dv.v K)
def fnAt (K : PySem.W.Frag) (a : Addr) : He.FnW := match K.lookup a with
  | some ⟨_, _, .func fd, _⟩ => some (fd.name, fd.qualname, fd.params, fd.body, fd.scope, fd.globals, fd.closure, fd.builtins)
  | _ => none
def Df.ok (K : PySem.W.Frag) (d : Df) : Bool := PySem.W.keepIn K (.ref (d.adr K)) && (match K.lookup (d.adr K) with
  | some ⟨_, _, .func fd, _⟩ => PySem.W.codeIn K fd.code d.qual && (He.dflB K fd.defaults (d.dvs K) && He.kwdB K fd.kwdefaults [])
  | _ => false)
abbrev Al : Type := Bool × List He.FnW
def obs (ex : List (PySem.W.Frag → Bool)) (fn : List Df) (K : PySem.W.Frag) : Al := ((ex.all fun f => f K) && fn.all fun d => d.ok K, fn.map fun d => fnAt K (d.adr K))
def val (fn : List Df) : Al := (true, fn.map Df.val)
def Says (ex : List (PySem.W.Frag → Bool)) (fn : List Df) (K : PySem.W.Frag) : Prop := obs ex fn K = val fn
def propG (x m : Str) (K : PySem.W.Frag) : Addr := match PySem.W.recIn K (He.ma K (He.ga K x) m) "property" with
  | some (.ref g :: _) => g
  | _ => 0
def propB (x m : Str) (K : PySem.W.Frag) : Bool := He.eqO (PySem.W.findIn K (.ref (He.ga K x)) m) (some (some (.ref (He.ma K (He.ga K x) m)))) &&
  (He.eqO (PySem.W.specialIn K (.ref (He.ma K (He.ga K x) m)) "__get__") (some (some (.builtin "property.__get__"))) &&
  (decide (PySem.W.takesIn K (.ref (He.ma K (He.ga K x) m)) = some true) && (match PySem.W.recIn K (He.ma K (He.ga K x) m) "property" with
    | some (.ref _ :: _) => true
    | _ => false)))
def gd (x : Str) : PySem.W.Frag → Addr := fun K => He.ga K x
def md (x m : Str) : PySem.W.Frag → Addr := fun K => He.ma K (He.ga K x) m
def fa (f : He.Fa) : PySem.W.Frag → Bool := fun K => f.ok K
structure InsT (K : PySem.W.Frag) (C : Addr) : Prop where
  ha : PySem.W.findIn K (.ref C) "__class__" = some (some (.builtin "object.__class__"))
  hn : PySem.W.specialIn K (.builtin "object.__class__") "__get__" = some (some (.builtin "getset_descriptor.__get__"))
  htk : PySem.W.takesIn K (.builtin "object.__class__") = some true
  hm : PySem.W.mroIn K C (.type "object") = some true
  yes : PySem.W.kitOne K (.ref C) (.ref C) = some true
  no : ∀ n ∈ (["NoneType", "bool", "int", "str", "list", "tuple", "dict"] : List String), PySem.W.kitOne K (.type n) (.ref C) = some false
  out : ∀ n ∈ (["NoneType", "bool", "int", "str", "list", "tuple", "dict"] : List String), PySem.W.kitOne K (.ref C) (.type n) = some false
def insB (x : Str) (K : PySem.W.Frag) : Bool := He.eqO (PySem.W.findIn K (.ref (gd x K)) "__class__") (some (some (.builtin "object.__class__"))) &&
  (He.eqO (PySem.W.specialIn K (.builtin "object.__class__") "__get__") (some (some (.builtin "getset_descriptor.__get__"))) &&
  (decide (PySem.W.takesIn K (.builtin "object.__class__") = some true) && (decide (PySem.W.mroIn K (gd x K) (.type "object") = some true) &&
  (decide (PySem.W.kitOne K (.ref (gd x K)) (.ref (gd x K)) = some true) && (((["NoneType", "bool", "int", "str", "list", "tuple", "dict"] : List String).all fun n => decide (PySem.W.kitOne K (.type n) (.ref (gd x K)) = some false)) &&
  ((["NoneType", "bool", "int", "str", "list", "tuple", "dict"] : List String).all fun n => decide (PySem.W.kitOne K (.ref (gd x K)) (.type n) = some false)))))))
def ownB (x : Str) (K : PySem.W.Frag) : Bool := PySem.W.selfFirst K (gd x K) && (PySem.W.notFirst K (gd x K) (.ref (gd x K)) && decide (PySem.W.subIn K (.type "int") (.ref (gd x K)) = some false))
def opB (x : Str) (op : Operator) (K : PySem.W.Frag) : Bool := (match PySem.W.findIn K (.ref (gd x K)) (dunderR op.info.2) with
    | some none => true
    | some (some (.ref _)) => true
    | _ => false) && ((PySem.W.findIn K (.type "int") (PySem.dunder op.info.2)).isSome && (PySem.W.findIn K (.type "int") (dunderR op.info.2)).isSome)
end Gh
end
section
set_option Elab.async false
set_option linter.all false
set_option maxRecDepth 100000
set_option maxHeartbeats 4000000
namespace Gh
open PySem PySem.Spec PyProof.Rows L2
structure FnG (P : Program) (w : World) (K : PySem.W.Frag) (mg : Str → Option Value) (base : Heap) (CX : CXT) (k : Nat) (f : Addr) (fd : FuncData) (ps : List Str) (sp : Sp) : Prop where
  len : ∀ vs H Q E, sp vs H Q E → vs.length = ps.length
  run : ∀ (A : Around) (outer : List Env) (s : Shared) (H : Hp) (args : Args) (us : List Value) (vs : List V) (Q : VK) (E : XK), Room k A → A.guards = some [] → Env0 P w K mg base A outer s H → BindsTo s fd args (ps.zip us) → Vals vs us → sp vs H Q E →
    codeAny (model P w) A (.call (.ref f) args) (CR CX outer P w H s Q E) s
def Prom (P : Program) (w : World) (K : PySem.W.Frag) (mg : Str → Option Value) (base : Heap) (CX : CXT) (k : Nat) (f : Addr) (dvs : List V) (sp : Sp) : Prop :=
  ∃ (fd : FuncData) (ps : List Str) (ds : List Value), FnG P w K mg base CX k f fd ps sp ∧ Binds K fd ps ds ∧ Vals dvs ds
section
variable {P : Program} {w : World} {K : PySem.W.Frag} {mg : Str → Option Value} {base : Heap} {CX : CXT} {j k : Nat} {f : Addr} {fd : FuncData} {ps : List Str} {sp : Sp} {dvs : List V}
theorem FnG.mono (F : FnG P w K mg base CX j f fd ps sp) (h : j ≤ k) : FnG P w K mg base CX k f fd ps sp := ⟨F.len, fun A o s H a us vs Q E hr => F.run A o s H a us vs Q E (hr.mono h)⟩
theorem Prom.mono (F : Prom P w K mg base CX j f dvs sp) (h : j ≤ k) : Prom P w K mg base CX k f dvs sp := by
  obtain ⟨fd, ps, ds, G, b, v⟩ := F
  exact ⟨fd, ps, ds, G.mono h, b, v⟩
end
section
variable {X : Cx} {CX : CXT} {k : Nat} {f g C : Addr} {sp : Sp} {dvs : List V} {E : XK} {x m : Str} {p pos apos : Pos} {e o : Expr} {es : List Expr} {ta tb : TE} {t : TA} {r : List V → Hp → VK → Prop}
abbrev PromX (X : Cx) (CX : CXT) (k : Nat) (f : Addr) (dvs : List V) (sp : Sp) : Prop := Prom X.prog X.w X.K X.mg X.base CX k f dvs sp
def rSp (sp : Sp) (dvs : List V) (E : XK) : List V → Hp → VK → Prop := fun xs H Q => sp (xs ++ dvs) H Q E
theorem Prom.call (F : PromX X CX k f dvs sp) (hr : Room k X.A) (hg : X.A.guards = some []) (hx : Passes CX X E) : CallR X (.ref f) (rSp sp dvs E) := by
  intro pins s σ H xs us Q I r h
  obtain ⟨fd, ps, ds, G, b, hd⟩ := F
  have r2 : Vals (xs ++ dvs) (us ++ ds) := r.append hd
  have hl : (us ++ ds).length = ps.length := by rw [← r2.length]; exact G.len _ _ _ _ h
  refine wpAny_call (codeAny_mono (G.run X.A X.stack s H ⟨us, []⟩ (us ++ ds) (xs ++ dvs) Q E hr hg I.env0 (b s us I.kIn hl) r2 h) fun r s' hq => ?_)
  cases r with
  | error e => exact hx pins σ H s e s' I hq
  | ok fl =>
    cases fl with
    | ret u => exact I.after hq
    | next => exact False.elim hq
    | brk => exact False.elim hq
    | cont => exact False.elim hq
theorem ins_look {pins : List (Addr × Obj)} {σ : L2.St} {H : Hp} {s : Shared} {a dx : Addr} {fs : List (Str × V)} (I : Inv X pins σ H s) (h : H a = some (.ins C dx fs)) : ∃ ox od, PySem.W.InstAt s.heap a ox C od := by
  obtain ⟨mA, O, _, _, _, _⟩ := ins_get I.hok h
  obtain ⟨od, J, _⟩ := O.look
  exact ⟨_, _, J⟩
end
end Gh
end
section
set_option Elab.async false
set_option linter.all false
set_option maxRecDepth 100000
set_option maxHeartbeats 4000000
namespace Gh
open PySem PySem.Spec PyProof.Rows L2
def Keep (H H' : Hp) (p : Addr) : Prop := ∀ a o, H a = some o → a ≠ p → H' a = some o
theorem Keep.refl {H : Hp} {p : Addr} : Keep H H p := fun _ _ h _ => h
theorem Keep.trans {H H' H'' : Hp} {p : Addr} (h : Keep H H' p) (k : Keep H' H'' p) : Keep H H'' p := fun a o e n => k a o (h a o e n) n
def PenAt (H : Hp) (p : Addr) (b : Nat) : Prop := ∃ (c : Addr) (ns : List Int) (i z : Int), H p = some (.lst [.ref c, .int i, .int z]) ∧ H c = some (.lst (ns.map V.int)) ∧ ns.length ≤ 63 ∧ 0 ≤ i ∧ i + b ≤ 1000000 ∧ 0 ≤ z
theorem pen_ne {H : Hp} {p c : Addr} {ns : List Int} {i z : Int} (h : H p = some (.lst [.ref c, .int i, .int z])) (k : H c = some (.lst (ns.map V.int))) : c ≠ p := by
  refine ne_of k h fun e => ?_
  have e2 : ns.map V.int = [.ref c, .int i, .int z] := HO.lst.inj e
  cases ns with
  | nil => cases e2
  | cons n r => cases (List.cons.inj e2).1
theorem PenAt.same {H H' : Hp} {p : Addr} {b : Nat} (h : PenAt H p b) (n : L2.Same H H') : PenAt H' p b := by
  obtain ⟨c, ns, i, z, h1, h2, h3⟩ := h
  exact ⟨c, ns, i, z, n _ _ h1, n _ _ h2, h3⟩
end Gh
end
section
set_option Elab.async false
set_option linter.all false
set_option maxRecDepth 100000
set_option maxHeartbeats 4000000
namespace Gh
open PySem PySem.Spec PyProof.Rows L2
def exk (a C d : Addr) : HO := .ext fun h => ∃ (o : Obj) (vs : Array Value), h.get? a = some o ∧ o.cls = .ref C ∧ o.dict = some d ∧ o.data = .fields vs
def errB (x : Str) (K : PySem.W.Frag) : Bool := He.eqO (PySem.W.findIn K (.ref (gd x K)) "__getattribute__") (some (some (.builtin "BaseException.__getattribute__"))) &&
  (He.eqO (PySem.W.findIn K (.ref (gd x K)) "__getattr__") (some none) && (decide (PySem.W.subIn K (.ref (gd x K)) (.type "BaseException") = some true) && (PySem.W.hasDictIn K (gd x K) &&
  (He.eqO (PySem.W.findIn K (.ref (gd x K)) "__class__") (some (some (.builtin "object.__class__"))) && (He.eqO (PySem.W.specialIn K (.builtin "object.__class__") "__get__") (some (some (.builtin "getset_descriptor.__get__"))) &&
  (decide (PySem.W.takesIn K (.builtin "object.__class__") = some true) && decide (PySem.W.mroIn K (gd x K) (.type "object") = some true)))))))
section
variable {X : Cx} {e : Expr} {te : TE} {pos : Pos} {n : Str}
end
section
variable {X : Cx} {x n : Str} {c : Value} {i : Nat} {body suite : List Stmt} {b₀ : Stmt} {np pos pos' : Pos} {tb : WX → TS} {ts : Addr → Value → Option Addr → TS} {Wout : WX}
end
end Gh
end
section
set_option Elab.async false
set_option linter.all false
set_option maxRecDepth 100000
set_option maxHeartbeats 4000000
namespace Gh
open PySem PySem.Spec PyProof.Rows L2
structure SaysT (ex : List (PySem.W.Frag → Bool)) (fn : List Df) (tf : List He.Defn) (h : Heap) (K : PySem.W.Frag) : Prop where
  t : Says ex fn K
  hd : ∀ p ∈ tf, PySem.W.codeHdIn K (He.cT K p).1 (He.cT K p).2 = true
  out : ∀ p ∈ tf, K.lookup (He.cT K p).2 = none
  empty : ∀ p ∈ tf, h.get? (He.cT K p).2 = some { cls := .none, data := .fields #[] }
abbrev AlT : Type := Al × Bool
end Gh
end
section
set_option Elab.async false
set_option linter.all false
set_option maxRecDepth 100000
set_option maxHeartbeats 4000000
namespace Gh
open PySem PySem.Spec PyProof.Rows L2
def PromO (P : Program) (w : World) (K : PySem.W.Frag) (mg : Str → Option Value) (base : Heap) (CX : CXT) (k : Nat) (f : Addr) (dvs : List V) (sp : Sp) : Prop :=
  ∃ (fd : FuncData) (ps : List Str) (ds : List Value), FnOk P w K mg base CX k f fd ps sp ∧ Binds K fd ps ds ∧ Vals dvs ds
section
variable {X : Cx} {CX : CXT} {k : Nat} {f g C : Addr} {sp : Sp} {dvs : List V} {E : XK} {m : Str} {pos : Pos} {o : Expr} {ta : TE}
abbrev PromOX (X : Cx) (CX : CXT) (k : Nat) (f : Addr) (dvs : List V) (sp : Sp) : Prop := PromO X.prog X.w X.K X.mg X.base CX k f dvs sp
theorem PromO.call (F : PromOX X CX k f dvs sp) (hr : Room k X.A) (hx : Passes CX X E) : CallR X (.ref f) (rSp sp dvs E) := by
  intro pins s σ H xs us Q I r h
  obtain ⟨fd, ps, ds, G, b, hd⟩ := F
  exact run_fn G hr b hd hx I r h
end
def oexB (x : Str) (K : PySem.W.Frag) : Bool := (match K.lookup (gd x K) with
  | some ⟨.type c, _, .cls ⟨_, _, .ref m :: bm, _, _, hd, _, _, _, _, dl⟩, ⟨[_, _, _, _, some (.builtin n), _]⟩⟩ => decide (c = "type") && (decide (m = gd x K) && (PySem.HandSPX.refsVE bm && (hd && (!dl && decide (n = "ValueError.__new__")))))
  | _ => false) && (He.eqO (PySem.W.findIn K (.ref (gd x K)) "__setattr__") (some (some (.builtin "object.__setattr__"))) && (decide (PySem.W.subIn K (.ref (gd x K)) (.type "BaseException") = some true) &&
  (decide (PySem.W.typeIn K (.ref (gd x K)) = some (.type "type")) && PySem.W.keepIn K (.ref (gd x K)))))
inductive Kd (H : Hp) : V → Prop
  | non : Kd H .non
  | bl (b : Bool) : Kd H (.bl b)
  | int (i : Int) : Kd H (.int i)
  | str (x : Str) : Kd H (.str x)
  | lst {a : Addr} {xs : List V} (h : H a = some (.lst xs)) : Kd H (.ref a)
  | tup {a : Addr} {xs : List V} (h : H a = some (.tup xs)) : Kd H (.ref a)
  | dK {a : Addr} {kvs : List (Key × V)} (h : H a = some (.dK kvs)) : Kd H (.ref a)
theorem Kd.ty {K : PySem.W.Frag} {H : Hp} {v : V} (k : Kd H v) : ∃ n : String, TyX K H v (.type n) ∧ ((∃ i, v = .int i) ∧ n = "int" ∨ (∃ b, v = .bl b) ∧ n = "bool" ∨ (∀ i, v ≠ .int i) ∧ (∀ b, v ≠ .bl b) ∧ n ∈ (["NoneType", "str", "list", "tuple", "dict"] : List String)) := by
  cases k with
  | non => exact ⟨_, .base .non, .inr (.inr ⟨fun _ => nofun, fun _ => nofun, by decide⟩)⟩
  | bl b => exact ⟨_, .base (.bl b), .inr (.inl ⟨⟨b, rfl⟩, rfl⟩)⟩
  | int i => exact ⟨_, .base (.int i), .inl ⟨⟨i, rfl⟩, rfl⟩⟩
  | str x => exact ⟨_, .base (.str x), .inr (.inr ⟨fun _ => nofun, fun _ => nofun, by decide⟩)⟩
  | lst h => exact ⟨_, .base (.lst h), .inr (.inr ⟨fun _ => nofun, fun _ => nofun, by decide⟩)⟩
  | tup h => exact ⟨_, .base (.tup h), .inr (.inr ⟨fun _ => nofun, fun _ => nofun, by decide⟩)⟩
  | dK h => exact ⟨_, .base (.dK h), .inr (.inr ⟨fun _ => nofun, fun _ => nofun, by decide⟩)⟩
theorem Kd.same {H H' : Hp} {v : V} (k : Kd H v) (s : L2.Same H H') : Kd H' v := by
  cases k with
  | non => exact .non
  | bl b => exact .bl b
  | int i => exact .int i
  | str x => exact .str x
  | lst h => exact .lst (s _ _ h)
  | tup h => exact .tup (s _ _ h)
  | dK h => exact .dK (s _ _ h)
end Gh
end
section
set_option Elab.async false
set_option linter.all false
set_option maxRecDepth 100000
set_option maxHeartbeats 4000000
namespace Gh
open PySem PySem.Spec PyProof.Rows L2
def staG (x m : Str) (K : PySem.W.Frag) : Addr := match PySem.W.recIn K (He.ma K (He.ga K x) m) "staticmethod" with
  | some (.ref g :: _) => g
  | _ => 0
def staB (x m : Str) (K : PySem.W.Frag) : Bool := PySem.W.readsIn K (gd x K) (.type "type") && (He.eqO (PySem.W.specialIn K (.ref (gd x K)) "__getattribute__") (some (some (.builtin "type.__getattribute__"))) &&
  (decide (PySem.W.typeIn K (.ref (gd x K)) = some (.type "type")) && ((match PySem.W.findCls K (.ref (gd x K)) (.type "type") m with
    | some (.get (.builtin b) (.ref p) .none (.ref C)) => decide (b = "staticmethod.__get__") && (decide (p = He.ma K (He.ga K x) m) && decide (C = gd x K))
    | _ => false) && ((match PySem.W.recIn K (He.ma K (He.ga K x) m) "staticmethod" with
    | some (.ref _ :: _) => true
    | _ => false) && PySem.W.keepIn K (.ref (staG x m K))))))
section
variable {X : Cx} {CX : CXT} {k : Nat} {f g C : Addr} {sp : Sp} {dvs : List V} {E : XK} {m : Str} {apos pos : Pos} {o e : Expr} {es : List Expr} {ta : TE} {t : TA} {r : List V → Hp → VK → Prop}
end
end Gh
end
section
set_option Elab.async false
set_option linter.all false
set_option maxRecDepth 100000
set_option maxHeartbeats 4000000
namespace Gh
open PySem PySem.Spec PyProof.Rows L2
inductive Shw (K : PySem.W.Frag) (H : Hp) : V → Str → Prop
  | non : Shw K H .non "None"
  | bl (b : Bool) : Shw K H (.bl b) (if b then "True" else "False")
  | int (i : Int) : i.natAbs.log2 < 1920 → Shw K H (.int i) (toString i)
  | str (x : Str) : (reprText x).length ≤ sizeLine → Shw K H (.str x) (reprText x)
  | dp {a : Addr} {d : PyData} : Dp K H (.ref a) d → d.showable = true → d.hasDict = false → d.depth ≤ 100 → d.shown.length ≤ sizeLine → Shw K H (.ref a) d.shown
theorem sqL_same {K : PySem.W.Frag} {H H' : Hp} {a : Addr} {xs : List V} (h : SqL K H a xs) (s : L2.Same H H') : SqL K H' a xs := by
  rcases h with (h | ⟨o, h⟩) | h
  · exact .inl (.inl (s _ _ h))
  · exact .inl (.inr ⟨o, s _ _ h⟩)
  · exact .inr h
theorem sqT_same {K : PySem.W.Frag} {H H' : Hp} {a : Addr} {xs : List V} (h : SqT K H a xs) (s : L2.Same H H') : SqT K H' a xs := by
  rcases h with (h | ⟨o, h⟩) | h
  · exact .inl (.inl (s _ _ h))
  · exact .inl (.inr ⟨o, s _ _ h⟩)
  · exact .inr h
mutual
theorem dp_same {K : PySem.W.Frag} {H H' : Hp} (s : L2.Same H H') : ∀ {v : V} {d : PyData}, Dp K H v d → Dp K H' v d
  | _, _, .non => .non
  | _, _, .bl b => .bl b
  | _, _, .int i => .int i
  | _, _, .str x => .str x
  | _, _, .lst h a => .lst (sqL_same h s) (dpAll_same s a)
  | _, _, .tup h a => .tup (sqT_same h s) (dpAll_same s a)
theorem dpAll_same {K : PySem.W.Frag} {H H' : Hp} (s : L2.Same H H') : ∀ {vs : List V} {ds : List PyData}, DpAll K H vs ds → DpAll K H' vs ds
  | _, _, .nil => .nil
  | _, _, .cons a r => .cons (dp_same s a) (dpAll_same s r)
end
theorem Shw.same {K : PySem.W.Frag} {H H' : Hp} {v : V} {t : Str} (h : Shw K H v t) (s : L2.Same H H') : Shw K H' v t := by
  cases h with
  | non => exact .non
  | bl b => exact .bl b
  | int i h => exact .int i h
  | str x h => exact .str x h
  | dp a b c d e => exact .dp (dp_same s a) b c d e
section
variable {X : Cx} {K : PySem.W.Frag}
variable {CX : CXT} {x : Str} {C fI : Addr} {k : Nat} {sp : Sp} {dvs : List V} {e : Expr} {es : List Expr} {ta : TA} {p pos : Pos}
end
def iniB (x : Str) (K : PySem.W.Frag) : Bool := He.eqO (PySem.W.findIn K (.ref (gd x K)) "__init__") (some (some (.ref (md x "__init__" K)))) && decide (PySem.W.typeIn K (.ref (md x "__init__" K)) = some (.type "function"))
def coB (x : Str) (K : PySem.W.Frag) : Bool := He.eqO (PySem.W.findIn K (.ref (gd x K)) "__call__") (some (some (.ref (md x "__call__" K)))) && (PySem.W.isFn K (.ref (md x "__call__" K)) && PySem.W.fnIn K (md x "__call__" K))
end Gh
end
section
set_option Elab.async false
set_option linter.all false
set_option maxRecDepth 100000
set_option maxHeartbeats 4000000
namespace Gh
open PySem PySem.Spec PyProof.Rows L2
structure Nw (H H' : Hp) (p : Addr) (o : HO) : Prop where
  no : H p = none
  same : L2.Same H H'
  at_ : H' p = some o
structure Mu (H H' : Hp) (p : Addr) (o : HO) : Prop where
  keep : Keep H H' p
  at_ : H' p = some o
section
variable {H H' : Hp} {p a l : Addr} {o u : HO}
theorem Nw.up (n : Nw H H' p o) (h : H a = some u) : H' a = some u := n.same _ _ h
theorem Mu.up (n : Mu H H' p o) (e : a ≠ p) (h : H a = some u) : H' a = some u := n.keep _ _ h e
theorem Mu.free (n : Mu H H' p o) (h : H' a = none) : H a = none := by
  cases e : H a with
  | none => rfl
  | some u =>
    by_cases q : a = p
    · subst q
      rw [n.at_] at h
      cases h
    · rw [n.up q e] at h
      cases h
end
def Pen (H : Hp) (p c : Addr) (b : Nat) : Prop := ∃ (ns : List Int) (i z : Int), H p = some (.lst [.ref c, .int i, .int z]) ∧ H c = some (.lst (ns.map V.int)) ∧ ns.length ≤ 63 ∧ 0 ≤ i ∧ i + b ≤ 1000000 ∧ 0 ≤ z
section
variable {H H' : Hp} {p c a l : Addr} {o u : HO} {b k : Nat} {xs : List V} {C dx : Addr} {fs : List (Str × V)}
theorem Pen.same (n : L2.Same H H') (h : Pen H p c b) : Pen H' p c b := by
  obtain ⟨ns, i, z, h1, h2, h3⟩ := h
  exact ⟨ns, i, z, n _ _ h1, n _ _ h2, h3⟩
theorem Pen.keep (n : Keep H H' l) (e1 : l ≠ p) (e2 : l ≠ c) (h : Pen H p c b) : Pen H' p c b := by
  obtain ⟨ns, i, z, h1, h2, h3⟩ := h
  exact ⟨ns, i, z, n _ _ h1 e1.symm, n _ _ h2 e2.symm, h3⟩
theorem Pen.cells (h : Pen H p c b) : c ≠ p := by
  obtain ⟨ns, i, z, h1, h2, h3⟩ := h
  exact pen_ne h1 h2
end
section
variable {H H' : Hp} {a t l : Addr} {o u : HO} {xs ys : List V} {C dx : Addr} {fs : List (Str × V)}
end
section
variable {H : Hp} {E : XK} {Q : VK} {p c l : Addr} {b : Nat} {m : Int} {xs : List V}
end
section
variable {X : Cx} {K : PySem.W.Frag}
@[irreducible] def sF (C : Addr) (ta tv : TE) (f : Str) : TS := fun D σ H => tv σ H fun y H1 => ta σ H1 fun x H2 => ∃ a dx fs, x = .ref a ∧ H2 a = some (.ins C dx fs) ∧ fs.length < 1000 ∧ D.nx σ (upd H2 a (.ins C dx (putF f y fs)))
end
section
variable {K : PySem.W.Frag} {H : Hp} {σ : L2.St} {Q : VK} {D : Ends} {i j n : Int} {x y v : V} {ta tb tc te tf : TE} {t u : TS} {c d : TT} {k : Bool} {a l p C dx : Addr} {xs ys : List V} {A B : Prop}
end
end Gh
end
section
set_option Elab.async false
set_option linter.all false
set_option maxRecDepth 100000
set_option maxHeartbeats 4000000
namespace Gh
open PySem PySem.Spec PyProof.Rows L2
section
variable {X : Cx} {a b c d : Expr} {ta tb tc td : TE} {pos : Pos}
end
def CallK (X : Cx) (u : Value) (ks : List Str) (r : List V → List V → Hp → VK → Prop) : Prop := ∀ (pins : List (Addr × Obj)) (s : Shared) (σ : L2.St) (H : Hp) (vs zs : List V) (us ws : List Value) (Q : VK), Inv X pins σ H s → Vals vs us → Vals zs ws → r vs zs H Q → wpAny (model X.prog X.w) X.A (call u us (ks.zip ws)) (EP X pins σ Q) X.xe s
def PromK (P : Program) (w : World) (K : PySem.W.Frag) (mg : Str → Option Value) (base : Heap) (CX : CXT) (k : Nat) (f : Addr) (n : Nat) (ks : List Str) (gV : List V → List V → List V) (sp : Sp) : Prop :=
  ∃ (fd : FuncData) (ps : List Str) (g : List Value → List Value → List Value), FnOk P w K mg base CX k f fd ps sp ∧ KBn K fd ps n ks g gV
section
variable {K : PySem.W.Frag} {x qual : Str} {params : Arguments} {body : List Stmt} {scope : Scope} {dvs : List V} {kws : List (Str × V)} {f : Addr} {fd : FuncData} {ps : List Str}
end
section
variable {X : Cx} {CX : CXT} {k n : Nat} {f C : Addr} {ks : List Str} {sp : Sp} {E : XK} {x m : Str} {p pos apos : Pos} {e o : Expr} {es : List Expr} {kws : List Keyword} {t tk : TA} {ta : TE} {gV : List V → List V → List V} {r : List V → List V → Hp → VK → Prop}
def rSpK (n m : Nat) (gV : List V → List V → List V) (sp : Sp) (E : XK) : List V → List V → Hp → VK → Prop := fun vs zs H Q => vs.length = n ∧ zs.length = m ∧ sp (gV vs zs) H Q E
theorem PromK.call (F : PromK X.prog X.w X.K X.mg X.base CX k f n ks gV sp) (hr : Room k X.A) (hx : Passes CX X E) : CallK X (.ref f) ks (rSpK n ks.length gV sp E) := by
  intro pins s σ H vs zs us ws Q I rv rz ⟨l1, l2, h⟩
  obtain ⟨fd, ps, g, G, b⟩ := F
  exact run_fnN G hr b hx I rv rz l1 l2 h
end
section
variable {H : Hp} {σ : L2.St} {Q : VK} {ta : TE} {t tk : TA} {r : List V → List V → Hp → VK → Prop} {C : Addr} {m : Str} {n k : Nat} {gV : List V → List V → List V} {sp : Sp} {E : XK} {vs zs : List V}
end
end Gh
end
section
set_option Elab.async false
set_option linter.all false
set_option maxRecDepth 100000
set_option maxHeartbeats 4000000
namespace Gh
open PySem PySem.Spec PyProof.Rows L2
structure Fn (d : PyData) (n b : Nat) : Prop where
  cl : d.canLay0 = true
  sh : d.showable = true
  nd : d.hasDict = false
  ls : d.leavesShort 200 = true
  dp : d.depth ≤ n
  bk : d.bulk ≤ b
structure FnAll (ds : List PyData) (n b : Nat) : Prop where
  cl : PyData.canLayAll0 ds = true
  sh : PyData.showableAll ds = true
  nd : PyData.hasDictAll ds = false
  ls : PyData.leavesShortAll 200 ds = true
  dp : PyData.depthAll ds ≤ n
  bk : PyData.bulkAll ds ≤ b
theorem log_lt100 {i : Int} (h1 : -(10 ^ 100) < i) (h2 : i < 10 ^ 100) : i.natAbs.log2 < 1920 := by
  have h : i.natAbs < 2 ^ 1920 := Nat.lt_of_lt_of_le (show i.natAbs < 10 ^ 100 by omega) (by decide)
  by_cases h0 : i.natAbs = 0
  · rw [h0]
    decide
  · exact (Nat.log2_lt h0).mpr h
theorem Fn.int {i : Int} (h1 : -(10 ^ 100) < i) (h2 : i < 10 ^ 100) : Fn (.int i) 0 0 := by
  refine ⟨rfl, decide_eq_true (log_lt100 h1 h2), rfl, ?_, Nat.le_refl _, Nat.le_refl _⟩
  have e := int_text_length_le10 (a := i) (k := 100) (by decide) (by omega)
  refine decide_eq_true ?_
  show (Str.ofString (toString i)).length ≤ 200
  rw [PySem.ofString_length]
  omega
theorem Fn.bool (b : Bool) : Fn (.bool b) 0 0 := ⟨rfl, rfl, rfl, rfl, Nat.le_refl _, Nat.le_refl _⟩
theorem Fn.none : Fn .none 0 0 := ⟨rfl, rfl, rfl, rfl, Nat.le_refl _, Nat.le_refl _⟩
theorem Fn.str {x : Str} (h0 : (PyData.str x).canLay0 = true) (h : (x.cps.toList.all fun c => decide (c < 16 ^ 8)) = true) : Fn (.str x) 0 x.cps.size := ⟨h0, rfl, rfl, h, Nat.le_refl _, Nat.le_refl _⟩
theorem FnAll.nil {n b : Nat} : FnAll [] n b := ⟨rfl, rfl, rfl, rfl, Nat.zero_le _, Nat.zero_le _⟩
theorem FnAll.cons {d : PyData} {ds : List PyData} {n b c : Nat} (h : Fn d n b) (k : FnAll ds n c) : FnAll (d :: ds) n (b + 1 + c) := by
  refine ⟨?_, ?_, ?_, ?_, ?_, ?_⟩
  · show (d.canLay0 && _) = true
    rw [h.cl, k.cl] <;> rfl
  · show (d.showable && _) = true
    rw [h.sh, k.sh] <;> rfl
  · show (d.hasDict || _) = false
    rw [h.nd, k.nd] <;> rfl
  · show (d.leavesShort 200 && _) = true
    rw [h.ls, k.ls] <;> rfl
  · show max _ _ ≤ n
    exact Nat.max_le.mpr ⟨h.dp, k.dp⟩
  · show d.bulk + 1 + _ ≤ _
    have := h.bk
    have := k.bk
    omega
theorem Fn.list {ds : List PyData} {n b : Nat} (h : FnAll ds n b) : Fn (.list ds) (n + 1) b := ⟨h.cl, h.sh, h.nd, h.ls, Nat.succ_le_succ h.dp, h.bk⟩
theorem Fn.tuple {ds : List PyData} {n b : Nat} (h : FnAll ds n b) : Fn (.tuple ds) (n + 1) b := ⟨h.cl, h.sh, h.nd, h.ls, Nat.succ_le_succ h.dp, h.bk⟩
section
variable {K : PySem.W.Frag} {H : Hp} {a : Addr} {ns : List Int}
end
section
variable {H H' : Hp} {a l p c : Addr} {u : HO} {b : Nat}
end
section
variable {K : PySem.W.Frag} {H : Hp} {σ : L2.St} {Q : VK} {m : Nat} {tt : TT} {te tl : TE} {vs : List Nat} {t : TA} {a : Addr} {xs : List V}
end
section
variable {H H' : Hp} {a l p c : Addr} {u : HO} {b : Nat}
end
section
variable {K : PySem.W.Frag} {H : Hp} {σ : L2.St} {D : Ends} {m : Nat} {g : TG} {tb : TS} {tl : TE} {t : TA} {a : Addr} {xs : List V}
end
section
end
end Gh
end
section
set_option Elab.async false
set_option linter.all false
set_option maxRecDepth 100000
set_option maxHeartbeats 4000000
namespace Gh
open PySem PySem.Spec PyProof.Rows L2
section
variable {H H' : Hp} {a l p c t : Addr} {o u : HO} {b : Nat} {xs : List V} {T : List (Addr × Str)} {C dx : Addr} {fs : List (Str × V)}
def Fr (H H' : Hp) (p : Addr) : Prop := ∀ a o, H a = some o → a ≠ p → (∀ ps, o ≠ .tbl ps) → H' a = some o
theorem Fr.refl : Fr H H p := fun _ _ h _ _ => h
theorem Fr.trans {H1 : Hp} (n : Fr H H1 p) (k : Fr H1 H' p) : Fr H H' p := fun a o h e z => k a o (n a o h e z) e z
end
section
variable {X : Cx} {H : Hp} {σ : L2.St} {Q : VK} {T : List (Addr × Str)} {TT : (XK → Hp → VK → Prop) → Hp → VK → Prop} {t : XK → TE}
end
end Gh
end
section
set_option Elab.async false
set_option linter.all false
set_option maxRecDepth 100000
set_option maxHeartbeats 4000000
namespace Gh
open PySem PySem.Spec PyProof.Rows L2
section
variable {X : Cx} {CX : CXT} {k : Nat} {C f : Addr} {sp : Sp} {E : XK} {r : List V → Hp → VK → Prop}
def nfB (x : Str) (K : PySem.W.Frag) : Bool := (["NoneType", "bool", "int", "str", "list", "tuple", "dict"] : List String).all fun n => PySem.W.notFirst K (gd x K) (.type n)
theorem InsT.ty {K : PySem.W.Frag} {H : Hp} {a C dx : Addr} {fs : List (Str × V)} (t : InsT K C) (c : Cls K C) (h : H a = some (.ins C dx fs)) : TyX K H (.ref a) (.ref C) := .base (.ins h c t.ha t.hn t.htk t.hm)
end
end Gh
end
section
set_option Elab.async false
set_option linter.all false
set_option maxRecDepth 100000
set_option maxHeartbeats 4000000
namespace Gh
open PySem PySem.Spec PyProof.Rows L2
section
variable {prog : Program} {w : World} {A : Around} {E : Value → Shared → Prop} {s : Shared} {K : PySem.W.Frag} {x C f L : Addr} {h₀ : Heap} {m : Str → Option Value} {ox : Obj} {od : Option Obj} {b tb : Value}
end
section
variable {X : Cx} {CX : CXT} {k : Nat} {C f : Addr} {sp : Sp} {E : XK}
def neB (x : Str) (K : PySem.W.Frag) : Bool := He.eqO (PySem.W.findIn K (.ref (gd x K)) "__ne__") (some (some (.builtin "object.__ne__"))) && decide (PySem.W.subIn K (.ref (gd x K)) (.type "object") = some true)
end
end Gh
end
section
set_option Elab.async false
set_option linter.all false
set_option maxRecDepth 100000
set_option maxHeartbeats 4000000
namespace Gp
open PySem PySem.Spec PyProof.Rows L2 Gh
inductive D where
  | non | bl (b : Bool) | int (i : Int) | str (x : Str) | tup (ds : List D) | lst (ds : List D)
  | obj (c : Str) (fs : List (Str × D)) | err (c : Str) (fs : List (Str × D)) | pen
  | cls (c : Str) | dct | dic (ps : List (Key × D)) | dit (ps : List (List Key × D))
abbrev Fs := List (Str × D)
inductive Tr (α : Type) where
  | ok (a : α) | ex (c : Str) (fs : Fs) | bad | draw (m : Int) (k : Int → Tr α)
section
variable {α β γ : Type}
def bd : Tr α → (α → Tr β) → Tr β
  | .ok a, k => k a
  | .ex c fs, _ => .ex c fs
  | .bad, _ => .bad
  | .draw m f, k => .draw m fun d => bd (f d) k
def Al (P : α → Nat → Prop) (E : Str → Fs → Nat → Prop) : Tr α → Nat → Prop
  | .ok a, b => P a b
  | .ex c fs, b => E c fs b
  | .bad, _ => False
  | .draw m k, b => ∃ b', b = b' + 1 ∧ 0 < m ∧ m < 10 ^ 100 ∧ ∀ d, 0 ≤ d → d < m → Al P E (k d) b'
theorem Al.mono {P P' : α → Nat → Prop} {E E' : Str → Fs → Nat → Prop} (hP : ∀ a b, P a b → P' a b) (hE : ∀ c fs b, E c fs b → E' c fs b) {m : Tr α} {b : Nat} (h : Al P E m b) : Al P' E' m b := by
  induction m generalizing b with
  | ok a => exact hP _ _ h
  | ex c fs => exact hE _ _ _ h
  | bad => exact h
  | draw m f ih =>
    obtain ⟨b', e, h1, h2, h3⟩ := h
    exact ⟨b', e, h1, h2, fun d d0 d1 => ih d (h3 d d0 d1)⟩
end
structure Gw where
  K : PySem.W.Frag
  T : List (Addr × Str)
  p : Addr
  c : Addr
mutual
inductive Den (g : Gw) (U : Addr → Prop) (H : Hp) : V → D → Prop
  | non : Den g U H .non .non
  | bl (b : Bool) : Den g U H (.bl b) (.bl b)
  | int (i : Int) : Den g U H (.int i) (.int i)
  | str (x : Str) : x.length ≤ sizeLine → Den g U H (.str x) (.str x)
  | tup {a : Addr} {vs : List V} {ds : List D} : H a = some (.tup vs) → ¬ U a → vs.length ≤ sizeLine → DenL g U H vs ds → Den g U H (.ref a) (.tup ds)
  | tupW {a : Addr} {vs : List V} {ds : List D} : (∀ H', SqT g.K H' a vs) → vs.length ≤ sizeLine → DenL g U H vs ds → Den g U H (.ref a) (.tup ds)
  | lst {a : Addr} {vs : List V} {ds : List D} : H a = some (.lst vs) → ¬ U a → vs.length ≤ sizeLine → DenL g U H vs ds → Den g U H (.ref a) (.lst ds)
  | obj {a dx : Addr} {c : Str} {fvs : List (Str × V)} {fs : List (Str × D)} : H a = some (.ins (gd c g.K) dx fvs) → ¬ U a → DenF g U H fvs fs → Den g U H (.ref a) (.obj c fs)
  | err {a d : Addr} {c : Str} {fvs : List (Str × V)} {fs : List (Str × D)} : H a = some (exk a (gd c g.K) d) → ¬ U a → H d = some (.xd fvs) → ¬ U d → DenF g U H fvs fs → Den g U H (.ref a) (.err c fs)
  | pen : Den g U H (.ref g.p) .pen
  | cls (c : Str) : Den g U H (.ref (gd c g.K)) (.cls c)
  | dct {a : Addr} : H a = some (.dK []) → ¬ U a → Den g U H (.ref a) .dct
  | dic {a : Addr} {kvs : List (Key × V)} {ps : List (Key × D)} : H a = some (.dK kvs) → ¬ U a → kvs.map (·.1) = ps.map (·.1) → DenL g U H (kvs.map (·.2)) (ps.map (·.2)) → Den g U H (.ref a) (.dic ps)
  | dit {a : Addr} {kvs : List (List Key × V)} {ps : List (List Key × D)} : H a = some (.dT kvs) → ¬ U a → kvs.map (·.1) = ps.map (·.1) → DenL g U H (kvs.map (·.2)) (ps.map (·.2)) → Den g U H (.ref a) (.dit ps)
inductive DenL (g : Gw) (U : Addr → Prop) (H : Hp) : List V → List D → Prop
  | nil : DenL g U H [] []
  | cons {v : V} {vs : List V} {d : D} {ds : List D} : Den g U H v d → DenL g U H vs ds → DenL g U H (v :: vs) (d :: ds)
inductive DenF (g : Gw) (U : Addr → Prop) (H : Hp) : List (Str × V) → List (Str × D) → Prop
  | nil : DenF g U H [] []
  | cons {n : Str} {v : V} {vs : List (Str × V)} {d : D} {ds : List (Str × D)} : Den g U H v d → DenF g U H vs ds → DenF g U H ((n, v) :: vs) ((n, d) :: ds)
end
section
variable {g : Gw} {U U' : Addr → Prop} {H H' : Hp}
def ExtU (U : Addr → Prop) (H H' : Hp) : Prop := ∀ a o, H a = some o → ¬ U a → (∀ ps, o ≠ .tbl ps) → H' a = some o
mutual
theorem Den.ext (e : ExtU U H H') : ∀ {v : V} {d : D}, Den g U H v d → Den g U H' v d
  | _, _, .non => .non
  | _, _, .bl b => .bl b
  | _, _, .int i => .int i
  | _, _, .str x h => .str x h
  | _, _, .tup h n l k => .tup (e _ _ h n (fun _ z => by cases z)) n l (DenL.ext e k)
  | _, _, .tupW h l k => .tupW h l (DenL.ext e k)
  | _, _, .lst h n l k => .lst (e _ _ h n (fun _ z => by cases z)) n l (DenL.ext e k)
  | _, _, .obj h n k => .obj (e _ _ h n (fun _ z => by cases z)) n (DenF.ext e k)
  | _, _, .err h n h2 n2 k => .err (e _ _ h n (fun _ z => by unfold exk at z; cases z)) n (e _ _ h2 n2 (fun _ z => by cases z)) n2 (DenF.ext e k)
  | _, _, .pen => .pen
  | _, _, .cls c => .cls c
  | _, _, .dct h n => .dct (e _ _ h n (fun _ z => by cases z)) n
  | _, _, .dic h n l k => .dic (e _ _ h n (fun _ z => by cases z)) n l (DenL.ext e k)
  | _, _, .dit h n l k => .dit (e _ _ h n (fun _ z => by cases z)) n l (DenL.ext e k)
theorem DenL.ext (e : ExtU U H H') : ∀ {vs : List V} {ds : List D}, DenL g U H vs ds → DenL g U H' vs ds
  | _, _, .nil => .nil
  | _, _, .cons a r => .cons (Den.ext e a) (DenL.ext e r)
theorem DenF.ext (e : ExtU U H H') : ∀ {vs : List (Str × V)} {ds : List (Str × D)}, DenF g U H vs ds → DenF g U H' vs ds
  | _, _, .nil => .nil
  | _, _, .cons a r => .cons (Den.ext e a) (DenF.ext e r)
end
mutual
theorem Den.sub (e : ∀ a, (∃ o, H a = some o) → U' a → U a) : ∀ {v : V} {d : D}, Den g U H v d → Den g U' H v d
  | _, _, .non => .non
  | _, _, .bl b => .bl b
  | _, _, .int i => .int i
  | _, _, .str x h => .str x h
  | _, _, .tup h n l k => .tup h (fun z => n (e _ ⟨_, h⟩ z)) l (DenL.sub e k)
  | _, _, .tupW h l k => .tupW h l (DenL.sub e k)
  | _, _, .lst h n l k => .lst h (fun z => n (e _ ⟨_, h⟩ z)) l (DenL.sub e k)
  | _, _, .obj h n k => .obj h (fun z => n (e _ ⟨_, h⟩ z)) (DenF.sub e k)
  | _, _, .err h n h2 n2 k => .err h (fun z => n (e _ ⟨_, h⟩ z)) h2 (fun z => n2 (e _ ⟨_, h2⟩ z)) (DenF.sub e k)
  | _, _, .pen => .pen
  | _, _, .cls c => .cls c
  | _, _, .dct h n => .dct h (fun z => n (e _ ⟨_, h⟩ z))
  | _, _, .dic h n l k => .dic h (fun z => n (e _ ⟨_, h⟩ z)) l (DenL.sub e k)
  | _, _, .dit h n l k => .dit h (fun z => n (e _ ⟨_, h⟩ z)) l (DenL.sub e k)
theorem DenL.sub (e : ∀ a, (∃ o, H a = some o) → U' a → U a) : ∀ {vs : List V} {ds : List D}, DenL g U H vs ds → DenL g U' H vs ds
  | _, _, .nil => .nil
  | _, _, .cons a r => .cons (Den.sub e a) (DenL.sub e r)
theorem DenF.sub (e : ∀ a, (∃ o, H a = some o) → U' a → U a) : ∀ {vs : List (Str × V)} {ds : List (Str × D)}, DenF g U H vs ds → DenF g U' H vs ds
  | _, _, .nil => .nil
  | _, _, .cons a r => .cons (Den.sub e a) (DenF.sub e r)
end
theorem DenL.length : ∀ {vs : List V} {ds : List D}, DenL g U H vs ds → vs.length = ds.length
  | _, _, .nil => rfl
  | _, _, .cons _ r => congrArg (· + 1) (DenL.length r)
theorem DenL.append : ∀ {vs ws : List V} {ds es : List D}, DenL g U H vs ds → DenL g U H ws es → DenL g U H (vs ++ ws) (ds ++ es)
  | _, _, _, _, .nil, k => k
  | _, _, _, _, .cons a r, k => .cons a (DenL.append r k)
theorem DenL.get : ∀ {vs : List V} {ds : List D} {i : Nat} {v : V}, DenL g U H vs ds → vs[i]? = some v → ∃ d, ds[i]? = some d ∧ Den g U H v d
  | _, _, i, v, .nil, e => by simp at e
  | _, _, 0, v, .cons a r, e => by simp at e; subst e; exact ⟨_, rfl, a⟩
  | _, _, i + 1, v, .cons a r, e => by
    obtain ⟨d, h1, h2⟩ := DenL.get (i := i) (v := v) r (by simpa using e)
    exact ⟨d, by simpa using h1, h2⟩
theorem DenL.getD : ∀ {vs : List V} {ds : List D} {i : Nat} {d : D}, DenL g U H vs ds → ds[i]? = some d → ∃ v, vs[i]? = some v ∧ Den g U H v d
  | _, _, i, v, .nil, e => by simp at e
  | _, _, 0, v, .cons a r, e => by simp at e; subst e; exact ⟨_, rfl, a⟩
  | _, _, i + 1, v, .cons a r, e => by
    obtain ⟨d, h1, h2⟩ := DenL.getD (i := i) (d := v) r (by simpa using e)
    exact ⟨d, by simpa using h1, h2⟩
theorem DenF.look : ∀ {vs : List (Str × V)} {ds : List (Str × D)} {n : Str} {d : D}, DenF g U H vs ds → ds.lookup n = some d → ∃ v, vs.lookup n = some v ∧ Den g U H v d
  | _, _, _, _, .nil, e => by cases e
  | _, _, n, d, .cons (n := m) a r, e => by
    simp only [List.lookup] at e ⊢
    cases q : (n == m) with
    | true => rw [q] at e; cases e; exact ⟨_, rfl, a⟩
    | false => rw [q] at e; exact DenF.look r e
def putD (f : Str) (v : D) : List (Str × D) → List (Str × D)
  | [] => [(f, v)]
  | (g, x) :: r => if g = f then (g, v) :: r else (g, x) :: putD f v r
theorem DenF.length : ∀ {vs : List (Str × V)} {ds : List (Str × D)}, DenF g U H vs ds → vs.length = ds.length
  | _, _, .nil => rfl
  | _, _, .cons _ r => congrArg (· + 1) (DenF.length r)
end
structure Wd (g : Gw) (H : Hp) (b : Nat) : Prop where
  pen : Pen H g.p g.c b
  tabs : LamX.Tabs g.T H
structure UOk (g : Gw) (U : Addr → Prop) (H : Hp) : Prop where
  p : U g.p
  c : U g.c
  al : ∀ a, U a → ∃ o, H a = some o ∧ ∀ ps, o ≠ .tbl ps
section
variable {g : Gw} {U U' : Addr → Prop} {H H' H1 H2 : Hp} {b : Nat}
theorem UOk.extU (u : UOk g U H) (f : Fr H H' g.p) : ExtU U H H' := fun a o h n z => f a o h (fun e => n (e ▸ u.p)) z
theorem UOk.fr (u : UOk g U H) (f : Fr H H' g.p) (w : Wd g H' b) : UOk g U H' := ⟨u.p, u.c, fun a ha => by
  by_cases e : a = g.p
  · subst e
    obtain ⟨ns, i, z, h, _⟩ := w.pen
    exact ⟨_, h, fun _ z => by cases z⟩
  · obtain ⟨o, h, n⟩ := u.al a ha
    exact ⟨o, f a o h e n, n⟩⟩
theorem Den.fr (u : UOk g U H) (f : Fr H H' g.p) {v : V} {d : D} (h : Den g U H v d) : Den g U H' v d := h.ext (u.extU f)
theorem DenL.fr (u : UOk g U H) (f : Fr H H' g.p) {v : List V} {d : List D} (h : DenL g U H v d) : DenL g U H' v d := h.ext (u.extU f)
theorem Wd.same (w : Wd g H b) (s : L2.Same H H') : Wd g H' b := ⟨w.pen.same s, w.tabs.ext s⟩
end
inductive Sl where
  | no | fz (d : D) | ow (ds : List D) | oi (c : Str) (fs : Fs)
abbrev Env := List Sl
def SlR (g : Gw) (U : Addr → Prop) (H : Hp) (o : Option V) : Sl → Prop
  | .no => True
  | .fz d => ∃ v, o = some v ∧ Den g U H v d
  | .ow ds => ∃ a vs, o = some (.ref a) ∧ H a = some (.lst vs) ∧ vs.length ≤ sizeLine ∧ DenL g U H vs ds ∧ U a ∧ a ≠ g.p ∧ a ≠ g.c
  | .oi c fs => ∃ a dx fvs, o = some (.ref a) ∧ H a = some (.ins (gd c g.K) dx fvs) ∧ DenF g U H fvs fs ∧ U a ∧ a ≠ g.p ∧ a ≠ g.c
def OwnAt (σ : L2.St) (ε : Env) (i : Nat) (a : Addr) : Prop := σ[i]? = some (some (.ref a)) ∧ ((∃ ds, ε[i]? = some (.ow ds)) ∨ ∃ c fs, ε[i]? = some (.oi c fs))
structure Rel (g : Gw) (U : Addr → Prop) (H : Hp) (σ : L2.St) (ε : Env) : Prop where
  len : σ.length = ε.length
  at_ : ∀ (i : Nat) (s : Sl), ε[i]? = some s → ∃ o, σ[i]? = some o ∧ SlR g U H o s
  apart : ∀ (i j : Nat) (a : Addr), i ≠ j → OwnAt σ ε i a → OwnAt σ ε j a → False
section
variable {g : Gw} {U U' : Addr → Prop} {H H' H1 H2 : Hp} {b : Nat} {σ : L2.St} {ε : Env}
theorem extU_of (hp : U g.p) (f : Fr H H' g.p) : ExtU U H H' := fun a o h n z => f a o h (fun e => n (e ▸ hp)) z
theorem SlR.frp (hp : U g.p) (f : Fr H H' g.p) {o : Option V} : ∀ {s : Sl}, SlR g U H o s → SlR g U H' o s
  | .no, _ => trivial
  | .fz d, ⟨v, e, h⟩ => ⟨v, e, h.ext (extU_of hp f)⟩
  | .ow ds, ⟨a, vs, e, h, l, k, ua, n1, n2⟩ => ⟨a, vs, e, f _ _ h n1 (fun _ z => by cases z), l, k.ext (extU_of hp f), ua, n1, n2⟩
  | .oi c fs, ⟨a, dx, fvs, e, h, k, ua, n1, n2⟩ => ⟨a, dx, fvs, e, f _ _ h n1 (fun _ z => by cases z), k.ext (extU_of hp f), ua, n1, n2⟩
theorem SlR.fr (u : UOk g U H) (f : Fr H H' g.p) {o : Option V} {s : Sl} (h : SlR g U H o s) : SlR g U H' o s := h.frp u.p f
theorem Rel.frp (r : Rel g U H σ ε) (hp : U g.p) (f : Fr H H' g.p) : Rel g U H' σ ε := ⟨r.len, fun i s e => by
  obtain ⟨o, h1, h2⟩ := r.at_ i s e
  exact ⟨o, h1, h2.frp hp f⟩, r.apart⟩
theorem Rel.fr (r : Rel g U H σ ε) (u : UOk g U H) (f : Fr H H' g.p) : Rel g U H' σ ε := ⟨r.len, fun i s e => by
  obtain ⟨o, h1, h2⟩ := r.at_ i s e
  exact ⟨o, h1, h2.fr u f⟩, r.apart⟩
def okP (g : Gw) (U : Addr → Prop) (H : Hp) (Q : VK) : D → Nat → Prop := fun d b => ∀ v H', Den g U H' v d → Wd g H' b → Fr H H' g.p → Q v H'
def exP (g : Gw) (U : Addr → Prop) (E : XK) (H : Hp) : Str → Fs → Nat → Prop := fun c fs b => ∀ dd fvs H', H' dd = some (.xd fvs) → ¬ U dd → DenF g U H' fvs fs → Wd g H' b → Fr H H' g.p → E (.ref (gd c g.K)) (some dd) H'
theorem exP.fr {E : XK} {c : Str} {fs : Fs} (f : Fr H H1 g.p) (h : exP g U E H c fs b) : exP g U E H1 c fs b := fun dd fvs H' h1 h2 h3 h4 h5 => h dd fvs H' h1 h2 h3 h4 (f.trans h5)
theorem okP.fr {Q : VK} {d : D} (f : Fr H H1 g.p) (h : okP g U H Q d b) : okP g U H1 Q d b := fun v H' h1 h2 h3 => h v H' h1 h2 (f.trans h3)
theorem okP.here {Q : VK} {d : D} {v : V} (h : okP g U H Q d b) (w : Wd g H b) (dn : Den g U H v d) : Q v H := h v H dn w Fr.refl
variable {E : XK} {ta tb tc : TE} {ma mb : Tr D}
end
end Gp
end
section
set_option Elab.async false
set_option linter.all false
set_option maxRecDepth 100000
set_option maxHeartbeats 4000000
namespace Gp
open PySem PySem.Spec PyProof.Rows L2 Gh
inductive Fl (W L : Type) where
  | nx (w : W) | rt (d : D) | bk (l : L) | ct (l : L)
def FrM (g : Gw) (Mt : Addr → Prop) (H H' : Hp) : Prop := ∀ a o, H a = some o → a ≠ g.p → ¬ Mt a → (∀ ps, o ≠ .tbl ps) → H' a = some o
structure Stt (g : Gw) (Mt U0 : Addr → Prop) (H0 : Hp) (U : Addr → Prop) (σ : L2.St) (H : Hp) (b : Nat) (ε : Env) : Prop where
  rel : Rel g U H σ ε
  wd : Wd g H b
  uok : UOk g U H
  sub : ∀ a, U0 a → U a
  own : ∀ i a, OwnAt σ ε i a → Mt a ∨ ∀ o, H0 a = some o → ∃ ps, o = .tbl ps
  ext : FrM g Mt H0 H
  nu0 : ∀ (i : Nat) (ds : List D) (a : Addr), ε[i]? = some (.ow ds) → σ[i]? = some (some (.ref a)) → ¬ U0 a
  oim : ∀ (i : Nat) (c : Str) (fs : Fs) (a : Addr), ε[i]? = some (.oi c fs) → σ[i]? = some (some (.ref a)) → Mt a
section
variable {g : Gw} {Mt U0 U U' : Addr → Prop} {H0 H H' H1 H2 : Hp} {b b1 : Nat} {σ : L2.St} {ε ε' : Env} {E : XK} {W L W' : Type}
structure Ev (U : Addr → Prop) (H : Hp) (U' : Addr → Prop) (H' : Hp) : Prop where
  keep : ∀ a o, H a = some o → ¬ U a → (∀ ps, o ≠ .tbl ps) → H' a = some o
  out : ∀ a o, H a = some o → ¬ U a → (∀ ps, o ≠ .tbl ps) → ¬ U' a
theorem Ev.refl : Ev U H U H := ⟨fun _ _ h _ _ => h, fun _ _ _ n _ => n⟩
theorem Ev.trans {U1 : Addr → Prop} {H1 : Hp} (h : Ev U H U1 H1) (k : Ev U1 H1 U' H') : Ev U H U' H' := ⟨fun a o e n t => k.keep a o (h.keep a o e n t) (h.out a o e n t) t, fun a o e n t => k.out a o (h.keep a o e n t) (h.out a o e n t) t⟩
theorem FrM.trans (h : FrM g Mt H0 H) (f : Fr H H' g.p) : FrM g Mt H0 H' := fun a o e n1 n2 n3 => f a o (h a o e n1 n2 n3) n1 n3
theorem Stt.fr (s : Stt g Mt U0 H0 U σ H b ε) (f : Fr H H' g.p) (w : Wd g H' b1) : Stt g Mt U0 H0 U σ H' b1 ε := ⟨s.rel.fr s.uok f, w, s.uok.fr f w, s.sub, s.own, s.ext.trans f, s.nu0, s.oim⟩
def flP (g : Gw) (Mt U0 : Addr → Prop) (H0 : Hp) (U : Addr → Prop) (H : Hp) (D : Ends) (env : W → Env) (envL : L → Env) : Fl W L → Nat → Prop
  | .nx w, b => ∀ U' σ' H', Ev U H U' H' → Stt g Mt U0 H0 U' σ' H' b (env w) → D.nx σ' H'
  | .rt d, b => ∀ v H, Den g U0 H v d → Wd g H b → FrM g Mt H0 H → D.rt v H
  | .bk w, b => ∀ U' σ' H', Ev U H U' H' → Stt g Mt U0 H0 U' σ' H' b (envL w) → D.bk σ' H'
  | .ct w, b => ∀ U' σ' H', Ev U H U' H' → Stt g Mt U0 H0 U' σ' H' b (envL w) → D.ct σ' H'
def exS (g : Gw) (Mt U0 : Addr → Prop) (H0 : Hp) (E : XK) : Str → Fs → Nat → Prop := fun c fs b => ∀ dd fvs H, H dd = some (.xd fvs) → ¬ U0 dd → DenF g U0 H fvs fs → Wd g H b → FrM g Mt H0 H → E (.ref (gd c g.K)) (some dd) H
theorem exS.exP (s : Stt g Mt U0 H0 U σ H b ε) {c : Str} {fs : Fs} (h : exS g Mt U0 H0 E c fs b1) : exP g U E H c fs b1 := fun dd fvs H' h1 h2 h3 h4 h5 =>
  h dd fvs H' h1 (fun z => h2 (s.sub _ z)) (h3.sub fun a _ z => s.sub a z) h4 (s.ext.trans h5)
inductive Le : Env → Env → Prop
  | nil : Le [] []
  | s {x : Sl} {a b : Env} : Le a b → Le (x :: a) (x :: b)
  | n {x : Sl} {a b : Env} : Le a b → Le (.no :: a) (x :: b)
theorem Le.refl : ∀ ε : Env, Le ε ε
  | [] => .nil
  | _ :: r => .s (Le.refl r)
theorem Le.len : ∀ {a b : Env}, Le a b → a.length = b.length
  | _, _, .nil => rfl
  | _, _, .s h => congrArg (· + 1) h.len
  | _, _, .n h => congrArg (· + 1) h.len
theorem Le.get : ∀ {a b : Env}, Le a b → ∀ {i : Nat} {s : Sl}, a[i]? = some s → s = .no ∧ (∃ z, b[i]? = some z) ∨ b[i]? = some s
  | _, _, .nil, _, _, e => by simp at e
  | _, _, .s h, 0, _, e => .inr e
  | _, _, .n h, 0, _, e => by simp at e; exact .inl ⟨e.symm, _, rfl⟩
  | _, _, .s h, i + 1, z, e => by simpa using h.get (i := i) (s := z) (by simpa using e)
  | _, _, .n h, i + 1, z, e => by simpa using h.get (i := i) (s := z) (by simpa using e)
variable {env : W → Env} {envL : L → Env} {env' : W' → Env} {u ta tb : TS} {te : TE} {me : Tr D}
section
variable {α : Type} {P : α → Nat → Prop} {X : Str → Fs → Nat → Prop} {ds : List D}
end
def SX (g : Gw) (E : XK) (ε : Env) (d : D) (gt : TG) (tb : TS) (env : W → Env) (envL : L → Env) (m : Tr (Fl W L)) : Prop := ∀ Mt U0 H0 U D σ H b v, Stt g Mt U0 H0 U σ H b ε → Den g U H v d → Al (flP g Mt U0 H0 U H D env envL) (exS g Mt U0 H0 E) m b → gt v σ H fun σ2 H2 => tb D σ2 H2
end
end Gp
end
section
set_option Elab.async false
set_option linter.all false
set_option maxRecDepth 100000
set_option maxHeartbeats 4000000
namespace Gp
open PySem PySem.Spec PyProof.Rows L2 Gh
section
variable {g : Gw} {Mt U0 U U' : Addr → Prop} {H0 H H' H1 H2 : Hp} {b b1 : Nat} {σ : L2.St} {ε ε' : Env} {E : XK} {W L W' : Type}
variable {env : W → Env} {envL : L → Env} {env' : W' → Env} {u ta tb : TS} {te : TE} {me : Tr D}
abbrev EF : XK := fun _ _ _ => False
theorem exP.F {c : Str} {fs : Fs} (h : False) : exP g U EF H c fs b := h.elim
end
end Gp
end
section
set_option Elab.async false
set_option linter.all false
set_option maxRecDepth 100000
set_option maxHeartbeats 4000000
namespace Gp
open PySem PySem.Spec PyProof.Rows L2 Gh
section
variable {g : Gw} {Mt U0 U U' : Addr → Prop} {H0 H H' H1 H2 : Hp} {b b1 : Nat} {σ : L2.St} {ε ε' : Env} {E : XK} {W L W' : Type}
variable {env : W → Env} {envL : L → Env} {env' : W' → Env} {u ta tb : TS} {te : TE} {me : Tr D}
def fin (m : Tr (Fl Unit Empty)) : Tr D := bd m fun f => match f with
  | .nx _ => .ok .non
  | .rt d => .ok d
  | .bk e => nomatch e
  | .ct e => nomatch e
def isO {α : Type} (c : Str) (o : D) (k : Fs → Tr α) : Tr α := match o with
  | .obj c' fs => if c' = c then k fs else .bad
  | _ => .bad
end
end Gp
end
section
set_option Elab.async false
set_option linter.all false
set_option maxRecDepth 100000
set_option maxHeartbeats 4000000
namespace Gp
open PySem PySem.Spec PyProof.Rows L2 Gh
mutual
def toPy : D → Option PyData
  | .non => some .none
  | .bl b => some (.bool b)
  | .int i => some (.int i)
  | .str x => some (.str x)
  | .tup ds => (toPyL ds).map .tuple
  | .lst ds => (toPyL ds).map .list
  | .obj _ _ => none
  | .err _ _ => none
  | .pen => none
  | .cls _ => none
  | .dct => none
  | .dic _ => none
  | .dit _ => none
def toPyL : List D → Option (List PyData)
  | [] => some []
  | d :: ds => match toPy d, toPyL ds with
    | some e, some es => some (e :: es)
    | _, _ => none
end
section
variable {g : Gw} {U : Addr → Prop} {H H' H1 : Hp} {b : Nat} {E : XK} {Q : VK}
end
end Gp
end
section
set_option Elab.async false
set_option linter.all false
set_option maxRecDepth 100000
set_option maxHeartbeats 4000000
namespace Gp
open PySem PySem.Spec PyProof.Rows L2 Gh
section
variable {g : Gw} {Mt U0 U U' : Addr → Prop} {H0 H H' H1 H2 : Hp} {b b1 : Nat} {σ : L2.St} {ε ε' : Env} {E : XK} {Q : VK} {W L W' : Type}
variable {env : W → Env} {envL : L → Env} {env' : W' → Env} {u ta tb : TS} {te : TE} {me : Tr D}
def shwD (d : D) : Option Str := match d with
  | .non => some "None"
  | .bl b => some (if b then "True" else "False")
  | .int i => if i.natAbs.log2 < 1920 then some (toString i) else none
  | .str x => if (reprText x).length ≤ sizeLine then some (reprText x) else none
  | d => match toPy d with
    | some e => if e.showable = true ∧ e.hasDict = false ∧ e.depth ≤ 100 ∧ e.shown.length ≤ sizeLine then some e.shown else none
    | none => none
def reprD (d : D) : Tr D := match shwD d with
  | some x => if x.length ≤ sizeLine then .ok (.str x) else .bad
  | none => .bad
end
end Gp
end
section
set_option Elab.async false
set_option linter.all false
set_option maxRecDepth 100000
set_option maxHeartbeats 4000000
namespace Gp
open PySem PySem.Spec PyProof.Rows L2 Gh
section
variable {g : Gw} {Mt U0 U U' : Addr → Prop} {H0 H H' H1 H2 : Hp} {b b1 : Nat} {σ : L2.St} {ε ε' : Env} {E : XK} {Q : VK} {W L W' : Type}
variable {env : W → Env} {envL : L → Env} {env' : W' → Env} {u ta tb : TS} {te : TE} {me : Tr D}
theorem look_cons {α : Type} {a c : Str} {x k : α} {r : List (Str × α)} (h : ((a, x) :: r).lookup c = some k) : (c = a ∧ k = x) ∨ r.lookup c = some k := by
  simp only [List.lookup] at h
  split at h
  · rename_i z
    cases h
    exact .inl ⟨beq_iff_eq.mp z, rfl⟩
  · exact .inr h
section
variable {K : PySem.W.Frag} {T : List (Addr × Str)} {N : List Str} {cn : Str} {vs : List V} {t : TS} {envI : Fs → Env}
end
def Yes (F : Tr D) : Prop := Al (fun d _ => d = .bl true) (fun _ _ _ => False) F 1000000
def eqO (c : Str) (f : D → Bool) (F : List D → Tr D) (x y : D) : Tr D := isO c x fun _ => if f y = true then F [x, y] else .bad
end
end Gp
namespace Gp
open PySem PySem.Spec PyProof.Rows L2 Gh
section
variable {g : Gw}
end
end Gp
namespace Gp
open PySem PySem.Spec PyProof.Rows L2 Gh
end Gp
end
section
set_option Elab.async false
set_option linter.all false
set_option maxRecDepth 100000
set_option maxHeartbeats 4000000
namespace Gp
open PySem PySem.Spec PyProof.Rows L2 Gh
structure SupX (X : Cx) (D f cda cc : Addr) (ar : Str) : Prop where
  fu : X.env.func = some f
  co : X.env.code = .ref cda
  lkf : ∃ oc od fd osl a, X.K.lookup f = some ⟨oc, od, .func fd, osl⟩ ∧ (fd.params.posonlyargs ++ fd.params.args).head? = some a ∧ a.arg = ar
  lkc : ∃ ccl cdd vs ccs file tf, X.K.lookup cda = some ⟨ccl, cdd, .fields vs, ccs⟩ ∧ vs[2]? = some (.str file tf) ∧ ((X.prog.main.file : Str) == file) = true
  top : (X.prog.main.scope.names.lookup ("super" : Str)).isSome = false
  ks : X.env.kindOf "super" = some .globalImplicit
  kc : X.env.kindOf "__class__" = some .free
  cell : X.env.cells.lookup ("__class__" : Str) = some cc
  lkl : ∃ cl cld csl, X.K.lookup cc = some ⟨cl, cld, .cell (some (.ref D)), csl⟩
  cD : ∃ cd, PySem.W.clsIn X.K D = some cd
  mg : X.mg "super" = none
  st : PySem.W.nsIn X.K cStatics "thirdparty.any" = some none
  n0 : X.N[0]? = some ar
  ka : X.env.kindOf ar = some .local
structure SupC (K : PySem.W.Frag) (C D : Addr) (m : Str) (f2 : Addr) : Prop where
  sub : PySem.W.mroIn K C (.ref D) = some true
  sup : PySem.W.ks_superIn K C D m = some (some (.ref f2))
  ty : PySem.W.typeIn K (.ref f2) = some (.type "function")
  fn : PySem.W.fnIn K f2 = true
theorem sup_run {X : Cx} {D f cda cc f2 : Addr} {ar m : Str} {body : List Stmt} {p0 p1 apos pos epos : Pos} {e : Expr} {es : List Expr} {ta : TA} {CX : CXT} {k : Nat} {dvs : List V} {sp : Sp} {E : XK} {pl : Sem Bool} {pins : List (Addr × Obj)} {s : Shared} {σ : L2.St} {H : Hp} {Dn : L2.St → Hp → Prop}
    (S : SupX X D f cda cc ar) (hm : (m == ("__class__" : Str)) = false) (ha : PA X (e :: es) ta) (G : PromOX X CX k f2 dvs sp) (hr : Room k X.A) (hx : Passes CX X E) (I : Inv X pins σ H s)
    (h : ∃ a C dx fs, σ[0]? = some (some (.ref a)) ∧ H a = some (.ins C dx fs) ∧ SupC X.K C D m f2 ∧ ta σ H fun vs H1 => sp (.ref a :: (vs ++ dvs)) H1 (fun _ H2 => Dn σ H2) E)
    (hst : starEach (e :: es) X.env = (false, eval e X.env) :: starEach es X.env := by rfl) (hpl : (backTo pos (starEach es X.env)).any (·.1) = false := by rfl)
    (he : eval (.Call (.Attribute (.Call (.Name "super" p0) [] [] p1) m apos) (e :: es) [] pos) X.env = (do
      let ov ← attributeBase (.Call (.Name "super" p0) [] [] p1) m X.env (eval (.Call (.Name "super" p0) [] [] p1) X.env)
      standAt apos.atName
      let (f, first) ← holding [ov] (getMethod ov m pl)
      callWith pos f first (backTo pos (starEach (e :: es) X.env)) []) := by rfl)
    (hsw : swapsWith (.Call (.Attribute (.Call (.Name "super" p0) [] [] p1) m apos) (e :: es) [] pos) none epos.line X.env = pure false := by rfl) :
    _root_.PySem.wpAt (model X.prog X.w) X.A (.func body X.env) (exec (.Expr (.Call (.Attribute (.Call (.Name "super" p0) [] [] p1) m apos) (e :: es) [] pos) epos) X.env) (fun fl s' => fl = .next ∧ ∃ H', Inv X pins σ H' s' ∧ Dn σ H') X.xe s := by
  obtain ⟨a, C, dx, fs, h0, hi, sc, q⟩ := h
  have KX := I.kIn
  obtain ⟨oc, od, fd, osl, ag, lkf, hp, rfl⟩ := S.lkf
  obtain ⟨ccl, cdd, vs, ccs, file, tf, lkc, hvs, hfile⟩ := S.lkc
  obtain ⟨cl, cld, csl, lkl⟩ := S.lkl
  obtain ⟨cdD, hD⟩ := S.cD
  obtain ⟨ox, od', J⟩ := ins_look I hi
  obtain ⟨oD, hD1, hD2⟩ : ∃ oD, s.heap.get? D = some oD ∧ oD.data = .cls cdD := by
    unfold PySem.W.clsIn at hD
    split at hD
    · rename_i ho
      cases hD
      exact ⟨_, KX _ _ ho, rfl⟩
    · cases hD
  have nc : ∀ c, ox.data ≠ .cls c := fun c e => by
    have := J.no
    unfold PySem.W.notCls at this
    rw [e] at this
    exact Bool.noConfusion this
  refine ks_wpAt_Expr_any (ks_wpAt_MethodCall (pl := pl) (ks_wpAt_super_base S.ks S.kc hm S.fu (KX _ _ lkf) rfl hp S.co (KX _ _ lkc) rfl hvs hfile S.top ?_) he) I.quiet hsw
  obtain ⟨mb, b1, b2⟩ := I.mod.blt
  refine PySem.W.ks_loadName_global I.ok.kind S.ks (Calls.loadGlobal_builtin (by rw [I.ok.glob]; exact I.mod.glob.keeps I.bk) S.mg (by rw [I.ok.blt]; exact b1.keeps I.bk) ((b2 "super" (by decide)).trans (show bootBuiltins "super" = some (.type "super") by decide +kernel)) ⟨rfl, ?_⟩)
  refine wpAny_loadName_free I.ok.kind S.kc S.cell ⟨_, KX _ _ lkl, rfl⟩ ?_
  obtain ⟨mm, hn, hl⟩ := I.loc
  obtain ⟨u, ru, hu⟩ := hl 0 ag.arg (.ref a) S.n0 h0 (.inl S.ka)
  have eu : u = Value.ref a := ru
  subst eu
  have hv : mm ag.arg = some (.ref a) := by
    rcases hu with z | ⟨z, _⟩
    · exact z.2
    · rcases z with z | z <;> rw [S.ka] at z <;> cases z
  refine wpAny_loadName_local I.ok.kind S.ka hn hv ?_
  obtain ⟨hh, g, d, t, os⟩ := s
  refine ks_wpAny_isType_cls hD1 hD2 ⟨rfl, ?_⟩
  refine ks_wpAny_call_super hD1 hD2 J.at_ J.cls nc (PySem.W.looks_mroIn KX sc.sub) (fun h1 e1 k1 => ?_)
  cases hcC : PySem.W.clsIn X.K C with
  | none =>
    have z := sc.sup
    unfold PySem.W.ks_superIn at z
    rw [hcC] at z
    cases z
  | some cdC =>
    have K1 : X.K.In h1 := KX.keeps k1
    obtain ⟨of, hof, hofc⟩ : ∃ of, h1.get? f2 = some of ∧ of.cls = .type "function" := by
      have ht' : (X.K.lookup f2).map (·.cls) = some (.type "function") := sc.ty
      cases z : X.K.lookup f2 with
      | none => rw [z] at ht'; cases ht'
      | some of => rw [z] at ht'; exact ⟨of, K1 _ _ z, Option.some.inj ht'⟩
    have hsup := sc.sup
    unfold PySem.W.ks_superIn at hsup
    rw [hcC] at hsup
    refine ks_wpAny_getMethod_super e1 (PySem.W.looks_opaque K1 S.st) (l₀ := cdC.mro) ?_ rfl K1 hsup hof hofc (PySem.W.ks_ne KX J hcC) hm ?_
    · exact fun A Q E s k q => wpAny_bind ((PySem.W.looks_clsIn K1 hcC) A _ E s k (wpAny_pure q))
    · have k2 : ∀ b o, hh.get? b = some o → (h1.push { cls := .type "method", data := .fields #[.ref f2, .ref a] }).get? b = some o := fun b o eb => Heap.get?_push_of_some _ (k1 b o eb)
      have I2 : Inv X pins σ H ⟨h1.push { cls := .type "method", data := .fields #[.ref f2, .ref a] }, g, d, t + 1, os⟩ := I.kept (t' := t + 1) k2
      have hsz : hh.objs.size ≤ h1.objs.size := by
        have := Heap.lt_size e1
        exact Nat.le_of_lt this
      have fp := I.fpOk (H' := H) (b := h1.objs.size) hsz (I.hok.fresh hsz)
      have hq1 : (h1.push { cls := .type "method", data := .fields #[.ref f2, .ref a] }).get? h1.objs.size = some (PySem.W.methodObj (.ref f2) (.ref a)) := Heap.get?_push_size _ rfl
      have I3 : Inv X ((h1.objs.size, PySem.W.methodObj (.ref f2) (.ref a)) :: pins) σ H ⟨h1.push { cls := .type "method", data := .fields #[.ref f2, .ref a] }, g, d, t + 1, os⟩ := I2.pins_of fun p hp => by
        rcases List.mem_cons.mp hp with rfl | hp
        · exact ⟨hq1, fp.1, fp.2.1, fp.2.2.1, fun v z => by cases z⟩
        · exact I2.pin p (List.mem_append_right _ hp)
      show wpAny _ _ (callWith pos (.ref h1.objs.size) [] (backTo pos (starEach (e :: es) X.env)) []) _ _ _
      rw [hst]
      refine PySem.W.callWith_of (P := PySem.W.MethP X.K h1.objs.size f2 (.ref a)) (by show ((false || (backTo pos (starEach es X.env)).any (·.1)) || false) = false; rw [hpl]; rfl) (PySem.W.keeps_M sc.fn) (PySem.Calls.evalArgs_plain ?_)
      show wpAny _ _ (spliced (backTo pos ((false, eval e X.env) :: starEach es X.env))) _ _ _
      rw [← hst]
      refine thn (ha.run pos _ _ σ H _ I3 q) fun us s3 ⟨ws, H1, I4, rv, q2⟩ => ?_
      have pq := (I4.pin (h1.objs.size, PySem.W.methodObj (.ref f2) (.ref a)) (List.mem_append_right _ List.mem_cons_self)).1
      refine ⟨⟨pq, I4.kIn⟩, ?_⟩
      have I5 : Inv X pins σ H1 s3 := I4.pins_of fun p hp => I4.pin p (List.mem_append_right _ (List.mem_cons_of_mem _ hp))
      obtain ⟨fd2, ps2, ds2, G2, b2', hd2⟩ := G
      have r2 : Vals (.ref a :: (ws ++ dvs)) (.ref a :: (us ++ ds2)) := .cons rfl (rv.append hd2)
      have hl2 : ((Value.ref a :: us) ++ ds2).length = ps2.length := by
        rw [← G2.len _ _ _ _ q2]
        exact r2.length.symm
      refine wpAny_call (ks_codeAny_call_bound pq (codeAny_mono (G2.run X.A X.stack s3 H1 ⟨.ref a :: us, []⟩ (.ref a :: (us ++ ds2)) (.ref a :: (ws ++ dvs)) _ E hr I5.env0 (b2' s3 (.ref a :: us) I5.kIn hl2) r2 q2) fun r s' hq => ?_))
      cases r with
      | error er => exact hx pins σ H1 s3 er s' I5 hq
      | ok fl =>
        cases fl with
        | ret u =>
          obtain ⟨v, H', I6, _, q3⟩ := I5.after hq
          exact ⟨rfl, H', I6, q3⟩
        | next => exact False.elim hq
        | brk => exact False.elim hq
        | cont => exact False.elim hq
end Gp
end
section
set_option Elab.async false
set_option linter.all false
set_option maxRecDepth 100000
set_option maxHeartbeats 4000000
namespace Gp
open PySem PySem.Spec PyProof.Rows L2 Gh
theorem execs_app (env : PySem.Env) (rest : List Stmt) : ∀ pre : List Stmt, execs (pre ++ rest) env = (execs pre env >>= fun f => match f with
  | .next => execs rest env
  | f => pure f)
  | [] => by
    show execs rest env = (pure Flow.next >>= _)
    rw [pure_bind]
  | st :: pre => by
    show execs (st :: (pre ++ rest)) env = _
    rw [execs_cons, execs_cons, bind_assoc]
    congr 1
    funext f
    cases f with
    | next => exact execs_app env rest pre
    | _ => rw [pure_bind]
theorem wpAt_app {M : Model} {A : Around} {c : Code} {env : PySem.Env} {pre rest : List Stmt} {Q : Flow → Shared → Prop} {E : Value → Shared → Prop} {s : Shared}
    (h : wpAny M A (execs pre env) (fun f s' => match f with
      | .next => _root_.PySem.wpAt M A c (execs rest env) Q E s'
      | f => Q f s') E s) : _root_.PySem.wpAt M A c (execs (pre ++ rest) env) Q E s := by
  rw [execs_app]
  refine _root_.PySem.wpAt_bind (_root_.PySem.wpAt_of_wpAny (wpAny_mono h (fun f s' hf => ?_) fun _ _ z => z))
  cases f with
  | next => exact hf
  | _ => exact _root_.PySem.wpAt_of_wpAny (wpAny_pure hf)
structure SupF (K : PySem.W.Frag) (x qual : Str) (params : Arguments) (body : List Stmt) (scope : Scope) (dvs : List V) (f D : Addr) (file : Str) (fd : FuncData) : Prop where
  ex : ∃ (oc : Value) (od : Option Addr) (dV kV doc pm : Value) (an : Option Addr) (cda : Addr) (ct : Value) (osl : Array (Option Value)) (cc : Addr),
    fd = PySem.W.fnX x qual params body scope [("__class__", cc)] dV kV doc pm an (.ref cda) ct ∧ K.lookup f = some ⟨oc, od, .func fd, osl⟩ ∧ PySem.W.codeIn K (.ref cda) qual = true ∧ DflV K dV dvs ∧
    (∃ cl cld csl, K.lookup cc = some ⟨cl, cld, .cell (some (.ref D)), csl⟩) ∧ ∃ ccl cdd vs ccs tf, K.lookup cda = some ⟨ccl, cdd, .fields vs, ccs⟩ ∧ vs[2]? = some (.str file tf)
  kp : PySem.W.keepIn K (.ref f) = true
structure SupT (K : PySem.W.Frag) (mg : Str → Option Value) (D : Addr) : Prop where
  cD : ∃ cd, PySem.W.clsIn K D = some cd
  mg : mg "super" = none
  st : PySem.W.nsIn K cStatics "thirdparty.any" = some none
section
variable {P : Program} {w : World} {K : PySem.W.Frag} {mg : Str → Option Value} {base : Heap} {CX : CXT} {k : Nat} {x qual file m ar : Str} {params : Arguments} {body : List Stmt} {scope : Scope} {dvs : List V} {f D : Addr} {fd : FuncData} {N ps : List Str} {sp : Sp}
abbrev scx (CX : CXT) (P : Program) (w : World) (K : PySem.W.Frag) (mg : Str → Option Value) (base : Heap) (N : List Str) (x qual : Str) (params : Arguments) (body : List Stmt) (scope : Scope) (cc cda f : Addr) (A : Around) (outer : List PySem.Env) (s : Shared) (H : Hp) (E : XK) : Cx :=
  NdefX.ncx CX P w K mg base N ⟨x, qual, params, body, scope, [("__class__", cc)], cda⟩ f A outer s H E
theorem SupF.ok {pre post : List Stmt} {p0 p1 apos pos epos : Pos} {e : Expr} {es : List Expr} (eb : body = pre ++ .Expr (.Call (.Attribute (.Call (.Name "super" p0) [] [] p1) m apos) (e :: es) [] pos) epos :: post) (F : SupF K x qual params body scope dvs f D file fd) (T : SupT K mg D) (S : NdefX.NScope N ps ["__class__"] scope)
    (len : ∀ vs H Q E, sp vs H Q E → vs.length = ps.length) (hfile : ((P.main.file : Str) == file) = true) (htop : (P.main.scope.names.lookup ("super" : Str)).isSome = false) (hm : (m == ("__class__" : Str)) = false) (hks : scope.names.lookup ("super" : Str) = some .globalImplicit)
    (har : ((params.posonlyargs ++ params.args).head?).map (·.arg) = some ar) (hn0 : N[0]? = some ar) (hka : scope.names.lookup ar = some .local)
    (hbody : ∀ (cc cda : Addr) (A : Around) (outer : List PySem.Env) (s : Shared) (H : Hp) (vs : List V) (Q : VK) (E : XK), Room k (scx CX P w K mg base N x qual params body scope cc cda f A outer s H E).A → sp vs H Q E →
      ∃ t1 ta t2 CX2 k2 f2 dvs2 sp2 E2, PSs (scx CX P w K mg base N x qual params body scope cc cda f A outer s H E) pre t1 ∧
        PA (scx CX P w K mg base N x qual params body scope cc cda f A outer s H E) (e :: es) ta ∧
        PSs (scx CX P w K mg base N x qual params body scope cc cda f A outer s H E) post t2 ∧
        PromO P w K mg base CX2 k2 f2 dvs2 sp2 ∧ k2 ≤ k ∧ Passes CX2 (scx CX P w K mg base N x qual params body scope cc cda f A outer s H E) E2 ∧
        t1 { nx := fun σ1 H1 => ∃ a C dx fs, σ1[0]? = some (some (.ref a)) ∧ H1 a = some (.ins C dx fs) ∧ SupC K C D m f2 ∧ ta σ1 H1 fun us H2 => sp2 (.ref a :: (us ++ dvs2)) H2 (fun _ H3 => t2 { nx := fun _ H' => Q .non H', rt := Q } σ1 H3) E2, rt := Q } (L2.start N vs) H)
    (hst : ∀ env : PySem.Env, starEach (e :: es) env = (false, eval e env) :: starEach es env := by intro _; rfl) (hpl : ∀ env : PySem.Env, (backTo pos (starEach es env)).any (·.1) = false := by intro _; rfl)
    (pl : PySem.Env → Sem Bool)
    (he : ∀ env : PySem.Env, eval (.Call (.Attribute (.Call (.Name "super" p0) [] [] p1) m apos) (e :: es) [] pos) env = (do
      let ov ← attributeBase (.Call (.Name "super" p0) [] [] p1) m env (eval (.Call (.Name "super" p0) [] [] p1) env)
      standAt apos.atName
      let (f, first) ← holding [ov] (getMethod ov m (pl env))
      callWith pos f first (backTo pos (starEach (e :: es) env)) []))
    (hsw : ∀ env : PySem.Env, swapsWith (.Call (.Attribute (.Call (.Name "super" p0) [] [] p1) m apos) (e :: es) [] pos) none epos.line env = pure false := by intro _; rfl) :
    FnOk P w K mg base CX (k + 1) f fd ps sp := by
  obtain ⟨oc, od, dV, kV, doc, pm, an, cda, ct, osl, cc, rfl, lk, hcd, _, ⟨cl, cld, csl, lkl⟩, ccl, cdd, vsc, ccs, tf, lkc, hvs⟩ := F.ex
  refine ⟨len, fun A outer s H args us vs Q E hr e0 hb r hsp => ?_⟩
  have KX : K.In s.heap := e0.mod.kin.keeps fun b o e => (e0.bs b o e).1
  have lim : s.heap.NoLimit := e0.mod.nolimit.keeps fun b o e => (e0.bs b o e).1
  have hl := len _ _ _ _ hsp
  have hpl2 : ps.length + 1 ≤ N.length := by
    have q := congrArg List.length S.pre
    rw [List.length_take, List.length_append] at q
    have : (["__class__"] : List Str).length = 1 := rfl
    omega
  refine ks_codeAny_call_defAt hr.depth (KX _ _ lk) rfl lim (PySem.W.codeRec_of KX hcd) rfl hb S.nocell (fun ⟨n, _⟩ hy => S.par n (List.of_mem_zip hy).1) (fun h₁ hns kp => ?_) S.co S.gen S.kind
  obtain ⟨t1, ta, t2, CX2, k2, f2, dvs2, sp2, E2, h1, h2, h3, G, hk2, hx2, hq⟩ := hbody cc cda A outer s H vs Q E (hr.deeper _) hsp
  have C : NdefX.CellsAt [(("__class__" : Str), cc)] ["__class__"] [none] s.heap H := by
    have hc : s.heap.get? cc = some ⟨cl, cld, .cell (some (.ref D)), csl⟩ := KX _ _ lkl
    have hH : H cc = none := by
      have hb : base.get? cc = some ⟨cl, cld, .cell (some (.ref D)), csl⟩ := e0.mod.kin _ _ lkl
      exact (e0.bs _ _ hb).2
    have one : ∀ (y : Str) (c : Addr), ([(("__class__" : Str), cc)] : List (Str × Addr)).lookup y = some c → y = "__class__" ∧ c = cc := fun y c hy => by
      rcases look_cons hy with ⟨e1, e2⟩ | z
      · exact ⟨e1, e2⟩
      · cases z
    refine ⟨rfl, fun y c hy => ?_, fun x y c hx hy => (one x c hx).1.trans (one y c hy).1.symm, fun i y hy => ?_⟩
    · obtain ⟨_, rfl⟩ := one y c hy
      exact ⟨hH, _, _, hc, rfl⟩
    · have e2 : y = "__class__" := by
        cases i with
        | zero => cases hy; rfl
        | succ i => cases hy
      subst e2
      refine ⟨cc, rfl, fun v hv => ?_⟩
      cases i with
      | zero => cases hv
      | succ i => cases hv
  have I := NdefX.inv_startN (CX := CX) (P := P) (w := w) (K := K) (mg := mg) (base := base) (N := N) (F := ⟨x, qual, params, body, scope, [("__class__", cc)], cda⟩) (f := f) (E := E) (tk := s.toks + (ps.zip us).length) S hr.hd e0 hl r C hns kp
  have est : NdefX.startF N vs [none] = L2.start N vs := by
    unfold NdefX.startF L2.start
    congr 1
    rw [List.length_singleton, ← List.singleton_append]
    have : N.length - vs.length = (N.length - vs.length - 1) + 1 := by omega
    rw [this, List.replicate_succ]
    rfl
  rw [est] at I
  have SX : SupX (scx CX P w K mg base N x qual params body scope cc cda f A outer s H E) D f cda cc ar := by
    refine ⟨rfl, rfl, ?_, ⟨ccl, cdd, vsc, ccs, file, tf, lkc, hvs, hfile⟩, htop, hks, S.frk _ (List.mem_singleton.mpr rfl), rfl, ⟨cl, cld, csl, lkl⟩, T.cD, T.mg, T.st, hn0, hka⟩
    cases z : (params.posonlyargs ++ params.args).head? with
    | none => rw [z] at har; cases har
    | some a =>
      rw [z] at har
      exact ⟨_, _, _, _, a, lk, z, Option.some.inj har⟩
  have fin : ∀ {s' : Shared} {σ' : L2.St} {H' : Hp} {v : V} {u : Value}, Inv (scx CX P w K mg base N x qual params body scope cc cda f A outer s H E) [] σ' H' s' → L2.RelV v u → Q v H' → CE outer P w H s Q u s' :=
    fun {s' σ' H' v u} J rv q => ⟨v, H', J.os, J.bare, J.base, J.hok, rv, q⟩
  have eb2 : execs body (scx CX P w K mg base N x qual params body scope cc cda f A outer s H E).env = execs (pre ++ .Expr (.Call (.Attribute (.Call (.Name "super" p0) [] [] p1) m apos) (e :: es) [] pos) epos :: post) (scx CX P w K mg base N x qual params body scope cc cda f A outer s H E).env := by rw [← eb]
  show _root_.PySem.wpAt _ _ _ (execs body _) _ _ _
  refine eb2 ▸ wpAt_app (wpAny_mono (h1.run [] _ (L2.start N vs) H _ I hq) (fun fl s' hs => ?_) fun _ _ z => z)
  cases fl with
  | ret u =>
    obtain ⟨v, σ', H', J, rv, q⟩ := hs
    exact fin J rv q
  | brk =>
    obtain ⟨_, _, _, q⟩ := hs
    exact False.elim q
  | cont =>
    obtain ⟨_, _, _, q⟩ := hs
    exact False.elim q
  | next =>
    obtain ⟨σ', H', J, q⟩ := hs
    refine ks_wpAt_execs_cons (_root_.PySem.wpAt_mono (sup_run (pl := pl _) SX hm h2 G ((hr.deeper _).mono hk2) hx2 J q (hst _) (hpl _) (he _) (hsw _)) (fun fl2 s2 hq2 => ?_) fun _ _ z => z)
    obtain ⟨rfl, H2, J2, q2⟩ := hq2
    refine _root_.PySem.wpAt_of_wpAny (wpAny_mono (h3.run [] s2 σ' H2 _ J2 q2) (fun fl s' hs => ?_) fun _ _ z => z)
    cases fl with
    | ret u =>
      obtain ⟨v, σ', H', J, rv, q⟩ := hs
      exact fin J rv q
    | next =>
      obtain ⟨σ', H', J, q⟩ := hs
      exact fin (v := V.non) (u := Value.none) J rfl q
    | brk =>
      obtain ⟨_, _, _, q⟩ := hs
      exact False.elim q
    | cont =>
      obtain ⟨_, _, _, q⟩ := hs
      exact False.elim q
end
end Gp
end
section
set_option Elab.async false
set_option linter.all false
set_option maxRecDepth 100000
set_option maxHeartbeats 4000000
namespace Gp
open PySem PySem.Spec PyProof.Rows L2 Gh
structure Ds where
  d : Df
  own : PySem.W.Frag → Addr
def fnAtS (K : PySem.W.Frag) (a : Addr) : He.FnW := match K.lookup a with
  | some ⟨_, _, .func fd, _⟩ => some (fd.name, fd.qualname, fd.params, fd.body, fd.scope, fd.globals, fd.closure.map (fun q => (q.1, 0)), fd.builtins)
  | _ => none
def Ds.val (d : Ds) : He.FnW := some (d.d.name, d.d.qual, defArgs d.d.st, .stmts (defBody d.d.st), defScope d.d.st, mainGlobals, [("__class__", 0)], builtinsNs)
def fileB (K : PySem.W.Frag) (file : Str) : Value → Bool
  | .ref c => (match K.lookup c with
    | some ⟨_, _, Data.fields vs, _⟩ => (match (vs[2]? : Option Value) with
      | some (Value.str f _) => decide (f = file)
      | _ => false)
    | _ => false)
  | _ => false
def cellB (K : PySem.W.Frag) (B : Addr) : List (Str × Addr) → Bool
  | [(_, c)] => (match K.lookup c with
    | some ⟨_, _, .cell (some (.ref b)), _⟩ => decide (b = B)
    | _ => false)
  | _ => false
def Ds.ok (file : Str) (K : PySem.W.Frag) (d : Ds) : Bool := PySem.W.keepIn K (.ref (d.d.adr K)) && (match K.lookup (d.d.adr K) with
  | some ⟨_, _, .func fd, _⟩ => PySem.W.codeIn K fd.code d.d.qual && (He.dflB K fd.defaults (d.d.dvs K) && (fileB K file fd.code && cellB K (d.own K) fd.closure))
  | _ => false)
structure SaysS (ex : List (PySem.W.Frag → Bool)) (fn : List Df) (tf : List He.Defn) (fs : List Ds) (file : Str) (h : Heap) (K : PySem.W.Frag) : Prop where
  s : SaysT ex fn tf h K
  o : (fs.all fun d => d.ok file K) = true
  v : (fs.map fun d => fnAtS K (d.d.adr K)) = fs.map Ds.val
abbrev AlS : Type := AlT × Bool × List He.FnW
end Gp
end
section
set_option Elab.async false
set_option linter.all false
set_option maxRecDepth 100000
set_option maxHeartbeats 4000000
namespace Gp
open PySem PySem.Spec PyProof.Rows L2 Gh
section
variable {P : Program} {w : World} {K : PySem.W.Frag} {mg : Str → Option Value} {base : Heap} {CX : CXT} {k : Nat} {x qual file m ar : Str} {params : Arguments} {body : List Stmt} {scope : Scope} {dvs : List V} {f D : Addr} {fd : FuncData} {N ps : List Str} {sp : Sp}
theorem SupF.run {A : Around} {outer : List PySem.Env} {s : Shared} {H : Hp} {args : Args} {Q : VK} {E : XK} {G : List V → Hp → Prop} {pre post : List Stmt} {p0 p1 apos pos epos : Pos} {e : Expr} {es : List Expr} (eb : body = pre ++ .Expr (.Call (.Attribute (.Call (.Name "super" p0) [] [] p1) m apos) (e :: es) [] pos) epos :: post) (F : SupF K x qual params body scope dvs f D file fd) (T : SupT K mg D) (S : NdefX.NScope N ps ["__class__"] scope)
    (hr : Room (k + 1) A) (e0 : Env0 P w K mg base A outer s H) (hb : StX.Bnd CX P w K mg base fd args ps A outer s H E G) (hfile : ((P.main.file : Str) == file) = true) (htop : (P.main.scope.names.lookup ("super" : Str)).isSome = false) (hm : (m == ("__class__" : Str)) = false) (hks : scope.names.lookup ("super" : Str) = some .globalImplicit)
    (har : ((params.posonlyargs ++ params.args).head?).map (·.arg) = some ar) (hn0 : N[0]? = some ar) (hka : scope.names.lookup ar = some .local)
    (hbody : ∀ (cc cda : Addr) (s : Shared) (H : Hp) (vs : List V), Room k (scx CX P w K mg base N x qual params body scope cc cda f A outer s H E).A → G vs H →
      ∃ t1 ta t2 CX2 k2 f2 dvs2 sp2 E2, PSs (scx CX P w K mg base N x qual params body scope cc cda f A outer s H E) pre t1 ∧
        PA (scx CX P w K mg base N x qual params body scope cc cda f A outer s H E) (e :: es) ta ∧
        PSs (scx CX P w K mg base N x qual params body scope cc cda f A outer s H E) post t2 ∧
        PromO P w K mg base CX2 k2 f2 dvs2 sp2 ∧ k2 ≤ k ∧ Passes CX2 (scx CX P w K mg base N x qual params body scope cc cda f A outer s H E) E2 ∧
        t1 { nx := fun σ1 H1 => ∃ a C dx fs, σ1[0]? = some (some (.ref a)) ∧ H1 a = some (.ins C dx fs) ∧ SupC K C D m f2 ∧ ta σ1 H1 fun us H2 => sp2 (.ref a :: (us ++ dvs2)) H2 (fun _ H3 => t2 { nx := fun _ H' => Q .non H', rt := Q } σ1 H3) E2, rt := Q } (L2.start N vs) H)
    (hst : ∀ env : PySem.Env, starEach (e :: es) env = (false, eval e env) :: starEach es env := by intro _; rfl) (hpl : ∀ env : PySem.Env, (backTo pos (starEach es env)).any (·.1) = false := by intro _; rfl)
    (pl : PySem.Env → Sem Bool)
    (he : ∀ env : PySem.Env, eval (.Call (.Attribute (.Call (.Name "super" p0) [] [] p1) m apos) (e :: es) [] pos) env = (do
      let ov ← attributeBase (.Call (.Name "super" p0) [] [] p1) m env (eval (.Call (.Name "super" p0) [] [] p1) env)
      standAt apos.atName
      let (f, first) ← holding [ov] (getMethod ov m (pl env))
      callWith pos f first (backTo pos (starEach (e :: es) env)) []))
    (hsw : ∀ env : PySem.Env, swapsWith (.Call (.Attribute (.Call (.Name "super" p0) [] [] p1) m apos) (e :: es) [] pos) none epos.line env = pure false := by intro _; rfl) :
    codeAny (model P w) A (.call (.ref f) args) (CR CX outer P w H s Q E) s := by
  obtain ⟨oc, od, dV, kV, doc, pm, an, cda, ct, osl, cc, rfl, lk, hcd, _, ⟨cl, cld, csl, lkl⟩, ccl, cdd, vsc, ccs, tf, lkc, hvs⟩ := F.ex
  have KX0 : K.In s.heap := e0.mod.kin.keeps fun b o e => (e0.bs b o e).1
  refine codeAny_call_function hr.depth (KX0 _ _ lk) rfl S.co S.gen rfl (PySem.W.codeRec_of KX0 hcd) ?_
  refine hb _ _ _ fun s2 H2 vs us e2 un ho hxx r hl gg => ?_
  have KX : K.In s2.heap := e0.mod.kin.keeps fun b o e => (e2.bs b o e).1
  have lim : s2.heap.NoLimit := e0.mod.nolimit.keeps fun b o e => (e2.bs b o e).1
  have hpl2 : ps.length + 1 ≤ N.length := by
    have q := congrArg List.length S.pre
    rw [List.length_take, List.length_append] at q
    have : (["__class__"] : List Str).length = 1 := rfl
    omega
  refine wpAny_newFunctionEnv S.nocell (fun ⟨n, _⟩ hy => S.par n (List.of_mem_zip hy).1) (fun h₁ hns hsb => ⟨lim.fresh _ hsb, ks_codeAny_funcAt ?_⟩) S.kind
  have kp : ∀ b o, s2.heap.get? b = some o → h₁.get? b = some o := fun b o e => hsb.extBut b o (Nat.ne_of_lt (Heap.lt_size e)) (Heap.get?_push_of_some _ e)
  refine _root_.PySem.wpAt_mono (Q := fun fl s' => CR CX outer P w H s Q E (.ok (.ret (match fl with | .ret v => v | _ => .none))) s') (E := (scx CX P w K mg base N x qual params body scope cc cda f A outer s2 H2 E).xe) ?_ (fun _ _ z => z) (fun e s' hs => wpAny_mono hs (fun _ s'' z => hxx e s'' z) fun e' s'' z => hxx e' s'' z)
  obtain ⟨t1, ta, t2, CX2, k2, f2, dvs2, sp2, E2, h1, h2, h3, G, hk2, hx2, hq⟩ := hbody cc cda s2 H2 vs (hr.deeper _) gg
  have C : NdefX.CellsAt [(("__class__" : Str), cc)] ["__class__"] [none] s2.heap H2 := by
    have hc : s2.heap.get? cc = some ⟨cl, cld, .cell (some (.ref D)), csl⟩ := KX _ _ lkl
    have hH : H2 cc = none := by
      have hb : base.get? cc = some ⟨cl, cld, .cell (some (.ref D)), csl⟩ := e0.mod.kin _ _ lkl
      exact (e2.bs _ _ hb).2
    have one : ∀ (y : Str) (c : Addr), ([(("__class__" : Str), cc)] : List (Str × Addr)).lookup y = some c → y = "__class__" ∧ c = cc := fun y c hy => by
      rcases look_cons hy with ⟨e1, e2⟩ | z
      · exact ⟨e1, e2⟩
      · cases z
    refine ⟨rfl, fun y c hy => ?_, fun x y c hx hy => (one x c hx).1.trans (one y c hy).1.symm, fun i y hy => ?_⟩
    · obtain ⟨_, rfl⟩ := one y c hy
      exact ⟨hH, _, _, hc, rfl⟩
    · have e2 : y = "__class__" := by
        cases i with
        | zero => cases hy; rfl
        | succ i => cases hy
      subst e2
      refine ⟨cc, rfl, fun v hv => ?_⟩
      cases i with
      | zero => cases hv
      | succ i => cases hv
  have I := NdefX.inv_startN (CX := CX) (P := P) (w := w) (K := K) (mg := mg) (base := base) (N := N) (F := ⟨x, qual, params, body, scope, [("__class__", cc)], cda⟩) (f := f) (E := E) (tk := s2.toks + (ps.zip us).length) S hr.hd e2 hl r C hns kp
  have est : NdefX.startF N vs [none] = L2.start N vs := by
    unfold NdefX.startF L2.start
    congr 1
    rw [List.length_singleton, ← List.singleton_append]
    have : N.length - vs.length = (N.length - vs.length - 1) + 1 := by omega
    rw [this, List.replicate_succ]
    rfl
  rw [est] at I
  have SX : SupX (scx CX P w K mg base N x qual params body scope cc cda f A outer s2 H2 E) D f cda cc ar := by
    refine ⟨rfl, rfl, ?_, ⟨ccl, cdd, vsc, ccs, file, tf, lkc, hvs, hfile⟩, htop, hks, S.frk _ (List.mem_singleton.mpr rfl), rfl, ⟨cl, cld, csl, lkl⟩, T.cD, T.mg, T.st, hn0, hka⟩
    cases z : (params.posonlyargs ++ params.args).head? with
    | none => rw [z] at har; cases har
    | some a =>
      rw [z] at har
      exact ⟨_, _, _, _, a, lk, z, Option.some.inj har⟩
  have fin : ∀ {s' : Shared} {σ' : L2.St} {H' : Hp} {v : V} {u : Value}, Inv (scx CX P w K mg base N x qual params body scope cc cda f A outer s2 H2 E) [] σ' H' s' → L2.RelV v u → Q v H' → CE outer P w H s Q u s' :=
    fun {s' σ' H' v u} J rv q => ⟨v, H', J.os.trans ho, J.bare, un.trans J.base, J.hok, rv, q⟩
  have eb2 : execs body (scx CX P w K mg base N x qual params body scope cc cda f A outer s2 H2 E).env = execs (pre ++ .Expr (.Call (.Attribute (.Call (.Name "super" p0) [] [] p1) m apos) (e :: es) [] pos) epos :: post) (scx CX P w K mg base N x qual params body scope cc cda f A outer s2 H2 E).env := by rw [← eb]
  show _root_.PySem.wpAt _ _ _ (execs body _) _ _ _
  refine eb2 ▸ wpAt_app (wpAny_mono (h1.run [] _ (L2.start N vs) H2 _ I hq) (fun fl s' hs => ?_) fun _ _ z => z)
  cases fl with
  | ret u =>
    obtain ⟨v, σ', H', J, rv, q⟩ := hs
    exact fin J rv q
  | brk =>
    obtain ⟨_, _, _, q⟩ := hs
    exact False.elim q
  | cont =>
    obtain ⟨_, _, _, q⟩ := hs
    exact False.elim q
  | next =>
    obtain ⟨σ', H', J, q⟩ := hs
    refine ks_wpAt_execs_cons (_root_.PySem.wpAt_mono (sup_run (pl := pl _) SX hm h2 G ((hr.deeper _).mono hk2) hx2 J q (hst _) (hpl _) (he _) (hsw _)) (fun fl2 s3 hq2 => ?_) fun _ _ z => z)
    obtain ⟨rfl, H3, J2, q2⟩ := hq2
    refine _root_.PySem.wpAt_of_wpAny (wpAny_mono (h3.run [] s3 σ' H3 _ J2 q2) (fun fl s' hs => ?_) fun _ _ z => z)
    cases fl with
    | ret u =>
      obtain ⟨v, σ', H', J, rv, q⟩ := hs
      exact fin J rv q
    | next =>
      obtain ⟨σ', H', J, q⟩ := hs
      exact fin (v := V.non) (u := Value.none) J rfl q
    | brk =>
      obtain ⟨_, _, _, q⟩ := hs
      exact False.elim q
    | cont =>
      obtain ⟨_, _, _, q⟩ := hs
      exact False.elim q
end
section
variable {g : Gw} {Mt U0 U U' : Addr → Prop} {H0 H H' H1 H2 : Hp} {b b1 b2 : Nat} {σ : L2.St} {ε ε' : Env} {E : XK}
end
end Gp
end
section
set_option Elab.async false
set_option linter.all false
set_option maxRecDepth 100000
set_option maxHeartbeats 4000000
namespace Gp
open PySem PySem.Spec PyProof.Rows L2 Gh
def frL {α : Type} : List (Addr × Obj) → (List (Addr × Obj) → α) → α
  | [], k => k []
  | (a, o) :: r, k => frL r fun r' => k ((a, o) :: r')
theorem frL_eq {α : Type} : ∀ (l : List (Addr × Obj)) (k : List (Addr × Obj) → α), frL l k = k l
  | [], _ => rfl
  | (a, o) :: r, k => by
    show frL r (fun r' => k ((a, o) :: r')) = _
    rw [frL_eq r]
def obsK (ex : List (PySem.W.Frag → Bool)) (fn : List Df) (tf : List He.Defn) (fs : List Ds) (file : Str) (g : Addr → Option Obj) (K : PySem.W.Frag) : AlS :=
  ((obs ex fn K, He.tabsB g tf K), (fs.all fun d => d.ok file K), fs.map fun d => fnAtS K (d.d.adr K))
theorem saysL_of {as : List Addr} {ex : List (PySem.W.Frag → Bool)} {fn : List Df} {tf : List He.Defn} {h : Heap} (e1 : obs ex fn (He.frT h.get? as) = val fn) (e2 : He.tabsB h.get? tf (He.frT h.get? as) = true) : SaysT ex fn tf h (He.frT h.get? as) := by
  have key : ∀ p ∈ tf, PySem.W.codeHdIn (He.frT h.get? as) (He.cT (He.frT h.get? as) p).1 (He.cT (He.frT h.get? as) p).2 = true ∧ ∃ o, h.get? (He.cT (He.frT h.get? as) p).2 = some o ∧ He.emptyTab o = true := fun p hp => by
    obtain ⟨h3, h4⟩ := He.ba (List.all_eq_true.mp e2 p hp)
    refine ⟨h3, ?_⟩
    cases q : h.get? (He.cT (He.frT h.get? as) p).2 with
    | none =>
      rw [q] at h4
      cases h4
    | some o =>
      rw [q] at h4
      exact ⟨o, rfl, h4⟩
  exact ⟨e1, fun p hp => (key p hp).1, fun p hp => by
    obtain ⟨_, o, q, z⟩ := key p hp
    exact He.frT_none q z, fun p hp => by
    obtain ⟨_, o, q, z⟩ := key p hp
    rw [q, He.emptyTab_eq z]⟩
end Gp
end
section
set_option Elab.async false
set_option linter.all false
set_option maxRecDepth 100000
set_option maxHeartbeats 4000000
namespace Gp
open PySem PySem.Spec PyProof.Rows L2 Gh
section
variable {g : Gw} {Mt U0 U U' : Addr → Prop} {H0 H H' H1 H2 : Hp} {b b1 : Nat} {σ : L2.St} {ε ε' : Env} {E : XK} {W L W' : Type}
variable {env : W → Env} {envL : L → Env} {env' : W' → Env} {u ta tb : TS} {te ti : TE} {me mi : Tr D}
structure Pnd (g : Gw) (Mt U0 : Addr → Prop) (H0 : Hp) (U : Addr → Prop) (σ : L2.St) (H : Hp) (ε : Env) (A : Addr) (ds : List D) : Prop where
  at_ : ∃ vs, H A = some (.lst vs) ∧ vs.length ≤ sizeLine ∧ DenL g U H vs ds
  u : U A
  np : A ≠ g.p
  nc : A ≠ g.c
  n0 : ¬ U0 A
  no : ∀ j, ¬ OwnAt σ ε j A
  mt : Mt A ∨ ∀ o, H0 A = some o → ∃ ps, o = .tbl ps
theorem Pnd.fr {A : Addr} {ds : List D} (uo : UOk g U H) (p : Pnd g Mt U0 H0 U σ H ε A ds) (f : Fr H H' g.p) : Pnd g Mt U0 H0 U σ H' ε A ds := by
  obtain ⟨⟨vs, hA, l, dn⟩, uA, hp, hc, n0, no, mt⟩ := p
  exact ⟨⟨vs, f _ _ hA hp (fun _ z => by cases z), l, dn.fr uo f⟩, uA, hp, hc, n0, no, mt⟩
inductive QR (g : Gw) (Mt U0 : Addr → Prop) (H0 : Hp) (U : Addr → Prop) (σ : L2.St) (H : Hp) (ε : Env) : Nat → List V → List D → Prop
  | here {A : Addr} {ds : List D} {vs : List V} {xs : List D} : Pnd g Mt U0 H0 U σ H ε A ds → DenL g U H vs xs → QR g Mt U0 H0 U σ H ε 0 (.ref A :: vs) (.lst ds :: xs)
  | next {n : Nat} {v : V} {d : D} {vs : List V} {ds : List D} : Den g U H v d → QR g Mt U0 H0 U σ H ε n vs ds → QR g Mt U0 H0 U σ H ε (n + 1) (v :: vs) (d :: ds)
theorem QR.length {n : Nat} : ∀ {vs : List V} {ds : List D}, QR g Mt U0 H0 U σ H ε n vs ds → vs.length = ds.length
  | _, _, .here _ k => congrArg (· + 1) k.length
  | _, _, .next _ r => congrArg (· + 1) r.length
end
end Gp
end
section
set_option Elab.async false
set_option linter.all false
set_option maxRecDepth 100000
set_option maxHeartbeats 4000000
namespace Gp
open PySem PySem.Spec PyProof.Rows L2 Gh
inductive ItH where
  | s (x : Str) | n (i : Int) | f (x : Str)
def ItH.d (fs : Fs) : ItH → Option D
  | .s x => if x.length ≤ sizeLine then some (.str x) else none
  | .n k => some (.int k)
  | .f x => fs.lookup x
section
variable {g : Gw} {U : Addr → Prop} {H H' : Hp} {b : Nat} {σ : L2.St} {ε : Env}
def Fz (ε : Env) : Prop := ∀ s ∈ ε, (∃ d, s = .fz d) ∨ s = .no
theorem Fz.own (h : Fz ε) : ∀ i a, ¬ OwnAt σ ε i a := fun i a ⟨_, z⟩ => by
  rcases z with ⟨x, z⟩ | ⟨x, y, z⟩
  · rcases h _ (List.mem_of_getElem? z) with ⟨d, e⟩ | e <;> cases e
  · rcases h _ (List.mem_of_getElem? z) with ⟨d, e⟩ | e <;> cases e
end
end Gp
end
section
set_option Elab.async false
set_option linter.all false
set_option maxRecDepth 100000
set_option maxHeartbeats 4000000
namespace Gz
open PySem
open Sem (wp)
def pois : GenState → GenState
  | .suspended _ l c p fs cl => .suspended (fun _ => .unsupported "") l c p fs cl
  | x => x
def IsSusp (x : GenState) : Prop := ∃ k l c p fs cl, x = .suspended k l c p fs cl
def Fixd (x : GenState) : Prop := IsSusp x ∨ x = .running
abbrev Map := Nat → Option GenState
def rest (ρ : Map) (G : Array GenState) : Array GenState := G.mapIdx fun i x => (ρ i).getD x
structure Held (ρ : Map) (G : Array GenState) : Prop where
  at_ : ∀ i x, ρ i = some x → Fixd x ∧ G[i]? = some (pois x)
  fr : ∀ i k l c p fs cl, ρ i = none → G[i]? = some (.suspended k l c p fs cl) → ∀ g kk ll cc pp, Frame.gen g kk ll cc pp ∈ fs → ρ g = none
theorem rest_size (ρ : Map) (G : Array GenState) : (rest ρ G).size = G.size := by unfold rest; exact Array.size_mapIdx
theorem rest_get (ρ : Map) (G : Array GenState) (i : Nat) : (rest ρ G)[i]? = (G[i]?).map fun x => (ρ i).getD x := by
  unfold rest
  exact Array.getElem?_mapIdx
theorem Held.lt {ρ : Map} {G : Array GenState} (h : Held ρ G) {i : Nat} {x : GenState} (e : ρ i = some x) : i < G.size := by
  obtain ⟨_, q⟩ := h.at_ i x e
  exact (Array.getElem?_eq_some_iff.mp q).1
theorem Held.push {ρ : Map} {G : Array GenState} (h : Held ρ G) (c : Code) : Held ρ (G.push (.fresh c)) ∧ rest ρ (G.push (.fresh c)) = (rest ρ G).push (.fresh c) := by
  have hn : ρ G.size = none := by
    cases e : ρ G.size with
    | none => rfl
    | some x => exact absurd (h.lt e) (Nat.lt_irrefl _)
  refine ⟨⟨fun i x e => ?_, fun i k l c' p fs cl e q => ?_⟩, ?_⟩
  · obtain ⟨a, b⟩ := h.at_ i x e
    refine ⟨a, ?_⟩
    rw [Array.getElem?_push, if_neg (Nat.ne_of_lt (h.lt e))]
    exact b
  · rw [Array.getElem?_push] at q
    split at q
    · cases q
    · exact h.fr i k l c' p fs cl e q
  · apply Array.ext_getElem?
    intro i
    rw [rest_get, Array.getElem?_push, Array.getElem?_push, rest_size]
    by_cases e : i = G.size
    · rw [if_pos e, if_pos e, e, hn]
      rfl
    · rw [if_neg e, if_neg e, rest_get]
abbrev up (ρ : Map) (s : Shared) : Shared := { s with gens := rest ρ s.gens }
theorem Held.run {ρ : Map} {G : Array GenState} (h : Held ρ G) {g : Nat} (e : G[g]? = some .running) : (rest ρ G)[g]? = some .running := by
  rw [rest_get, e]
  cases q : ρ g with
  | none => rfl
  | some y =>
    obtain ⟨hy, b⟩ := h.at_ g y q
    rw [e] at b
    rcases hy with ⟨k, l, c, p, fs, cl, rfl⟩ | rfl
    · cases b
    · rfl
def Sleep (s s1 : Shared) : Prop := ∀ (i : Nat) (x : GenState), Fixd x → s.gens[i]? = some x → s1.gens[i]? = some x
theorem Sleep.refl {s : Shared} : Sleep s s := fun _ _ _ h => h
theorem Sleep.trans {a b c : Shared} (h : Sleep a b) (k : Sleep b c) : Sleep a c := fun i x hx e => k i x hx (h i x hx e)
end Gz
end
section
set_option Elab.async false
set_option linter.all false
set_option maxRecDepth 100000
set_option maxHeartbeats 4000000
namespace Gz
open PySem PySem.Spec PyProof.Rows L2 GenW Gh
variable {X : Cx}
def cut (h : Heap) (n : Nat) : Heap := { h with objs := h.objs.extract 0 n }
abbrev cutS (s : Shared) (n : Nat) : Shared := { s with heap := cut s.heap n }
abbrev reb (X : Cx) (s0 : Shared) (H0 : Hp) : Cx := { X with s_0 := s0, H_0 := H0, xe := fun _ _ => False }
def RunS (s s1 : Shared) : Prop := ∀ i : Nat, s.gens[i]? = some .running → s1.gens[i]? = some .running
theorem RunS.refl {s : Shared} : RunS s s := fun _ h => h
theorem RunS.trans {a b c : Shared} (h : RunS a b) (k : RunS b c) : RunS a c := fun i e => k i (h i e)
structure Pro (T : Type) where
  hp : T → Hp
  src : T → Shared → Shared
  out : Nat → T → V → Hp → Prop
  lk : Nat → T → Hp → T → Prop
  fin : Nat → T → Hp → Prop
structure QE (T : Type) where
  nx : Nat → T → L2.St → Hp → Prop
  rt : Nat → T → V → Hp → Prop
  bk : Nat → T → L2.St → Hp → Prop := fun _ _ _ _ => False
  ct : Nat → T → L2.St → Hp → Prop := fun _ _ _ _ => False
def QE.at {T : Type} (D : QE T) (n : Nat) (γ : T) : Ends := { nx := D.nx n γ, rt := D.rt n γ, bk := D.bk n γ, ct := D.ct n γ }
structure QI {T : Type} (X : Cx) (g n0 : Nat) (P : Pro T) (ip : List (Addr × Obj)) (γ : T) (s₀ : Shared) (σ : L2.St) (H : Hp) (s : Shared) : Prop where
  inv : Inv (reb X (cutS (P.src γ s₀) n0) (P.hp γ)) ip σ H s
  run : s.gens[g]? = some .running
  sz : n0 ≤ (P.src γ s₀).heap.objs.size
  ips : ∀ p ∈ ip, n0 ≤ p.1
  slp : RunS s₀ s
def QY {T : Type} (X : Cx) (g n0 : Nat) (P : Pro T) (C : Nat → T → Shared → Prop) : Protocol := fun n s₀ v s kap =>
  ∃ γ σ ip x H, C (n + 1) γ s₀ ∧ QI X g n0 P ip γ s₀ σ H s ∧ RelV x v ∧ P.out n γ x H ∧
    ∀ s' γ', C n γ' s' → QI X g n0 P ip γ' s' σ (P.hp γ') s' → Sleep s s' → P.lk n γ H γ' → kap (.send .none) s'
def QR {T : Type} (X : Cx) (g n0 : Nat) (P : Pro T) (C : Nat → T → Shared → Prop) (N : Nat) (Er : Value → Shared → Prop) : GenEnd := fun n s₀ r s1 =>
  ((r = .ok (.ret .none) ∨ r = .ok .next) ∧ ∃ γ σ ip H, C n γ s₀ ∧ QI X g n0 P ip γ s₀ σ H s1 ∧ P.fin n γ H) ∨ ∃ e, r = .error e ∧ (n = N ∧ Er e s1)
section
variable {T : Type} {st : Stmt} {rest : List Stmt} {pos : Pos}
end
end Gz
end
section
set_option Elab.async false
set_option linter.all false
set_option maxRecDepth 100000
set_option maxHeartbeats 4000000
namespace Gz
open PySem PySem.Spec PyProof.Rows L2 GenW Gh
section
variable {X : Cx} {ip : List (Addr × Obj)} {σ : L2.St} {H : Hp} {s : Shared}
end
def HxOk (n : Nat) (H H2 : Hp) : Prop := H2 = H ∨ ∃ S o, n ≤ S ∧ H S = none ∧ (∀ xs, o ≠ .tup xs) ∧ (∀ od u, o ≠ .frz od u) ∧ (∀ ps, o ≠ .tbl ps) ∧ H2 = upd H S o
theorem HxOk.mono {n m : Nat} {H H2 : Hp} (h : HxOk n H H2) (l : m ≤ n) : HxOk m H H2 := h.elim .inl fun ⟨S, o, a, r⟩ => .inr ⟨S, o, Nat.le_trans l a, r⟩
theorem HxOk.sub {n : Nat} {H H2 : Hp} (h : HxOk n H H2) {b : Addr} (e : H2 b = none) : H b = none := by
  rcases h with rfl | ⟨S, o, _, h1, _, _, _, rfl⟩
  · exact e
  · by_cases q : b = S
    · rw [q]; exact h1
    · rwa [upd_ne q] at e
theorem HxOk.ext {n : Nat} {H H2 : Hp} (h : HxOk n H H2) {b : Addr} {o : HO} (e : H b = some o) : H2 b = some o := by
  rcases h with rfl | ⟨S, o', _, h1, _, _, _, rfl⟩
  · exact e
  · rw [upd_ne (ne_of_none e h1)]; exact e
theorem HxOk.tup {n : Nat} {H H2 : Hp} (h : HxOk n H H2) {b : Addr} {xs : List V} (e : H2 b = some (.tup xs)) : H b = some (.tup xs) := by
  rcases h with rfl | ⟨S, o', _, _, h2, _, _, rfl⟩
  · exact e
  · by_cases q : b = S
    · rw [q, upd_same] at e; cases e; exact absurd rfl (h2 _)
    · rwa [upd_ne q] at e
theorem HxOk.frz {n : Nat} {H H2 : Hp} (h : HxOk n H H2) {b : Addr} {od : Obj} {u : HO} (e : H2 b = some (.frz od u)) : H b = some (.frz od u) := by
  rcases h with rfl | ⟨S, o', _, _, _, h3, _, rfl⟩
  · exact e
  · by_cases q : b = S
    · rw [q, upd_same] at e; cases e; exact absurd rfl (h3 _ _)
    · rwa [upd_ne q] at e
theorem HxOk.tbl {n : Nat} {H H2 : Hp} (h : HxOk n H H2) {b : Addr} {ps : Array Value} (e : H2 b = some (.tbl ps)) : H b = some (.tbl ps) := by
  rcases h with rfl | ⟨S, o', _, _, _, _, h4, rfl⟩
  · exact e
  · by_cases q : b = S
    · rw [q, upd_same] at e; cases e; exact absurd rfl (h4 _)
    · rwa [upd_ne q] at e
section
variable {T : Type} {X : Cx} {st : Stmt} {rest : List Stmt}
end
end Gz
end
section
set_option Elab.async false
set_option linter.all false
set_option maxRecDepth 100000
set_option maxHeartbeats 4000000
namespace Gz
open PySem PySem.Spec PyProof.Rows L2 GenW Gh
def wrapP {T : Type} (P : Pro T) : Pro (T × Option Shared) := { hp := fun γ => P.hp γ.1, src := fun γ s => γ.2.getD s, out := fun n γ => P.out n γ.1, lk := fun n γ H γ' => P.lk n γ.1 H γ'.1, fin := fun n γ => P.fin n γ.1 }
section
variable {X : Cx} {tg iter : Expr} {body : List Stmt} {tq : TQG} {gt : TG} {tb : TS} {pos : Pos} {k : Nat} {E : XK}
end
end Gz
end
section
set_option Elab.async false
set_option linter.all false
set_option maxRecDepth 100000
set_option maxHeartbeats 4000000
namespace Gp
open PySem PySem.Spec PyProof.Rows L2 Gh Gz
section
variable {W W' L : Type}
end
section
variable {g : Gw} {T : Type} {P : Pro T} {all : List D} {N : Nat} {W W' L : Type}
end
theorem Ev.sup {U U1 U' : Addr → Prop} {H H' : Hp} (h : Ev U H U' H') (s : ∀ a, U a → U1 a) : Ev U1 H U' H' := ⟨fun a o e n t => h.keep a o e (fun z => n (s a z)) t, fun a o e n t => h.out a o e (fun z => n (s a z)) t⟩
section
variable {g : Gw} {W W' L : Type} {ε : Env} {env : W → Env} {envL : L → Env} {env' : W' → Env} {u ta tb : TQA} {te : TE} {me : Tr D}
end
end Gp
end
section
set_option Elab.async false
set_option linter.all false
set_option maxRecDepth 100000
set_option maxHeartbeats 4000000
namespace Gz
open PySem PySem.Spec PyProof.Rows L2 GenW Gh
section
variable {Xc X : Cx} {pins ip : List (Addr × Obj)} {σc σ : L2.St} {h1 h2 H1 : Hp} {s s' : Shared} {n0 : Nat}
end
def Cn2 {T : Type} (X : Cx) (pins : List (Addr × Obj)) (P : Pro T) (I : Nat → T → L2.St → Prop) (sc : Shared) : Nat → T × Option Shared → Shared → Prop
  | 0, _, _ => False
  | n + 1, γ, s => ∃ σ, I n γ.1 σ ∧ Inv X pins σ (P.hp γ.1) s ∧ ∀ s', γ.2 = some s' → s' = sc ∧ ∃ H1, Inv X pins σ H1 sc ∧ HxOk sc.heap.objs.size H1 (P.hp γ.1)
def PullS {T : Type} (X : Cx) (pins : List (Addr × Obj)) (P : Pro T) (I : Nat → T → L2.St → Prop) (sc : Shared) (XG : Cx) (a : Addr) (g : Nat) (A : Around) (H1 : Hp) (E : XK) (N n : Nat) (s : Shared) : Prop :=
  ∃ γ : T × Option Shared, Cn2 X pins P I sc (n + 1) γ s ∧ s.heap.IsGen a g ∧ ∃ gs, s.gens[g]? = some gs ∧ gs.Goes (model X.prog X.w) A.in1
    (QR XG g sc.heap.objs.size (wrapP P) (Cn2 X pins P I sc) (N + 1) (fun e s1 => CX X.prog X.w X.stack H1 sc E e s1 ∧ s1.heap.IsGen a g)) (QY XG g sc.heap.objs.size (wrapP P) (Cn2 X pins P I sc)) (n + 1) (.send .none) (s.setGen g .running)
section
variable {T : Type} {X XG : Cx} {pins : List (Addr × Obj)} {P : Pro T} {I : Nat → T → L2.St → Prop} {sc s : Shared} {a : Addr} {g N n : Nat} {A : Around} {H1 : Hp} {E : XK} {σ1 : L2.St}
theorem PullS.inv (h : PullS X pins P I sc XG a g A H1 E N n s) : ∃ γ σ, I n γ σ ∧ Inv X pins σ (P.hp γ) s := by
  obtain ⟨γ, ⟨σ, h1, h2, _⟩, _⟩ := h
  exact ⟨γ.1, σ, h1, h2⟩
theorem PullS.gen (h : PullS X pins P I sc XG a g A H1 E N n s) : s.heap.IsGen a g := by
  obtain ⟨γ, _, h, _⟩ := h
  exact h
end
end Gz
end
section
set_option Elab.async false
set_option linter.all false
set_option maxRecDepth 100000
set_option maxHeartbeats 4000000
namespace Gz
open PySem PySem.Spec PyProof.Rows L2 GenW Gh
def CnF {T : Type} (X : Cx) (sF : T → Shared) (HF : T → Hp) (pins : List (Addr × Obj)) (P : Pro T) (I : Nat → T → L2.St → Prop) (sc : Shared) : Nat → T × Option Shared → Shared → Prop
  | 0, _, _ => False
  | n + 1, γ, s => ∃ σ, I n γ.1 σ ∧ Inv (reb X (sF γ.1) (HF γ.1)) pins σ (P.hp γ.1) s ∧ ∀ s', γ.2 = some s' → s' = sc ∧ ∃ H1, Inv (reb X (sF γ.1) (HF γ.1)) pins σ H1 sc ∧ HxOk sc.heap.objs.size H1 (P.hp γ.1)
def PullF {T : Type} (X : Cx) (sF : T → Shared) (HF : T → Hp) (pins : List (Addr × Obj)) (P : Pro T) (I : Nat → T → L2.St → Prop) (sc : Shared) (XG : Cx) (a : Addr) (g : Nat) (A : Around) (H1 : Hp) (N n : Nat) (s : Shared) : Prop :=
  ∃ γ : T × Option Shared, CnF X sF HF pins P I sc (n + 1) γ s ∧ s.heap.IsGen a g ∧ ∃ gs, s.gens[g]? = some gs ∧ gs.Goes (model X.prog X.w) A.in1
    (QR XG g sc.heap.objs.size (wrapP P) (CnF X sF HF pins P I sc) (N + 1) (fun e s1 => CX X.prog X.w X.stack H1 sc (fun _ _ _ => False) e s1 ∧ s1.heap.IsGen a g)) (QY XG g sc.heap.objs.size (wrapP P) (CnF X sF HF pins P I sc)) (n + 1) (.send .none) (s.setGen g .running)
section
variable {T : Type} {X XG : Cx} {pins : List (Addr × Obj)} {P : Pro T} {I : Nat → T → L2.St → Prop} {sc s : Shared} {a : Addr} {g N n : Nat} {A : Around} {H1 : Hp} {E : XK} {σ1 : L2.St} {sF : T → Shared} {HF : T → Hp} {s0 : Shared} {H0 : Hp}
theorem PullF.inv (h : PullF X sF HF pins P I sc XG a g A H1 N n s) : ∃ γ σ, I n γ σ ∧ Inv (reb X (sF γ) (HF γ)) pins σ (P.hp γ) s := by
  obtain ⟨γ, ⟨σ, h1, h2, _⟩, _⟩ := h
  exact ⟨γ.1, σ, h1, h2⟩
theorem PullF.gen (h : PullF X sF HF pins P I sc XG a g A H1 N n s) : s.heap.IsGen a g := by
  obtain ⟨γ, _, h, _⟩ := h
  exact h
end
end Gz
end
section
set_option Elab.async false
set_option linter.all false
set_option maxRecDepth 100000
set_option maxHeartbeats 4000000
namespace Gp
open PySem PySem.Spec PyProof.Rows L2 Gh
abbrev AlM : Type := AlS × List (Option (List (Option (Str × Int))))
def obsM (as : List Addr) (ex : List (PySem.W.Frag → Bool)) (fn : List Df) (tf : List He.Defn) (fs : List Ds) (file : Str) (ts : List He.Tab) (g : Addr → Option Obj) : AlM := frL (He.frT g as) fun K => (obsK ex fn tf fs file g K, ts.map fun t => He.dicW K (t.1 K))
def KDs (ts : List He.Tab) (w : World) (K : PySem.W.Frag) : Prop := ∀ (i : Nat) (t : He.Tab), ts[i]? = some t → ∃ es n, KDict K w (t.1 K) es n
def hookM (as : List Addr) (ex : List (PySem.W.Frag → Bool)) (fn : List Df) (tf : List He.Defn) (fs : List Ds) (file : Str) (ts : List He.Tab) : PySem.W.Hook where
  α := AlM
  obs := fun s => obsM as ex fn tf fs file ts s.heap.get?
  val := fun w => (((Gh.val fn, true), true, fs.map Ds.val), ts.map fun t => some (He.keysIn w.params t.2))
  says := fun w h => ∃ K : PySem.W.Frag, K.In h ∧ SaysS ex fn tf fs file h K ∧ KDs ts w K
  of := fun w s e => by
    have e0 : (obsK ex fn tf fs file s.heap.get? (He.frT s.heap.get? as), ts.map fun t => He.dicW (He.frT s.heap.get? as) (t.1 (He.frT s.heap.get? as))) = (((Gh.val fn, true), true, fs.map Ds.val), ts.map fun t => some (He.keysIn w.params t.2)) := (frL_eq _ _).symm.trans e
    have e' := congrArg (fun z : AlM => z.1) e0
    have e2 := congrArg (fun z : AlM => z.2) e0
    refine ⟨_, He.frT_in, ⟨saysL_of (congrArg (fun z : AlS => z.1.1) e') (congrArg (fun z : AlS => z.1.2) e'), congrArg (fun z : AlS => z.2.1) e', congrArg (fun z : AlS => z.2.2) e'⟩, fun i t h => ?_⟩
    have e3 : (ts.map fun t => He.dicW (He.frT s.heap.get? as) (t.1 (He.frT s.heap.get? as)))[i]? = (ts.map fun t => some (He.keysIn w.params t.2))[i]? := congrArg (fun l => l[i]?) e2
    rw [List.getElem?_map, List.getElem?_map, h] at e3
    exact He.dicW_ok (Option.some.inj e3)
  keeps := fun _ _ _ ⟨K, hK, c, d⟩ k => ⟨K, PySem.W.Frag.In.keeps hK k, ⟨⟨c.s.t, c.s.hd, c.s.out, fun p hp => k _ _ (c.s.empty p hp)⟩, c.o, c.v⟩, d⟩
def kdV (ps : List (Str × Int)) : List (Str × He.Dv) := ps.map fun q => (q.1, .int q.2)
section
variable {X : Cx} {a b : Expr} {pos : Pos} {ta tb : TE}
end
section
variable {g : Gw} {E : XK} {ε : Env} {tk : TE} {mk : Tr D}
end
section
variable {W L : Type} {g : Gw} {E : XK} {ε : Env} {tb : TS} {env : W → Env} {envL : L → Env}
end
end Gp
end
section
set_option Elab.async false
set_option linter.all false
set_option maxRecDepth 100000
set_option maxHeartbeats 0
namespace Lw
open PySem PySem.Spec PyProof.Rows L2 Gh Gp
def top (i : Nat) : Stmt := PySem.Challenge.pw_everyhunt_k55_spots_at_lengths.main.body.getD i (.Pass ⟨0, 0, 0, 0⟩)
abbrev s_BadSpot___init__ : Stmt := inClass (top 7) 0
def d_BadSpot___init__ : Df := ⟨md "BadSpot" "__init__", "__init__", "BadSpot.__init__", s_BadSpot___init__, []⟩
abbrev s_BadLength___init__ : Stmt := inClass (top 2) 0
def d_BadLength___init__ : Df := ⟨md "BadLength" "__init__", "__init__", "BadLength.__init__", s_BadLength___init__, []⟩
abbrev s_BadRest___init__ : Stmt := inClass (top 3) 0
def d_BadRest___init__ : Df := ⟨md "BadRest" "__init__", "__init__", "BadRest.__init__", s_BadRest___init__, []⟩
abbrev s__law_pen : Stmt := top 26
def d__law_pen : Df := ⟨gd "_law_pen", "_law_pen", "_law_pen", s__law_pen, []⟩
abbrev s__law_draw : Stmt := top 27
def d__law_draw : Df := ⟨gd "_law_draw", "_law_draw", "_law_draw", s__law_draw, []⟩
abbrev s_is_integer : Stmt := top 12
def d_is_integer : Df := ⟨gd "is_integer", "is_integer", "is_integer", s_is_integer, []⟩
abbrev s_is_within : Stmt := top 13
def d_is_within : Df := ⟨gd "is_within", "is_within", "is_within", s_is_within, []⟩
abbrev s_is_length : Stmt := top 14
def d_is_length : Df := ⟨gd "is_length", "is_length", "is_length", s_is_length, []⟩
abbrev s_is_rest : Stmt := top 15
def d_is_rest : Df := ⟨gd "is_rest", "is_rest", "is_rest", s_is_rest, []⟩
abbrev s_need_length : Stmt := top 16
def d_need_length : Df := ⟨gd "need_length", "need_length", "need_length", s_need_length, []⟩
abbrev s_need_rest : Stmt := top 17
def d_need_rest : Df := ⟨gd "need_rest", "need_rest", "need_rest", s_need_rest, []⟩
abbrev s_Spot___init__ : Stmt := inClass (top 24) 0
def d_Spot___init__ : Df := ⟨md "Spot" "__init__", "__init__", "Spot.__init__", s_Spot___init__, []⟩
abbrev s_Spot_near_front : Stmt := inClass (top 24) 1
def d_Spot_near_front : Df := ⟨staG "Spot" "near_front", "near_front", "Spot.near_front", s_Spot_near_front, []⟩
abbrev s_Spot_near_middle : Stmt := inClass (top 24) 2
def d_Spot_near_middle : Df := ⟨staG "Spot" "near_middle", "near_middle", "Spot.near_middle", s_Spot_near_middle, []⟩
abbrev s_Spot_near_back : Stmt := inClass (top 24) 3
def d_Spot_near_back : Df := ⟨staG "Spot" "near_back", "near_back", "Spot.near_back", s_Spot_near_back, []⟩
abbrev s_Spot_kind : Stmt := inClass (top 24) 5
def d_Spot_kind : Df := ⟨propG "Spot" "kind", "kind", "Spot.kind", s_Spot_kind, []⟩
abbrev s_Spot_place_at_length : Stmt := inClass (top 24) 7
def d_Spot_place_at_length : Df := ⟨md "Spot" "place_at_length", "place_at_length", "Spot.place_at_length", s_Spot_place_at_length, []⟩
abbrev s_Spot___call__ : Stmt := inClass (top 24) 6
def d_Spot___call__ : Df := ⟨md "Spot" "__call__", "__call__", "Spot.__call__", s_Spot___call__, []⟩
abbrev s_Spot_turned : Stmt := inClass (top 24) 8
def d_Spot_turned : Df := ⟨md "Spot" "turned", "turned", "Spot.turned", s_Spot_turned, []⟩
abbrev s_Spot___add__ : Stmt := inClass (top 24) 9
def d_Spot___add__ : Df := ⟨md "Spot" "__add__", "__add__", "Spot.__add__", s_Spot___add__, []⟩
abbrev s_Spot___sub__ : Stmt := inClass (top 24) 10
def d_Spot___sub__ : Df := ⟨md "Spot" "__sub__", "__sub__", "Spot.__sub__", s_Spot___sub__, []⟩
abbrev s_Spot___eq__ : Stmt := inClass (top 24) 11
def d_Spot___eq__ : Df := ⟨md "Spot" "__eq__", "__eq__", "Spot.__eq__", s_Spot___eq__, []⟩
abbrev s_Spot___lt__ : Stmt := inClass (top 24) 12
def d_Spot___lt__ : Df := ⟨md "Spot" "__lt__", "__lt__", "Spot.__lt__", s_Spot___lt__, []⟩
abbrev s_Spot___le__ : Stmt := inClass (top 24) 13
def d_Spot___le__ : Df := ⟨md "Spot" "__le__", "__le__", "Spot.__le__", s_Spot___le__, []⟩
abbrev s_Spot___gt__ : Stmt := inClass (top 24) 14
def d_Spot___gt__ : Df := ⟨md "Spot" "__gt__", "__gt__", "Spot.__gt__", s_Spot___gt__, []⟩
abbrev s_Spot___ge__ : Stmt := inClass (top 24) 15
def d_Spot___ge__ : Df := ⟨md "Spot" "__ge__", "__ge__", "Spot.__ge__", s_Spot___ge__, []⟩
abbrev s_Spot___str__ : Stmt := inClass (top 24) 16
def d_Spot___str__ : Df := ⟨md "Spot" "__str__", "__str__", "Spot.__str__", s_Spot___str__, []⟩
abbrev s__law_pick : Stmt := top 28
def d__law_pick : Df := ⟨gd "_law_pick", "_law_pick", "_law_pick", s__law_pick, []⟩
abbrev s__law_heard : Stmt := top 29
def d__law_heard : Df := ⟨gd "_law_heard", "_law_heard", "_law_heard", s__law_heard, []⟩
abbrev s__law_place : Stmt := top 30
def d__law_place : Df := ⟨gd "_law_place", "_law_place", "_law_place", s__law_place, []⟩
abbrev s__law_spot : Stmt := top 31
def d__law_spot : Df := ⟨gd "_law_spot", "_law_spot", "_law_spot", s__law_spot, []⟩
abbrev s__law_real : Stmt := top 32
def d__law_real : Df := ⟨gd "_law_real", "_law_real", "_law_real", s__law_real, []⟩
abbrev s__law_length : Stmt := top 33
def d__law_length : Df := ⟨gd "_law_length", "_law_length", "_law_length", s__law_length, []⟩
abbrev s__law_moved_right : Stmt := top 34
def d__law_moved_right : Df := ⟨gd "_law_moved_right", "_law_moved_right", "_law_moved_right", s__law_moved_right, []⟩
abbrev s__law_turned_right : Stmt := top 35
def d__law_turned_right : Df := ⟨gd "_law_turned_right", "_law_turned_right", "_law_turned_right", s__law_turned_right, []⟩
abbrev s__law_order_right : Stmt := top 36
def d__law_order_right : Df := ⟨gd "_law_order_right", "_law_order_right", "_law_order_right", s__law_order_right, []⟩
abbrev s_law : Stmt := top 37
def d_law : Df := ⟨gd "law", "law", "law", s_law, []⟩
def fns : List Df := [d_BadSpot___init__, d_BadLength___init__, d_BadRest___init__, d__law_pen, d__law_draw, d_is_integer, d_is_within, d_is_length, d_is_rest, d_need_length, d_need_rest, d_Spot___init__, d_Spot_near_front, d_Spot_near_middle, d_Spot_near_back, d_Spot_kind, d_Spot_place_at_length, d_Spot___call__, d_Spot_turned, d_Spot___add__, d_Spot___sub__, d_Spot___eq__, d_Spot___lt__, d_Spot___le__, d_Spot___gt__, d_Spot___ge__, d_Spot___str__, d__law_pick, d__law_heard, d__law_place, d__law_spot, d__law_real, d__law_length, d__law_moved_right, d__law_turned_right, d__law_order_right, d_law]
def sds : List Gp.Ds := []
def pfile : Str := PySem.Challenge.pw_everyhunt_k55_spots_at_lengths.main.file
def exs : List (PySem.W.Frag → Bool) := [fa (.free "ValueError"), fa (.free "abs"), fa (.free "bool"), fa (.free "int"), fa (.free "isinstance"), fa (.free "len"), fa (.free "list"), fa (.free "range"), fa (.free "repr"), fa (.free "str"), fa (.glo "_law_pen"), fa (.keep "_law_pen"), fa (.glo "_law_draw"), fa (.keep "_law_draw"), fa (.glo "is_integer"), fa (.keep "is_integer"), fa (.glo "is_within"), fa (.keep "is_within"), fa (.glo "is_length"), fa (.keep "is_length"), fa (.glo "is_rest"), fa (.keep "is_rest"), fa (.glo "need_length"), fa (.keep "need_length"), fa (.glo "need_rest"), fa (.keep "need_rest"), fa (.glo "_law_pick"), fa (.keep "_law_pick"), fa (.glo "_law_heard"), fa (.keep "_law_heard"),
  fa (.glo "_law_place"), fa (.keep "_law_place"), fa (.glo "_law_spot"), fa (.keep "_law_spot"), fa (.glo "_law_real"), fa (.keep "_law_real"), fa (.glo "_law_length"), fa (.keep "_law_length"), fa (.glo "_law_moved_right"), fa (.keep "_law_moved_right"), fa (.glo "_law_turned_right"), fa (.keep "_law_turned_right"), fa (.glo "_law_order_right"), fa (.keep "_law_order_right"), fa (.glo "BadSpot"), fa (.keep "BadSpot"), fa (.glo "BadLength"), fa (.keep "BadLength"), fa (.glo "BadRest"), fa (.keep "BadRest"), fa (.glo "Spot"), fa (.keep "Spot"), fa (.glo "BadForm"), fa (.keep "BadForm"), fa (.glo "BadNumber"), fa (.keep "BadNumber"), fa (.glo "BadStep"), fa (.keep "BadStep"), fa (.glo "BadText"), fa (.keep "BadText"),
  fa (.glo "HuntError"), fa (.keep "HuntError"), fa (.glo "Parts"), fa (.keep "Parts"), fa (.int "GREATEST_LENGTH" 10000000000000000000000000000000000000000), fa (.int "MOST_NUMBER" 400), fa (.noat "BadSpot" "part"), errB "BadSpot", oexB "BadSpot", iniB "BadSpot", (fun K => decide (PySem.W.exmOne K (.ref (gd "BadSpot" K)) (.ref (gd "HuntError" K)) = some true)), fa (.noat "BadLength" "value"), errB "BadLength", oexB "BadLength", iniB "BadLength", (fun K => decide (PySem.W.exmOne K (.ref (gd "BadLength" K)) (.ref (gd "HuntError" K)) = some true)), fa (.noat "BadRest" "value"), errB "BadRest", oexB "BadRest", iniB "BadRest", (fun K => decide (PySem.W.exmOne K (.ref (gd "BadRest" K)) (.ref (gd "HuntError" K)) = some true)), fa (.cls "Spot"), insB "Spot", fa (.noat "Spot" "own_kind"), fa (.noat "Spot" "number"), fa (.noat "Spot" "own_rank"), fa (.mkr "Spot"), staB "Spot" "near_front", staB "Spot" "near_middle", staB "Spot" "near_back",
  propB "Spot" "kind", fa (.meth "Spot" "place_at_length"), fa (.meth "Spot" "__call__"), coB "Spot", fa (.meth "Spot" "turned"), fa (.meth "Spot" "__add__"), opB "Spot" .Add, ownB "Spot", fa (.meth "Spot" "__sub__"), opB "Spot" .Sub, fa (.meth "Spot" "__eq__"), fa (.meth "Spot" "__lt__"), fa (.meth "Spot" "__le__"), fa (.meth "Spot" "__gt__"), fa (.meth "Spot" "__ge__"), fa (.meth "Spot" "__str__"), fa (.glo "KINDS"), (fun K => He.tupB K "KINDS" [.str "front", .str "middle", .str "back"]), fa (.glo "RANKS"), (fun K => He.valsB K (gd "RANKS" K) (kdV [("front", 0), ("middle", 1), ("back", 2)])), (fun K => decide ((He.cT K ("_law_moved_right", none)).2 ≠ (He.cT K ("_law_turned_right", none)).2)), (fun K => decide (PySem.W.kitOne K (.ref (gd "BadSpot" K)) (.ref (gd "BadRest" K)) = some false)), (fun K => decide (PySem.W.kitOne K (.ref (gd "BadLength" K)) (.ref (gd "BadRest" K)) = some false)), (fun K => decide (PySem.W.kitOne K (.ref (gd "BadRest" K)) (.ref (gd "BadRest" K)) = some true)), (fun K => decide (PySem.W.kitOne K (.ref (gd "BadSpot" K)) (.ref (gd "BadLength" K)) = some false)), (fun K => decide (PySem.W.kitOne K (.ref (gd "BadLength" K)) (.ref (gd "BadLength" K)) = some true)), (fun K => decide (PySem.W.kitOne K (.ref (gd "BadRest" K)) (.ref (gd "BadLength" K)) = some false)), (fun K => decide (PySem.W.kitOne K (.ref (gd "BadSpot" K)) (.ref (gd "BadSpot" K)) = some true)), (fun K => decide (PySem.W.kitOne K (.ref (gd "BadLength" K)) (.ref (gd "BadSpot" K)) = some false)), (fun K => decide (PySem.W.kitOne K (.ref (gd "BadRest" K)) (.ref (gd "BadSpot" K)) = some false)),
  (fun K => decide (PySem.W.kitOne K (.ref (gd "BadSpot" K)) (.ref (gd "BadText" K)) = some false)), (fun K => decide (PySem.W.kitOne K (.ref (gd "BadLength" K)) (.ref (gd "BadText" K)) = some false)), (fun K => decide (PySem.W.kitOne K (.ref (gd "BadRest" K)) (.ref (gd "BadText" K)) = some false)), (fun K => decide (PySem.W.kitOne K (.ref (gd "BadSpot" K)) (.ref (gd "Parts" K)) = some false)), (fun K => decide (PySem.W.kitOne K (.ref (gd "BadLength" K)) (.ref (gd "Parts" K)) = some false)), (fun K => decide (PySem.W.kitOne K (.ref (gd "BadRest" K)) (.ref (gd "Parts" K)) = some false)), (fun K => decide (PySem.W.kitOne K (.ref (gd "BadSpot" K)) (.ref (gd "BadNumber" K)) = some false)), (fun K => decide (PySem.W.kitOne K (.ref (gd "BadLength" K)) (.ref (gd "BadNumber" K)) = some false)), (fun K => decide (PySem.W.kitOne K (.ref (gd "BadRest" K)) (.ref (gd "BadNumber" K)) = some false)), (fun K => decide (PySem.W.kitOne K (.ref (gd "BadSpot" K)) (.ref (gd "BadStep" K)) = some false)), (fun K => decide (PySem.W.kitOne K (.ref (gd "BadLength" K)) (.ref (gd "BadStep" K)) = some false)), (fun K => decide (PySem.W.kitOne K (.ref (gd "BadRest" K)) (.ref (gd "BadStep" K)) = some false)), (fun K => decide (PySem.W.kitOne K (.ref (gd "BadSpot" K)) (.ref (gd "BadForm" K)) = some false)), (fun K => decide (PySem.W.kitOne K (.ref (gd "BadLength" K)) (.ref (gd "BadForm" K)) = some false)), (fun K => decide (PySem.W.kitOne K (.ref (gd "BadRest" K)) (.ref (gd "BadForm" K)) = some false)), (fun K => decide (PySem.W.kitOne K (.ref (gd "BadSpot" K)) (.type "ValueError") = some true)), (fun K => decide (PySem.W.kitOne K (.ref (gd "BadLength" K)) (.type "ValueError") = some true)), (fun K => decide (PySem.W.kitOne K (.ref (gd "BadRest" K)) (.type "ValueError") = some true)), nfB "Spot", neB "Spot", (fun K => PySem.W.notFirst K (gd "Spot" K) (.ref (gd "Spot" K))), fa (.glo "law")]
def loose0 : List Str := ["__name__", "HuntError", "BadLength", "BadRest", "BadStep", "BadNumber", "BadForm", "BadSpot", "Parts", "BadText", "GREATEST_LENGTH", "is_integer"]
def loose1 : List Str := ["is_within", "is_length", "is_rest", "need_length", "need_rest", "number_in", "KINDS", "RANKS", "MOST_NUMBER", "Spot", "_law_pen", "_law_draw"]
def loose2 : List Str := ["_law_pick", "_law_heard", "_law_place", "_law_spot", "_law_real", "_law_length", "_law_moved_right", "_law_turned_right", "_law_order_right"]
def loose : List Str := loose0 ++ loose1 ++ loose2
abbrev R : PySem.W.OpenRow := PySem.W.OpenLaw.row PySem.Challenge.rw_everyhunt_k55_spots_at_lengths
def tfs : List He.Defn := [("_law_moved_right", none), ("_law_turned_right", none)]
def kts : List He.Tab := [(gd "RANKS", ["front", "middle", "back"])]
def adrs : List Addr := [3, 24, 44, 63, 82, 101, 120, 139, 158, 177, 186, 193, 200, 207, 214, 221, 227, 228, 370, 381, 388, 395, 402, 409, 416, 423, 430, 437, 444, 449, 456, 23, 43, 62, 138, 185, 192, 199, 206, 213, 220, 369, 380, 387, 394, 401, 408, 415, 422, 429, 436, 443, 448, 455, 41, 60, 136, 242, 251, 261, 271, 290, 297, 304, 311, 318, 325, 332, 339, 346, 353, 360, 367, 40, 59, 135, 241, 249, 259, 269, 289, 296, 303, 310, 317, 324, 331, 338, 345, 352, 359, 366, 248, 258, 268, 288, 2]
abbrev hk : PySem.W.Hook := Gp.hookM adrs exs fns tfs sds pfile kts
def ob (s : PySem.W.SharedT) : Gp.AlM := Gp.obsM adrs exs fns tfs sds pfile kts (HandSHeadRun.getT s)
theorem run (w : World) : HandSHeadRun.RunEq R (PySem.W.view R.prog [37]) hk ob 40000 loose w := by
  have h : ∀ (b : Bool) (w : World), HandSHeadRun.RunEq R (PySem.W.view R.prog [37]) hk ob 40000 loose (w.withFollow "special-get-raises" b) := fun b w os => by cases b <;> kernel_rfl
  have z := h (w.params.followText "special-get-raises") w
  rwa [World.withFollow_self] at z
section
variable {K : PySem.W.Frag} {mg : Str → Option Value} {Tb : List (Addr × Str)} {p c : Addr}
end
end Lw
end
section
set_option Elab.async false
set_option linter.all false
set_option maxRecDepth 100000
namespace Gh
open PySem PySem.Spec PyProof.Rows L2
abbrev FnA (K : PySem.W.Frag) (d : Df) (fd : FuncData) : Prop := FunD K d.name d.qual (defArgs d.st) (defBody d.st) (defScope d.st) (d.dvs K) [] (d.adr K) fd
theorem Df.funD {K : PySem.W.Frag} {d : Df} (e : fnAt K (d.adr K) = d.val) (c : d.ok K = true) : ∃ fd, FnA K d fd := by
  obtain ⟨kp, c2⟩ := He.ba c
  unfold fnAt at e
  cases q : K.lookup (d.adr K) with
  | none =>
    rw [q] at c2
    cases c2
  | some o =>
    obtain ⟨oc, od, dt, osl⟩ := o
    rw [q] at c2 e
    cases dt with
    | func fd =>
      obtain ⟨n1, n2, n3, n4, n5, n6, n7, n8, n9, n10, n11, n12, n13, n14, n15⟩ := fd
      have e2 : (some (n1, n2, n3, n4, n5, n6, n7, n15) : He.FnW) = some (d.name, d.qual, defArgs d.st, .stmts (defBody d.st), defScope d.st, mainGlobals, [], builtinsNs) := e
      simp only [Option.some.injEq, Prod.mk.injEq] at e2
      obtain ⟨h1, h2, h3, h4, h5, h6, h7, h8⟩ := e2
      subst h1 h2 h3 h4 h5 h6 h7 h8
      have c3 : (PySem.W.codeIn K n13 d.qual && (He.dflB K n8 (d.dvs K) && He.kwdB K n9 [])) = true := c2
      obtain ⟨k1, k2⟩ := He.ba c3
      obtain ⟨k3, k4⟩ := He.ba k2
      exact ⟨_, ⟨oc, od, n8, n9, n10, n11, n12, n13, n14, osl, rfl, q, k1, He.dflB_ok k3, He.kwdB_ok k4⟩, kp⟩
    | _ => cases c2
theorem Says.fact {ex : List (PySem.W.Frag → Bool)} {fn : List Df} {K : PySem.W.Frag} (c : Says ex fn K) (i : Nat) {f : PySem.W.Frag → Bool} (h : ex[i]? = some f := by rfl) : f K = true := by
  have c1 := (He.ba (show ((ex.all fun f => f K) && fn.all fun d => d.ok K) = true from congrArg (fun z : Al => z.1) c)).1
  exact List.all_eq_true.mp c1 f (List.mem_of_getElem? h)
theorem Says.def_ {ex : List (PySem.W.Frag → Bool)} {fn : List Df} {K : PySem.W.Frag} (c : Says ex fn K) (i : Nat) {d : Df} (h : fn[i]? = some d := by rfl) : ∃ fd, FnA K d fd := by
  have c2 := (He.ba (show ((ex.all fun f => f K) && fn.all fun d => d.ok K) = true from congrArg (fun z : Al => z.1) c)).2
  have e : fn.map (fun d => fnAt K (d.adr K)) = fn.map Df.val := congrArg (fun z : Al => z.2) c
  have e2 : (fn.map fun d => fnAt K (d.adr K))[i]? = (fn.map Df.val)[i]? := by rw [e]
  rw [List.getElem?_map, List.getElem?_map, h] at e2
  exact Df.funD (Option.some.inj e2) (List.all_eq_true.mp c2 d (List.mem_of_getElem? h))
theorem propB_ok {x m : Str} {K : PySem.W.Frag} (h : propB x m K = true) : PropOf K (He.ga K x) m (He.ma K (He.ga K x) m) (propG x m K) := by
  obtain ⟨h1, h2⟩ := He.ba h
  obtain ⟨h3, h4⟩ := He.ba h2
  obtain ⟨h5, h6⟩ := He.ba h4
  refine ⟨He.eqO_ok h1, He.eqO_ok h3, of_decide_eq_true h5, ?_⟩
  unfold propG
  cases q : PySem.W.recIn K (He.ma K (He.ga K x) m) "property" with
  | none =>
    rw [q] at h6
    cases h6
  | some l =>
    rw [q] at h6
    cases l with
    | nil => cases h6
    | cons v r =>
      cases v with
      | ref g => exact ⟨r, rfl⟩
      | _ => cases h6
theorem insB_ok {x : Str} {K : PySem.W.Frag} (h : insB x K = true) : InsT K (gd x K) := by
  obtain ⟨h1, h⟩ := He.ba h
  obtain ⟨h2, h⟩ := He.ba h
  obtain ⟨h3, h⟩ := He.ba h
  obtain ⟨h4, h⟩ := He.ba h
  obtain ⟨h5, h⟩ := He.ba h
  obtain ⟨h6, h7⟩ := He.ba h
  exact ⟨He.eqO_ok h1, He.eqO_ok h2, of_decide_eq_true h3, of_decide_eq_true h4, of_decide_eq_true h5, fun n hn => of_decide_eq_true (List.all_eq_true.mp h6 n hn), fun n hn => of_decide_eq_true (List.all_eq_true.mp h7 n hn)⟩
structure OwnT (K : PySem.W.Frag) (C : Addr) : Prop where
  first : PySem.W.selfFirst K C = true
  nf : PySem.W.notFirst K C (.ref C) = true
  sub : PySem.W.subIn K (.type "int") (.ref C) = some false
theorem ownB_ok {x : Str} {K : PySem.W.Frag} (h : ownB x K = true) : OwnT K (gd x K) := by
  obtain ⟨h1, h⟩ := He.ba h
  obtain ⟨h2, h3⟩ := He.ba h
  exact ⟨h1, h2, of_decide_eq_true h3⟩
structure OpT (K : PySem.W.Frag) (C : Addr) (op : Operator) : Prop where
  rc : ∃ rc, PySem.W.findIn K (.ref C) (dunderR op.info.2) = some rc ∧ (rc = none ∨ ∃ g : Addr, rc = some (.ref g))
  fo : ∃ fo, PySem.W.findIn K (.type "int") (PySem.dunder op.info.2) = some fo
  ro : ∃ ro, PySem.W.findIn K (.type "int") (dunderR op.info.2) = some ro
theorem opB_ok {x : Str} {op : Operator} {K : PySem.W.Frag} (h : opB x op K = true) : OpT K (gd x K) op := by
  obtain ⟨h1, h⟩ := He.ba h
  obtain ⟨h2, h3⟩ := He.ba h
  refine ⟨?_, Option.isSome_iff_exists.mp h2, Option.isSome_iff_exists.mp h3⟩
  cases q : PySem.W.findIn K (.ref (gd x K)) (dunderR op.info.2) with
  | none =>
    rw [q] at h1
    cases h1
  | some o =>
    cases o with
    | none => exact ⟨none, rfl, .inl rfl⟩
    | some v =>
      cases v with
      | ref g => exact ⟨_, rfl, .inr ⟨g, rfl⟩⟩
      | _ =>
        rw [q] at h1
        cases h1
theorem pe_gi {X : Cx} {x : Str} {i : Int} {pos : Pos} (h : ∃ t, X.mg x = some (.int i t)) (hg : Gl X x) (hd : (x == ("__debug__" : Str)) = false := by decide) : PE X (.Name x pos) (tC (.int i)) := by
  obtain ⟨t, e⟩ := h
  exact pe_glob hg e ⟨t, rfl⟩ hd
end Gh
end
section
set_option Elab.async false
set_option linter.all false
set_option maxRecDepth 100000
set_option maxHeartbeats 4000000
namespace Gh
open PySem PySem.Spec PyProof.Rows L2
section
variable {P : Program} {w : World} {K : PySem.W.Frag} {mg : Str → Option Value} {base : Heap} {CX : CXT} {j k : Nat} {f : Addr} {fd : FuncData} {ps : List Str} {sp : Sp} {dvs : List V}
theorem fnG_of {x qual : Str} {params : Arguments} {body : List Stmt} {scope : Scope} {kws : List (Str × V)} {N : List Str} (F : FunD K x qual params body scope dvs kws f fd) (S : FnScope N ps scope) (len : ∀ vs H Q E, sp vs H Q E → vs.length = ps.length)
    (hbody : ∀ (cdv : Value) (A : Around) (outer : List Env) (s : Shared) (H : Hp) (vs : List V) (Q : VK) (E : XK), Room k (A.deeper (envOfC qual scope s.heap.objs.size f cdv)) → (A.deeper (envOfC qual scope s.heap.objs.size f cdv)).guards = some [] → sp vs H Q E →
      ∃ t, PSs (cxOf CX P w K mg base N qual scope f cdv A outer s H E) body t ∧ t { nx := fun _ H' => Q .non H', rt := Q } (start N vs) H) : FnG P w K mg base CX (k + 1) f fd ps sp := by
  obtain ⟨oc, od, dV, kV, doc, pm, an, cdv, ct, osl, rfl, lk, hcd, _, _⟩ := F.ex
  refine ⟨len, fun A outer s H args us vs Q E hr hg e0 hb r hsp => ?_⟩
  have hl := len _ _ _ _ hsp
  have KX : K.In s.heap := e0.mod.kin.keeps fun b o e => (e0.bs b o e).1
  have lim : s.heap.NoLimit := e0.mod.nolimit.keeps fun b o e => (e0.bs b o e).1
  have hkind : ∀ y ∈ ps.zip us, scope.names.lookup y.1 = some .local ∨ (scope.names.lookup y.1 = some .cell ∧ ((cellsFrom (s.heap.objs.size + 1) scope.names []).lookup y.1).isSome = true) := fun ⟨n, v⟩ hy => by
    rcases S.par n (List.of_mem_zip hy).1 with q | q
    · exact .inl q
    · exact .inr ⟨q, PySem.W.cellsFrom_some _ _ _ (.inl q)⟩
  refine codeAny_call_function hr.depth (KX _ _ lk) rfl S.co S.gen rfl (PySem.W.codeRec_of KX hcd) (hb _ _ _ _ ?_)
  refine wpAny_newFunctionEnv_cells S.kind hkind fun env he s1 x => ?_
  subst he
  refine ⟨lim.keeps x.toInCall.keep, codeAny_func ?_⟩
  obtain ⟨t, ht, hq⟩ := hbody cdv A outer s H vs Q E (hr.deeper _) hg hsp
  have I : Inv (cxOf CX P w K mg base N qual scope f cdv A outer s H E) [] (start N vs) H s1 := inv_start S hr.hd e0 hl r x
  refine wpAny_mono (ht.run [] s1 (start N vs) H _ I hq) (fun fl s' hs => ?_) fun e s' hs => hs
  cases fl with
  | ret u =>
    obtain ⟨v, σ', H', J, rv, q⟩ := hs
    exact ⟨v, H', J.os, J.bare, J.base, J.hok, rv, q⟩
  | next =>
    obtain ⟨σ', H', J, q⟩ := hs
    exact ⟨V.non, H', J.os, J.bare, J.base, J.hok, rfl, q⟩
  | brk =>
    obtain ⟨_, _, _, q⟩ := hs
    exact False.elim q
  | cont =>
    obtain ⟨_, _, _, q⟩ := hs
    exact False.elim q
end
section
variable {X : Cx} {CX : CXT} {k : Nat} {f g C : Addr} {sp : Sp} {dvs : List V} {E : XK} {x m : Str} {p pos apos : Pos} {e o : Expr} {es : List Expr} {ta tb : TE} {t : TA} {r : List V → Hp → VK → Prop}
@[irreducible] def rMk (C : Addr) (sp : Sp) (dvs : List V) (E : XK) : List V → Hp → VK → Prop := fun vs H Q =>
  ∀ x dx, H x = none → H dx = none → dx ≠ x → sp (.ref x :: (vs ++ dvs)) (upd (upd H dx (.own x)) x (.ins C dx [])) (fun v H2 => v = .non ∧ Q (.ref x) H2) E
theorem guards_make {A : Around} {us : List Value} {kw : List (Str × Value)} (h : A.guards = some []) : (A.under (.builtin "type.__call__" ⟨.ref C :: us, kw⟩)).guards = some [] := by
  show pushGuards (Code.guards (.builtin "type.__call__" ⟨.ref C :: us, kw⟩)) A.guards = some []
  have e : Code.guards (.builtin "type.__call__" ⟨.ref C :: us, kw⟩) = [] := by
    unfold Code.guards
    rw [if_neg (by show ¬ (guardIds.contains "type.__call__" = true); decide)]
  rw [e]
  exact h
theorem Prom.make (M : Mk X.K C f) (F : PromX X CX k f dvs sp) (hr : Room (k + 1) X.A) (hg : X.A.guards = some []) (hx : Passes CX X E) : CallR X (.ref C) (rMk C sp dvs E) := by
  intro pins s σ H vs us Q I r h
  unfold rMk at h
  obtain ⟨fd, ps, ds, G, b, hd⟩ := F
  have hq := h (s.heap.objs.size + 1) s.heap.objs.size (I.hok.fresh (Nat.le_succ _)) (I.hok.fresh (Nat.le_refl _)) (Nat.ne_of_lt (Nat.lt_succ_self _))
  have I2 := Inv.made (C := C) I
  have r2 : Vals (V.ref (s.heap.objs.size + 1) :: (vs ++ dvs)) (Value.ref (s.heap.objs.size + 1) :: (us ++ ds)) := .cons rfl (r.append hd)
  have hl : (Value.ref (s.heap.objs.size + 1) :: us ++ ds).length = ps.length := by
    have e := r2.length
    rw [G.len _ _ _ _ hq] at e
    exact e.symm
  refine wpAny_call (make_map (f := f) I.kIn M.makes M.init (beq_iff_eq.mp M.fn) (codeAny_mono (G.run _ X.stack _ _ ⟨Value.ref (s.heap.objs.size + 1) :: us, []⟩ (Value.ref (s.heap.objs.size + 1) :: (us ++ ds)) _ _ E (hr.make C us []) (guards_make hg)
    (I2.env0.make C us []) (b _ (Value.ref (s.heap.objs.size + 1) :: us) I2.kIn hl) r2 hq) fun r s' hq' => ?_))
  cases r with
  | error e => exact hx pins σ _ _ e s' I2 hq'
  | ok fl =>
    cases fl with
    | ret u =>
      obtain ⟨v, H', I3, rv, ev, q3⟩ := I2.after hq'
      subst ev
      exact ⟨rv, ⟨V.ref (s.heap.objs.size + 1), H', I3, rfl, q3⟩⟩
    | next => exact False.elim hq'
    | brk => exact False.elim hq'
    | cont => exact False.elim hq'
def tCl (r : List V → Hp → VK → Prop) (t : TA) : TE := fun σ H Q => t σ H fun vs H1 => r vs H1 Q
theorem pe_g (R : CallR X (.ref f) r) (hg : Gl X x) (hm : X.mg x = some (.ref f)) (hk : PySem.W.keepIn X.K (.ref f) = true)
    (ha : PA X (e :: es) t) (hdb : (x == ("__debug__" : Str)) = false := by decide) (he : starEach (e :: es) X.env = (false, eval e X.env) :: starEach es X.env := by rfl) (hpl : (backTo pos (starEach es X.env)).any (·.1) = false := by rfl) :
    PE X (.Call (.Name x p) (e :: es) [] pos) (tCl r t) := by
  refine ⟨fun pins s σ H Q I h => ?_⟩
  refine wpAny_Call_Name_kw (ld_glob I hg hm ?_ hdb)
  refine PySem.W.callWith_K (h₀ := X.base) I.ok.mod.kin hk (thn (ha.run pos pins s σ H _ I h) fun us s1 ⟨vs, H1, I1, r, q⟩ => ⟨I1.kIn, ?_⟩) he hpl
  exact R pins s1 σ H1 vs us Q I1 r q
def tMt (C : Addr) (m : Str) (r : List V → Hp → VK → Prop) (ta : TE) (t : TA) : TE := fun σ H Q => ta σ H fun x H1 => ∃ a dx fs, x = .ref a ∧ H1 a = some (.ins C dx fs) ∧ fs.lookup m = none ∧ t σ H1 fun vs H2 => r (x :: vs) H2 Q
theorem pe_m {pl : Sem Bool} (he : PE X o ta) (c : Cls X.K C) (hm : Meth X.K C m f) (R : CallR X (.ref f) r) (ha : PA X (e :: es) t)
    (hst : starEach (e :: es) X.env = (false, eval e X.env) :: starEach es X.env := by rfl) (hpl : (backTo pos (starEach es X.env)).any (·.1) = false := by rfl)
    (ht : eval (.Call (.Attribute o m apos) (e :: es) [] pos) X.env = (do
      let ov ← eval o X.env
      standAt apos.atName
      let (f, first) ← holding [ov] (getMethod ov m pl)
      callWith pos f first (backTo pos (starEach (e :: es) X.env)) (backToKw pos (keywordEach [] X.env))) := by rfl) :
    PE X (.Call (.Attribute o m apos) (e :: es) [] pos) (tMt C m r ta t) := by
  refine ⟨fun pins s σ H Q I h => ?_⟩
  refine PySem.W.methodCall_KW (pl := pl) (thn (he.run pins s σ H _ I h) fun u s1 ⟨x, H1, I1, rx, a, dx, fs, ex, ea, l, q⟩ => ?_) ht
  subst ex
  obtain rfl : u = Value.ref a := rx
  refine getmeth_ok I1 ea c hm l ?_
  refine PySem.W.callWith_K (first := [.ref a]) (h₀ := X.base) I.ok.mod.kin hm.kp (thn (ha.run pos pins s1 σ H1 _ I1 q) fun us s2 ⟨vs, H2, I2, r, q2⟩ => ⟨I2.kIn, ?_⟩) hst hpl
  exact R pins s2 σ H2 (.ref a :: vs) (.ref a :: us) Q I2 (.cons rfl r) q2
def tPr (C : Addr) (sp : Sp) (dvs : List V) (E : XK) (ta : TE) : TE := fun σ H Q => ta σ H fun x H1 => ∃ a dx fs, x = .ref a ∧ H1 a = some (.ins C dx fs) ∧ sp (.ref a :: dvs) H1 Q E
@[irreducible] def rCmp (K : PySem.W.Frag) (C : Addr) (r : List V → Hp → VK → Prop) : R2 := fun x y H Q => ∃ a dx fs b C' dy gs, x = .ref a ∧ y = .ref b ∧ H a = some (.ins C dx fs) ∧ H b = some (.ins C' dy gs) ∧ PySem.W.notFirst K C (.ref C') = true ∧ r [x, y] H Q
theorem cmp_back {pins : List (Addr × Obj)} {σ : L2.St} {Q : VK} {u : Value} {s' : Shared} (h : EP X pins σ Q u s') : PySem.W.CmpBack (EP X pins σ Q) u s' := by
  obtain ⟨v, H', I', rv, q⟩ := h
  cases v with
  | non => cases (show u = Value.none from rv); exact ⟨.non, H', I', rfl, q⟩
  | bl b => cases (show u = Value.bool b from rv); exact ⟨.bl b, H', I', rfl, q⟩
  | int i => obtain ⟨t, z⟩ := (show ∃ t, u = Value.int i t from rv); subst z; exact ⟨.int i, H', I', ⟨t, rfl⟩, q⟩
  | str i => obtain ⟨t, z⟩ := (show ∃ t, u = Value.str i t from rv); subst z; exact ⟨.str i, H', I', ⟨t, rfl⟩, q⟩
  | byt i => obtain ⟨t, z⟩ := (show ∃ t, u = Value.bytes i t from rv); subst z; exact ⟨.byt i, H', I', ⟨t, rfl⟩, q⟩
  | flt i => obtain ⟨t, z⟩ := (show ∃ t, u = Value.float i t from rv); subst z; exact ⟨.flt i, H', I', ⟨t, rfl⟩, q⟩
  | ref a => cases (show u = Value.ref a from rv); exact ⟨.ref a, H', I', rfl, q⟩
  | ty n => cases (show u = Value.type n from rv); exact ⟨.ty n, H', I', rfl, q⟩
theorem op_cmp {op : CmpOp} (hop : ∀ a b, compareOp op a b = richCompare op a b) (hs : PySem.W.findIn X.K (.ref C) (cmpInfo op).2.1 = some (some (.ref g))) (hf : PySem.W.isFn X.K (.ref g) = true) (hu : X.A.units < cLine)
    (R : CallR X (.ref g) r) : OpR X (compareOp op) (rCmp X.K C r) := by
  intro pins s σ H x y v u Q I rx ry h
  unfold rCmp at h
  obtain ⟨a, dx, fs, b, C', dy, gs, rfl, rfl, ha, hb, hn, q⟩ := h
  cases (show v = Value.ref a from rx)
  cases (show u = Value.ref b from ry)
  obtain ⟨ox, od, J⟩ := ins_look I ha
  obtain ⟨ox', od', J'⟩ := ins_look I hb
  obtain ⟨m, hF⟩ := I.fr
  rw [hop]
  refine PySem.W.cmp_K (op := op) (tb := .ref C') hu hF I.ok.mod.kin J J'.type hn hs hf ?_
  exact wpAny_mono (R pins s σ H [.ref a, .ref b] [.ref a, .ref b] Q I (.cons rfl (.cons rfl .nil)) q) (fun w s' z => cmp_back z) fun _ _ x => x
@[irreducible] def rBinI (C : Addr) (r : List V → Hp → VK → Prop) : R2 := fun x y H Q => ∃ a dx fs i, x = .ref a ∧ y = .int i ∧ H a = some (.ins C dx fs) ∧ r [x, y] H Q
theorem op_binI {op : Operator} {fo ro rc : Option Value} (hc : PySem.W.selfFirst X.K C = true) (hs : PySem.W.findIn X.K (.ref C) (PySem.dunder op.info.2) = some (some (.ref g))) (hf : PySem.W.isFn X.K (.ref g) = true)
    (hr : PySem.W.findIn X.K (.ref C) (dunderR op.info.2) = some rc) (hp : rc = none ∨ ∃ g : Addr, rc = some (.ref g))
    (h1 : PySem.W.findIn X.K (.type "int") (PySem.dunder op.info.2) = some fo) (h2 : PySem.W.findIn X.K (.type "int") (dunderR op.info.2) = some ro) (hsub : PySem.W.subIn X.K (.type "int") (.ref C) = some false)
    (R : CallR X (.ref g) r) : OpR X (binaryOp op) (rBinI C r) := by
  intro pins s σ H x y v u Q I rx ry h
  unfold rBinI at h
  obtain ⟨a, dx, fs, i, rfl, rfl, ha, q⟩ := h
  cases (show v = Value.ref a from rx)
  obtain ⟨t, z⟩ := (show ∃ t, u = Value.int i t from ry)
  subst z
  obtain ⟨ox, od, J⟩ := ins_look I ha
  obtain ⟨m, hF⟩ := I.fr
  refine PySem.W.ksp_binT (T := "int") hF I.ok.mod.kin J rfl hc hs hf hr hp h1 h2 hsub ?_
  exact wpAny_mono (R pins s σ H [.ref a, .int i] [.ref a, .int i t] Q I (.cons rfl (.cons ⟨t, rfl⟩ .nil)) q) (fun w s' z => cmp_back z) fun _ _ x => x
end
end Gh
end
section
set_option Elab.async false
set_option linter.all false
set_option maxRecDepth 100000
set_option maxHeartbeats 4000000
namespace Gh
open PySem PySem.Spec PyProof.Rows L2
theorem Keep.new {H H' : Hp} {p q : Addr} {o : HO} (h : Keep H H' p) (n : H' q = none) : Keep H (upd H' q o) p := fun a u e ne => by
  rw [upd_ne (ne_of_none (h a u e ne) n)]
  exact h a u e ne
theorem Keep.put {H H' : Hp} {p : Addr} {o : HO} (h : Keep H H' p) : Keep H (upd H' p o) p := fun a u e ne => by
  rw [upd_ne ne]
  exact h a u e ne
theorem PenAt.le {H : Hp} {p : Addr} {a b : Nat} (h : PenAt H p b) (k : a ≤ b) : PenAt H p a := by
  obtain ⟨c, ns, i, z, h1, h2, h3, h4, h5, h6⟩ := h
  exact ⟨c, ns, i, z, h1, h2, h3, h4, by omega, h6⟩
theorem PenAt.new {H : Hp} {p q : Addr} {b : Nat} {o : HO} (h : PenAt H p b) (n : H q = none) : PenAt (upd H q o) p b := by
  obtain ⟨c, ns, i, z, h1, h2, h3⟩ := h
  exact ⟨c, ns, i, z, by rw [upd_ne (ne_of_none h1 n)]; exact h1, by rw [upd_ne (ne_of_none h2 n)]; exact h2, h3⟩
theorem dp_ints (K : PySem.W.Frag) (H : Hp) : ∀ ns : List Int, DpAll K H (ns.map V.int) (ns.map PyData.int)
  | [] => .nil
  | n :: r => .cons (.int n) (dp_ints K H r)
theorem eqv_nil (ds : List PyData) : PyData.eqv (.list ds) (.list []) = ds.isEmpty := by
  cases ds <;> rfl
theorem same_new {H : Hp} {q : Addr} {o : HO} (n : H q = none) : L2.Same H (upd H q o) := fun a u e => by
  rw [upd_ne (ne_of_none e n)]
  exact e
theorem atI_int {ns : List Int} {i : Int} (h0 : 0 ≤ i) (h1 : i < ns.length) : ∃ v, atI (ns.map V.int) i = some (.int v) ∧ v ∈ ns := by
  obtain ⟨j, rfl⟩ : ∃ j : Nat, i = j := ⟨i.toNat, by omega⟩
  have hl : j < ns.length := by omega
  refine ⟨ns[j], atI_nat ?_, List.getElem_mem hl⟩
  rw [List.getElem?_map, List.getElem?_eq_getElem hl]
  rfl
theorem pow_lt {i : Int} (h0 : 0 ≤ i) (h1 : i < 18446744073709551616) : i.natAbs < 2 ^ 64 := by
  have e : (2 : Nat) ^ 64 = 18446744073709551616 := by decide
  rw [e]
  omega
theorem mix_ok {x i a b c : Int} (h0 : 0 ≤ x) (h1 : x < 4294967296) (h2 : 0 ≤ i) (h3 : i ≤ 1000000) (ha : 0 ≤ a ∧ a ≤ 1000000) (hb : 0 ≤ b ∧ b ≤ 1000000) (hc : 0 ≤ c ∧ c ≤ 1000000) : (x * (2 * i + a) + b * i * i + c).natAbs < 2 ^ 64 := by
  have hii : 0 ≤ i * i ∧ i * i ≤ 1000000 * 1000000 := ⟨Int.mul_nonneg h2 h2, Int.mul_le_mul h3 h3 h2 (by decide)⟩
  have hxi : 0 ≤ x * (2 * i + a) ∧ x * (2 * i + a) ≤ 4294967296 * 4000000 := ⟨Int.mul_nonneg h0 (by omega), Int.mul_le_mul (by omega) (by omega) (by omega) (by decide)⟩
  have hbi : 0 ≤ b * (i * i) ∧ b * (i * i) ≤ 1000000 * (1000000 * 1000000) := ⟨Int.mul_nonneg hb.1 hii.1, Int.mul_le_mul hb.2 hii.2 hii.1 (by decide)⟩
  have e : b * i * i = b * (i * i) := Int.mul_assoc _ _ _
  refine pow_lt ?_ ?_ <;> (rw [e]; omega)
theorem mod_lt (x : Int) {m : Int} (h : 0 < m) : 0 ≤ x % m ∧ x % m < m := ⟨Int.emod_nonneg _ (by omega), Int.emod_lt_of_pos _ h⟩
theorem cut_all {xs : List V} {n : Nat} (h : xs.length ≤ n) : cutV xs none (some (n : Int)) = xs := by
  unfold cutV
  rw [HT.sIx_none, HT.sIx_nat, Nat.min_eq_right h, List.drop_zero, Nat.sub_zero]
  exact List.take_length
abbrev rInt1 : List V → Hp → VK → Prop := fun xs H Q => (∃ i, xs = [V.int i] ∧ Q (V.int i) H) ∨ ∃ k, xs = [V.bl k] ∧ Q (V.int (if k = true then 1 else 0)) H
def tCut (t u : TS) : TS := fun D σ H => ∃ M : L2.St → Hp → Prop, t { D with nx := M } σ H ∧ ∀ σ' H', M σ' H' → u D σ' H'
theorem pss_cut {X : Cx} {st : Stmt} {rest : List Stmt} {t u : TS} (h1 : PS X st t) (h2 : PSs X rest u) : PSs X (st :: rest) (tCut t u) := by
  refine ⟨fun pins s σ H D I h => ?_⟩
  obtain ⟨M, hm, hu⟩ := h
  refine wpAny_execs_cons (thn (h1.run pins s σ H { D with nx := M } I hm) fun f s1 q => ?_)
  cases f with
  | next =>
    obtain ⟨σ1, H1, I1, q1⟩ := q
    exact h2.run pins s1 σ1 H1 D I1 (hu σ1 H1 q1)
  | ret v => exact q
  | brk => exact q
  | cont => exact q
end Gh
end
section
set_option Elab.async false
set_option linter.all false
set_option maxRecDepth 100000
set_option maxHeartbeats 4000000
namespace Gh
open PySem PySem.Spec PyProof.Rows L2
theorem PenAt.ne {H : Hp} {p c : Addr} {b : Nat} (h : PenAt H p b) (n : H c = none) : c ≠ p := by
  obtain ⟨d, ns, i, z, h1, _⟩ := h
  exact (ne_of_none h1 n).symm
theorem fnG0 {P : Program} {w : World} {K : PySem.W.Frag} {mg : Str → Option Value} {base : Heap} {CX : CXT} {k : Nat} {f : Addr} {fd : FuncData} {ps : List Str} {sp : Sp} {dvs : List V} {x qual : Str} {params : Arguments} {body : List Stmt} {scope : Scope} {kws : List (Str × V)} {N : List Str}
    (F : FunD K x qual params body scope dvs kws f fd) (S : FnScope N ps scope) (len : ∀ vs H Q E, sp vs H Q E → vs.length = ps.length)
    (hbody : ∀ (cdv : Value) (A : Around) (outer : List Env) (s : Shared) (H : Hp) (vs : List V) (Q : VK) (E : XK), Room k (A.deeper (envOfC qual scope s.heap.objs.size f cdv)) → (A.deeper (envOfC qual scope s.heap.objs.size f cdv)).guards = some [] → sp vs H Q E →
      ∃ t, PSs (cxOf CX P w K mg base N qual scope f cdv A outer s H E).nox body t ∧ t { nx := fun _ H' => Q .non H', rt := Q } (start N vs) H) : FnG P w K mg base CX (k + 1) f fd ps sp :=
  fnG_of F S len fun cdv A outer s H vs Q E hr hg h => by
    obtain ⟨t, ht, q⟩ := hbody cdv A outer s H vs Q E hr hg h
    exact ⟨t, PSs.nox ht, q⟩
section
variable {X : Cx} {K : PySem.W.Frag}
theorem ix_listK (h : X.K = K) : IxR X (rIxL K) := h ▸ ix_list
end
end Gh
end
section
set_option Elab.async false
set_option linter.all false
set_option maxRecDepth 100000
set_option maxHeartbeats 4000000
namespace Gh
open PySem PySem.Spec PyProof.Rows L2
theorem exk_ok {P : Program} {w : World} {H : Hp} {h : Heap} {a C d : Addr} {o : Obj} {vs : Array Value} (h1 : h.get? a = some o) (h2 : o.cls = .ref C) (h3 : o.dict = some d) (h4 : o.data = .fields vs) : ObjOk P w H h a (exk a C d) :=
  ⟨⟨o, vs, h1, h2, h3, h4⟩, ⟨o, h1⟩, fun _ _ z k => by
    obtain ⟨o, vs, h1, h2, h3, h4⟩ := z
    exact ⟨o, vs, k _ h1, h2, h3, h4⟩⟩
theorem exk_at {P : Program} {w : World} {H : Hp} {h : Heap} {a C d : Addr} (hok : HOk P w H h) (e : H a = some (exk a C d)) : ∃ (o : Obj) (vs : Array Value), h.get? a = some o ∧ o.cls = .ref C ∧ o.dict = some d ∧ o.data = .fields vs :=
  (show ObjOk P w H h a (exk a C d) from hok a _ e).1
structure ErrT (K : PySem.W.Frag) (C : Addr) : Prop where
  hg : PySem.W.findIn K (.ref C) "__getattribute__" = some (some (.builtin "BaseException.__getattribute__"))
  hk : PySem.W.findIn K (.ref C) "__getattr__" = some none
  hs : PySem.W.subIn K (.ref C) (.type "BaseException") = some true
  hd : PySem.W.hasDictIn K C = true
  ha : PySem.W.findIn K (.ref C) "__class__" = some (some (.builtin "object.__class__"))
  hn : PySem.W.specialIn K (.builtin "object.__class__") "__get__" = some (some (.builtin "getset_descriptor.__get__"))
  htk : PySem.W.takesIn K (.builtin "object.__class__") = some true
  hm : PySem.W.mroIn K C (.type "object") = some true
theorem errB_ok {x : Str} {K : PySem.W.Frag} (h : errB x K = true) : ErrT K (gd x K) := by
  obtain ⟨h1, h⟩ := He.ba h
  obtain ⟨h2, h⟩ := He.ba h
  obtain ⟨h3, h⟩ := He.ba h
  obtain ⟨h4, h⟩ := He.ba h
  obtain ⟨h5, h⟩ := He.ba h
  obtain ⟨h6, h⟩ := He.ba h
  obtain ⟨h7, h8⟩ := He.ba h
  exact ⟨He.eqO_ok h1, He.eqO_ok h2, of_decide_eq_true h3, h4, He.eqO_ok h5, He.eqO_ok h6, of_decide_eq_true h7, of_decide_eq_true h8⟩
section
variable {X : Cx} {e : Expr} {te : TE} {pos : Pos} {n : Str}
theorem exk_inst {pins : List (Addr × Obj)} {σ : L2.St} {H : Hp} {s : Shared} {a C d : Addr} {fs : List (Str × V)} (I : Inv X pins σ H s) (h1 : H a = some (exk a C d)) (h2 : H d = some (.xd fs)) :
    ∃ o od mA, PySem.W.InstAt s.heap a o C (some od) ∧ s.heap.Ns1 d mA ∧ (∀ f, RelO (fs.lookup f) (mA f)) ∧ s.heap.get? d = some od := by
  obtain ⟨o, vs, k1, k2, k3, k4⟩ := exk_at I.hok h1
  obtain ⟨mA, hns, hr⟩ := (show ObjOk X.prog X.w H s.heap d (.xd fs) from I.hok d _ h2)
  obtain ⟨od, ho, hl⟩ := lookIn_ns hns
  exact ⟨o, od, mA, ⟨k1, k2, by unfold PySem.W.notCls; rw [k4] <;> rfl, by rw [k3]; exact ho⟩, hns, hr, ho⟩
def tXa (K : PySem.W.Frag) (n : Str) (te : TE) : TE := fun σ H Q => te σ H fun x H1 => ∃ (a C d : Addr) (fs : List (Str × V)) (v : V), x = .ref a ∧ H1 a = some (exk a C d) ∧ ErrT K C ∧ PySem.W.findIn K (.ref C) n = some none ∧ H1 d = some (.xd fs) ∧ fs.lookup n = some v ∧ Q v H1
theorem pe_xa {K : PySem.W.Frag} (hK : X.K = K) (he : PE X e te) (hb : attributeBase e n X.env (eval e X.env) = eval e X.env := by rfl) : PE X (.Attribute e n pos) (tXa K n te) := by
  subst hK
  refine ⟨fun pins s σ H Q I h => ?_⟩
  refine attr_of hb (thn (he.run pins s σ H _ I h) fun u s1 hh => ?_)
  obtain ⟨x, H1, I1, rx, a, C, d, fs, v, ex, ea, T, hno, ed, l, q⟩ := hh
  subst ex
  obtain rfl : u = Value.ref a := rx
  obtain ⟨o, vs, k1, k2, k3, k4⟩ := exk_at I1.hok ea
  obtain ⟨mA, hns, hr⟩ := (show ObjOk X.prog X.w H1 s1.heap d (.xd fs) from I1.hok d _ ed)
  obtain ⟨od, ho, hl⟩ := lookIn_ns hns
  obtain ⟨u, hu, ru⟩ := RelO.some_of (v := v) (o := mA n) (by rw [← l]; exact hr n)
  have J : PySem.W.InstAt s1.heap a o C (some od) := ⟨k1, k2, by unfold PySem.W.notCls; rw [k4] <;> rfl, by rw [k3]; exact ho⟩
  exact HandSPX.exc_get I1.kIn J T.hg T.hk T.hs (PySem.W.findObj_own T.hd hno rfl (by rw [hl, hu])) (handed_of ru) ⟨v, H1, I1.tok _, ru, q⟩
def rIsiZ (K : PySem.W.Frag) : List V → Hp → VK → Prop := fun xs H Q => rIsi K xs H Q ∨ ∃ (a C d : Addr) (fs : List (Str × V)) (c : V) (u : Value) (b : Bool), xs = [.ref a, c] ∧ ClsV c u ∧ H a = some (exk a C d) ∧ H d = some (.xd fs) ∧ ErrT K C ∧ PySem.W.kitOne K (.ref C) u = some b ∧ Q (.bl b) H
theorem call_isiZ {K : PySem.W.Frag} (hK : X.K = K) : CallR X (.builtin "isinstance") (rIsiZ K) := by
  subst hK
  intro pins s σ H xs us Q I r h
  rcases h with h | ⟨a, C, d, fs, c, u, b, rfl, k, ea, ed, T, e, q⟩
  · exact call_isi pins s σ H xs us Q I r h
  · obtain ⟨u1, u2, rfl, r1, r2⟩ := vals2 r
    obtain rfl : u1 = Value.ref a := r1
    have e2 := k.eq r2
    subst e2
    obtain ⟨o, od, mA, J, _⟩ := exk_inst I ea ed
    have hcl : (PySem.W.clsIn X.K C).isSome = true := by
      obtain ⟨cd, hc, _⟩ := PySem.W.any_some T.hd
      rw [hc]
      rfl
    exact PySem.W.kia_one (PySem.W.kitx_exc hcl T.hg T.hk T.hs T.ha T.hn T.htk T.hm) I.kIn J e (fun z => nomatch z) fun tk => ⟨.bl b, H, I.tok tk, rfl, q⟩
end
theorem inv_track {X : Cx} {pins : List (Addr × Obj)} {σ : L2.St} {H : Hp} {s : Shared} {a : Addr} {o : HO} (I : Inv X pins σ H s) (hn : H a = none) (n0 : X.s_0.heap.get? a = none) (nL : a ≠ X.env.locals) (nC : ∀ x c, X.env.cells.lookup x = some c → c ≠ a) (nP : ∀ p ∈ X.pn ++ pins, p.1 ≠ a)
    (ok : ObjOk X.prog X.w (upd H a o) s.heap a o) : Inv X pins σ (upd H a o) s := by
  have ne : ∀ {b : Addr} {u : HO}, H b = some u → b ≠ a := fun e => ne_of_none e hn
  refine ⟨I.ok, I.os, I.bare, ⟨I.base.keep, I.base.slot, fun b u e n hx => ?_, I.base.there, fun b xs e => ?_, fun b u v e => ?_, fun b ps e => ?_⟩, I.loc, I.cell, ?_, fun x c e => ?_, fun p hp => ?_, fun b u e => ?_, I.len⟩
  · rw [upd_ne (fun z => by rw [z, n0] at e; cases e)]
    exact I.base.free b u e n hx
  · have z := I.base.tups b xs e
    rw [upd_ne (ne z)]
    exact z
  · have z := I.base.frzs b u v e
    rw [upd_ne (ne z)]
    exact z
  · obtain ⟨more, z⟩ := I.base.tbls b ps e
    exact ⟨more, by rw [upd_ne (ne z)]; exact z⟩
  · rw [upd_ne nL.symm]
    exact I.free
  · rw [upd_ne (nC x c e)]
    exact I.freeC x c e
  · obtain ⟨z1, z2, z3⟩ := I.pin p hp
    exact ⟨z1, by rw [upd_ne (nP p hp)]; exact z2, z3⟩
  · by_cases hb : b = a
    · subst hb
      rw [upd_same] at e
      cases e
      exact ok
    · rw [upd_ne hb] at e
      exact (I.hok b u e).stay (fun _ _ _ q => q) (fun c hc => by rw [upd_ne (ne hc)]; exact hc) (fun c xs hc => by rw [upd_ne (ne hc)]; exact hc)
def wAsK (K : PySem.W.Frag) (c : Value) (i : Nat) (ts : Addr → Value → Option Addr → TS) (Wout : WX) (D : Ends) : WX := fun cls d σ H =>
  ∃ b, PySem.W.exmOne K cls c = some b ∧ (b = true → ∃ C dd, cls = .ref C ∧ d = some dd ∧ ∀ a, H a = none → ts a cls d { nx := fun σ' H' => H' a = none → D.nx (σ'.set i none) (upd H' a (exk a C dd)), rt := D.rt, bk := fun σ' H' => D.bk (σ'.set i none) H', ct := fun σ' H' => D.ct (σ'.set i none) H' } (σ.set i (some (.ref a))) H) ∧
    (b = false → Wout cls d σ H)
section
variable {X : Cx} {x n : Str} {c : Value} {i : Nat} {body suite : List Stmt} {b₀ : Stmt} {np pos pos' : Pos} {tb : WX → TS} {ts : Addr → Value → Option Addr → TS} {Wout : WX}
theorem ps_try_keep (hex : X.ex = []) (hs : X.stack = X.env :: X.outer) (hf : X.env.frame = some X.env.locals) (hN : X.N.Nodup) (hi : X.N[i]? = some n) (hln : X.env.kindOf n = some .local) (hc : Names X x c) (tk : Takes X Wout)
    (hb : ∀ (W : WX) (pn : List (Addr × Obj)) (xe : Value → Shared → Prop), Takes (X.tr pn xe) W → PassesOwn (model X.prog X.w) X.A X.env xe → PSs (X.tr pn xe) body (tb W))
    (hsu : ∀ (a : Addr) (oe : Obj) (cls : Value) (d : Option Addr) (pn : List (Addr × Obj)), Zc cls d oe → (∃ vs, oe.data = .fields vs) → PSs (X.suite a ((a, oe) :: pn)) (b₀ :: suite) (ts a cls d)) :
    PS X (.Try body [.ExceptHandler (some (.Name x np)) (some n) (b₀ :: suite) pos'] [] [] pos) (fun D σ H => tb (wAsK X.K c i ts Wout D) D σ H) := by
  refine ⟨fun pins s σ H D I h => ?_⟩
  have ok := I.ok
  have hfr : X.A.frames = some (X.env :: X.outer) := by rw [ok.frames, hs]
  have hloc : Loc X.env.scope n := .inl hln
  refine wpAny_Try_except ?_
  refine wpAny_mono ((hb (wAsK X.K c i ts Wout D) (X.pn ++ pins) (fun e s₁ => wpAny (model X.prog X.w) X.A (noteFrame e X.env) (fun _ s₂ => wpAny (model X.prog X.w) X.A (setFlight e none) (fun _ s₃ =>
    wpAny (model X.prog X.w) X.A (handleBy e X.env [.ExceptHandler (some (.Name x np)) (some n) (b₀ :: suite) pos']) (SP X pins D) X.xe s₃) X.xe s₂) X.xe s₁) (fun u s' xx => ?_) PassesOwn.looking).run [] s σ H D (I.toTry _) h) (fun f s1 hsp => ?_) (fun e s1 he => he)
  · -- the catch
    obtain ⟨a, B, sI, pins', σ', H', cls, d, rfl, J', nb, up, sky, na, os, ag, b, hb1, hyes, hno⟩ := xx
    have nB : B.get? a = none := by
      rcases sky with z | z | z
      · exact z.2.1
      · exact z.2.1
      · exact z.2.1
    have J : Inv X pins σ' H' sI := J'.ofTry ok
    have sky' : Sky B (X.env :: X.outer) a (Zc cls d) X.env.locals s'.heap := by rw [← hs]; exact sky
    show wpAny (model X.prog X.w) X.A (noteFrame (.ref a) X.env) _ _ _
    refine Sky.land Zc.steady hfr hf sky' fun h3 fl3 up3 => ?_
    have J3 : Inv X pins σ' H' { s' with heap := h3 } := J.landed nb fl3.1 (up.trans up3) os ag
    obtain ⟨oe3, vs3, he3, hz3, hd3⟩ := fl3.there
    have notFr : ∀ {h : Heap} {o : Obj} {vs : Array Value}, h.FunFrames B (X.env :: X.outer) → h.get? a = some o → o.data = .fields vs → a ∉ frs (X.env :: X.outer) := fun {h o vs} ff e dd hm => by
      obtain ⟨_, o', e', hnf⟩ := ff.mem hm
      rw [e] at e'; cases e'
      exact hnf _ dd
    have nfr := notFr fl3.2.2.1 he3 hd3
    have nL : a ≠ X.env.locals := fun z => nfr (List.mem_filterMap.mpr ⟨X.env, List.mem_cons_self, by rw [hf, z]⟩)
    have nF : a ∉ X.fs := fun hm => by
      obtain ⟨e, he, q⟩ := List.mem_filterMap.mp hm
      exact nfr (List.mem_filterMap.mpr ⟨e, List.mem_cons_of_mem _ he, q⟩)
    have nsI : sI.heap.get? a = none := by
      cases q : sI.heap.get? a with
      | none => rfl
      | some o =>
        have z := nb a o q (by rw [hs]; exact nfr)
        rw [nB] at z
        cases z
    have n0 : X.s_0.heap.get? a = none := by
      cases q : X.s_0.heap.get? a with
      | none => rfl
      | some o =>
        obtain ⟨o', z⟩ := J.base.there a o q (by rw [hex]; simp)
        rw [nsI] at z
        cases z
    have nP : ∀ p ∈ X.pn ++ pins, p.1 ≠ a := fun p hp z => by
      have y := (J.pin p hp).1
      rw [z, nsI] at y
      cases y
    have nC : ∀ x c, X.env.cells.lookup x = some c → c ≠ a := fun x c hx z => by
      obtain ⟨v, y⟩ := J.cell x c hx
      obtain ⟨o, y1, _⟩ := y
      rw [z, nsI] at y1
      cases y1
    have S3 := J3.suite he3 hd3 na nL nF
    refine wpAny_handleBy_cons (codeAny_handlers_test ?_) (by intro q; cases q)
    have LT : PySem.W.Looks (model X.prog X.w) h3 (typeOf (.ref a)) cls := fun A Q E s k q => wpAny_typeOf_ref (k _ _ he3) (by rw [hz3.1]; exact q)
    have LM := PySem.W.exm_one (M := model X.prog X.w) (J3.kIn) LT hb1
    have test : ∀ {Q : Value → Shared → Prop} {E : Value → Shared → Prop}, Q c { s' with heap := h3 } → wpAny (model X.prog X.w) (X.A.mark (some (.ref a))) (eval (.Name x np) X.env) Q E { s' with heap := h3 } := fun {Q E} q => by
      obtain ⟨hg, hdbg, hm | ⟨hm, hv, hnn⟩⟩ := hc
      · exact ld_glob (X := X.suite a ((a, oe3) :: (X.pn ++ pins))) S3 hg hm q hdbg
      · exact ld_blt (X := X.suite a ((a, oe3) :: (X.pn ++ pins))) S3 hg hm hv q hnn hdbg
    refine test (LM.here ?_)
    cases b with
    | true =>
      refine codeAny_handlers_suite_as ?_
      obtain ⟨C, dd, ecls, edd, hys⟩ := hyes rfl
      subst ecls
      subst edd
      refine HandSPX.lands_againZ fl3 fun h4 fl4 up4 => ?_
      have J4 : Inv X pins σ' H' { s' with heap := h4 } := J.landed nb fl4.1 ((up.trans up3).trans up4) os ag
      obtain ⟨oe4, vs4, he4, hz4, hd4⟩ := fl4.there
      have S4 := J4.suite he4 hd4 na nL nF
      refine store_ok (X := X.suite a ((a, oe4) :: (X.pn ++ pins))) (v := .ref a) S4 hN hi hloc rfl (fun s5 S5 => ?_) (.inr hln)
      refine wpAny_mono ((hsu a oe4 _ _ (X.pn ++ pins) hz4 ⟨_, hd4⟩).run [] s5 _ H' _ S5 (hys a na)) (fun f s6 hsp => ?_) (fun _ _ z => False.elim z)
      have end_ : ∀ {σ6 : L2.St} {H6 : Hp} {Q : Shared → Prop}, Inv (X.suite a ((a, oe4) :: (X.pn ++ pins))) [] σ6 H6 s6 → (∀ s7, Inv X pins (σ6.set i none) H6 s7 → Q s7) →
          wpAny (model X.prog X.w) X.A (do bindName X.env n .none; unbindBehindTheSuite X.env n pos') (fun _ s7 => Q s7) X.xe s6 := fun {σ6 H6 Q} S6 hq => gone_ok (S6.unsuite ok) hN hi hln hq
      cases f with
      | next =>
        obtain ⟨σ6, H6, S6, q6⟩ := hsp
        obtain ⟨ha6, hn6, _⟩ := S6.pin (a, oe4) (List.mem_append_left _ List.mem_cons_self)
        have J6 : Inv X pins σ6 (upd H6 a (exk a C dd)) s6 := inv_track (S6.unsuite ok) hn6 n0 nL nC nP (exk_ok ha6 hz4.1 hz4.2 hd4)
        exact gone_ok J6 hN hi hln fun s7 J7 => ⟨_, _, J7, q6 hn6⟩
      | brk =>
        obtain ⟨σ6, H6, S6, q6⟩ := hsp
        exact end_ S6 fun s7 J7 => ⟨_, _, J7, q6⟩
      | cont =>
        obtain ⟨σ6, H6, S6, q6⟩ := hsp
        exact end_ S6 fun s7 J7 => ⟨_, _, J7, q6⟩
      | ret u =>
        obtain ⟨v6, σ6, H6, S6, r6, q6⟩ := hsp
        exact end_ S6 fun s7 J7 => ⟨_, _, _, J7, r6, q6⟩
    | false =>
      show wpAny _ X.A (handleBy (.ref a) X.env []) _ _ _
      refine wpAny_handleBy_nil ?_
      obtain ⟨k1, k2, k3, oe, vs, T, oT, ts', he, hz, hd, h1, hr⟩ := id fl3
      unfold PySem.passOn
      refine wpAny_bind (wpAny_field he hd h1 ?_)
      rw [if_neg (show ¬ ((Value.ref T == Value.none) = true) from by simp)]
      have fin : wpAny (model X.prog X.w) X.A (setFlight (.ref a) X.env.frame) (fun _ s4 => wpAny (model X.prog X.w) X.A (throw (.ref a) : Sem Flow) (SP X pins D) X.xe s4) X.xe { s' with heap := h3 } := by
        rw [hf]
        refine HandSPX.setFlight_upZ fl3 fun h4 hh4 up4 => wpAny_throw (tk _ _ ?_)
        exact ⟨a, B, sI, pins, σ', H', cls, d, rfl, J, nb, (up.trans up3).trans up4, .inr (.inr (by rw [hs]; exact hh4)), na, os, ag, hno rfl⟩
      first
        | exact wpAny_bind (wpAny_pure (wpAny_bind fin))
        | exact wpAny_bind fin
  · cases f with
    | next =>
      obtain ⟨σ', H', J', q⟩ := hsp
      exact wpAny_execs_nil ⟨σ', H', J'.ofTry ok, q⟩
    | brk =>
      obtain ⟨σ', H', J', q⟩ := hsp
      exact ⟨σ', H', J'.ofTry ok, q⟩
    | cont =>
      obtain ⟨σ', H', J', q⟩ := hsp
      exact ⟨σ', H', J'.ofTry ok, q⟩
    | ret u =>
      obtain ⟨v, σ', H', J', r, q⟩ := hsp
      exact ⟨v, σ', H', J'.ofTry ok, r, q⟩
end
end Gh
end
section
set_option Elab.async false
set_option linter.all false
set_option maxRecDepth 100000
set_option maxHeartbeats 4000000
namespace Gh
open PySem PySem.Spec PyProof.Rows L2
def asS (g : Addr → Option Obj) (n : Nat) : List Addr := He.asD g n ++ [cStatics]
theorem law_callTsG {P : Program} {w : World} {K : PySem.W.Frag} {mg mb : Str → Option Value} {CX : CXT} {k : Nat} {fa a : Addr} {cs : List (Addr × Addr)} {fd : FuncData} {x : Str} {sp : Sp} {s₁ : Shared} {vs : List Value} {ns : List Int}
    (KX : K.In s₁.heap) (hns : s₁.heap.Ns mainGlobals mg) (hb : s₁.heap.Ns builtinsNs mb) (hbb : ∀ x : Str, x ≠ "__name__" → mb x = bootBuiltins x) (hlim : s₁.heap.NoLimit) (hg : s₁.gens = #[])
    (hT : ∀ p ∈ cs, s₁.heap.get? p.2 = some { cls := .none, data := .fields #[] }) (nT : ∀ p ∈ cs, K.lookup p.2 = none) (C : ∀ p ∈ cs, PySem.W.CodeHd s₁.heap p.1 p.2)
    (hbm : ∃ (bm : Addr) (ob : Obj), mg "__builtins__" = some (.ref bm) ∧ bm ≠ builtinsNs ∧ s₁.heap.get? bm = some ob ∧ ob.cls = .type "module" ∧ ob.dict = some builtinsNs ∧ ob.data = .plain)
    (ha : s₁.heap.get? a = some { cls := .type "list", data := .seq vs.toArray }) (hi : IntsAre vs ns) (hl : ns.length ≤ sizeLine) (hr : Room k callerA)
    (F : ∀ base : Heap, K.In base → base.Ns mainGlobals mg → (∀ p ∈ cs, LamX.TabB base mg p.1 p.2) → FnG P w K mg base CX k fa fd [x] sp) (hbind : ∀ (s : Shared) (u : Value), BindsTo s fd ⟨[u], []⟩ [(x, u)])
    (hsp : ∀ H : Hp, (∀ p ∈ cs, H p.2 = some (.tbl #[])) → SqL K H a (ns.map V.int) → sp [.ref a] H (fun v _ => v = .bl true) fun _ _ _ => False)
    (hCX : ∀ H e s', CX [] H s₁ (fun _ _ _ => False) e s' → False) :
    codeAny (model P w) callerA (.call (.ref fa) ⟨[.ref a], []⟩) (fun r s' => r = .ok (.ret (.bool true)) ∧ OldK s₁.heap s'.heap ∧ s'.os = s₁.os ∧ AllBare s'.gens) s₁ := by
  have rv := vals_ints hi
  have lenV := hi.length
  have isT : ∀ b : Addr, b ∈ cs.map (·.2) → s₁.heap.get? b = some { cls := .none, data := .fields #[] } := fun b hb => by
    obtain ⟨p, hp, e⟩ := List.mem_map.mp hb
    rw [← e]
    exact hT p hp
  have aT : a ∉ cs.map (·.2) := fun z => by
    have q := isT a z
    rw [ha] at q
    have z' : Data.seq vs.toArray _ = Data.fields #[] := congrArg Obj.data (Option.some.inj q)
    cases z'
  have memT : ∀ p ∈ cs, p.2 ∈ cs.map (·.2) := fun p hp => List.mem_map.mpr ⟨p, hp, rfl⟩
  -- from an abstract heap in which nothing but the script and the tables may be tracked
  have core : ∀ H : Hp, (∀ p ∈ cs, H p.2 = some (.tbl #[])) → (∀ b, H b = none ∨ b ∈ cs.map (·.2) ∨ ∃ o xs, H b = some (.frz o (.lst xs))) → SqL K H a (ns.map V.int) → HOk P w H s₁.heap → (∀ b, H b ≠ none → b = a ∨ b ∈ cs.map (·.2)) → (H a ≠ none → K.lookup a = none) →
      codeAny (model P w) callerA (.call (.ref fa) ⟨[.ref a], []⟩) (fun r s' => r = .ok (.ret (.bool true)) ∧ OldK s₁.heap s'.heap ∧ s'.os = s₁.os ∧ AllBare s'.gens) s₁ := by
    intro H hH hO hS hok hA hK
    have base_of : ∀ {b : Addr} {o : Obj}, s₁.heap.get? b = some o → H b = none → (hidT s₁.heap H).get? b = some o := fun e n => hidT_get e n
    have noD : ∀ {b : Addr} {o : Obj}, s₁.heap.get? b = some o → (∀ vs n, o.data ≠ .seq vs n) → o.data ≠ .fields #[] → H b = none := fun {b o} e h1 h2 => by
      cases q : H b with
      | none => rfl
      | some u =>
        rcases hA b (by rw [q]; simp) with e' | e'
        · rw [e', ha] at e
          cases e
          exact (h1 _ _ rfl).elim
        · rw [isT b e'] at e
          cases e
          exact (h2 rfl).elim
    have noA : ∀ {b : Addr} {o : Obj} {es : Array DictEntry} {ep : Nat}, s₁.heap.get? b = some o → o.data = .dict es ep → H b = none := fun {b o es ep} e d => by
      refine noD e (fun vs n z => ?_) fun z => ?_
      · rw [d] at z
        cases z
      · rw [d] at z
        cases z
    have nsK : ∀ {b : Addr} {m : Str → Option Value}, s₁.heap.Ns b m → (hidT s₁.heap H).Ns b m := fun {b m} ⟨o, es, ep, e, d, r⟩ => ⟨o, es, ep, base_of e (noA e d), d, r⟩
    have hKb : K.In (hidT s₁.heap H) := fun b o e => base_of (KX b o e) (by
      cases q : H b with
      | none => rfl
      | some u =>
        rcases hA b (by rw [q]; simp) with e' | e'
        · rw [e'] at e q
          rw [hK (by rw [q]; simp)] at e
          cases e
        · obtain ⟨p, hp, ep⟩ := List.mem_map.mp e'
          rw [← ep, nT p hp] at e
          cases e)
    have hM : L2.Mod K mg (hidT s₁.heap H) := ⟨hKb, nsK hns, ⟨mb, nsK hb, hbb⟩, let ⟨mc, h1, h2⟩ := hlim; ⟨mc, nsK h1, h2⟩⟩
    have TB : ∀ p ∈ cs, LamX.TabB (hidT s₁.heap H) mg p.1 p.2 := fun p hp => by
      have hTp := hT p hp
      refine ⟨?_, ?_, fun z => ?_⟩
      · obtain ⟨o, us, file, tf, flags, tg, inF, text, tt, e1, r1, r2, r3, r4, r5, r6, r7, r8, hne⟩ := C p hp
        refine ⟨o, us, file, tf, flags, tg, inF, text, tt, base_of e1 (noD e1 (fun vs n z => ?_) fun z => ?_), r1, r2, r3, r4, r5, r6, r7, r8, hne⟩
        · rw [r2] at z
          cases z
        · rw [r2] at z
          cases z
          simp at r3
      · obtain ⟨bm, ob, b1, b2, b3, b4, b5, b6⟩ := hbm
        have nG : bm ≠ mainGlobals := fun q => by
          obtain ⟨o, es, ep, e, hd, _⟩ := hns
          rw [q, e] at b3
          cases b3
          rw [hd] at b6
          cases b6
        have nP : bm ≠ p.2 := fun q => by
          rw [q, hTp] at b3
          cases b3
          cases b6
        refine ⟨bm, ob, b1, b2, nG, nP, base_of b3 (noD b3 (fun vs n z => ?_) fun z => ?_), b4, b5, b6⟩
        · rw [b6] at z
          cases z
        · rw [b6] at z
          cases z
      · obtain ⟨o, es, ep, e, hd, _⟩ := hns
        rw [z, hTp] at e
        cases e
        cases hd
    have e0 : Env0 P w K mg (hidT s₁.heap H) callerA [] s₁ H := ⟨rfl, hM, fun b o e => of_hidT e, Nat.le_of_eq (hidT_size _ _), trivial, fun b hb => absurd (show b ∈ ([] : List Addr) from hb) (by simp), hok, .of_eq hg⟩
    refine codeAny_mono ((F _ hKb (nsK hns) TB).run callerA [] s₁ H ⟨[.ref a], []⟩ [.ref a] [.ref a] _ _ hr rfl e0 (hbind s₁ (.ref a)) (.cons rfl .nil) (hsp H hH hS)) fun r s' h => ?_
    cases r with
    | error e => exact (hCX H e s' h).elim
    | ok fl =>
      cases fl with
      | next => exact False.elim h
      | brk => exact False.elim h
      | cont => exact False.elim h
      | ret u =>
        obtain ⟨v, H', os, bare, un, hok', r', q⟩ := h
        have q' : v = .bl true := q
        subst q'
        obtain rfl : u = Value.bool true := r'
        have key : ∀ b o, b ∉ cs.map (·.2) → s₁.heap.get? b = some o → s'.heap.get? b = some o := fun b o nb e => by
          cases q : H b with
          | none => exact un.keep b o e q (by intro z; exact absurd (show b ∈ ([] : List Addr) from z) (by simp)) (by simp)
          | some u =>
            rcases hO b with z | z | ⟨ob, xs, z⟩
            · rw [q] at z; cases z
            · exact absurd z nb
            · have z2 := un.frzs b ob _ z
              obtain ⟨e1, _⟩ := hok b _ z
              obtain ⟨e2, _⟩ := hok' b _ z2
              rw [e] at e1; cases e1
              exact e2
        have grown : ∀ p ∈ cs, ∃ more : Array Value, s'.heap.get? p.2 = some { cls := .none, data := .fields more } := fun p hp => by
          obtain ⟨more, z⟩ := un.tbls p.2 #[] (hH p hp)
          exact ⟨_, hok' p.2 _ z⟩
        refine ⟨rfl, ⟨fun b o e => ?_, fun b o e => ?_⟩, os, bare⟩
        · by_cases hb : b ∈ cs.map (·.2)
          · obtain ⟨p, hp, ep⟩ := List.mem_map.mp hb
            obtain ⟨more, hm⟩ := grown p hp
            rw [← ep] at e ⊢
            rw [hT p hp] at e
            cases e
            exact .inr (.inl ⟨((C p hp).tab (hT p hp)).isCodeTable, rfl, #[], more, rfl, by rw [Array.empty_append]; exact hm⟩)
          · exact .inl (key b o hb e)
        · by_cases hb : b ∈ cs.map (·.2)
          · obtain ⟨p, hp, ep⟩ := List.mem_map.mp hb
            obtain ⟨more, hm⟩ := grown p hp
            rw [← ep]
            exact ⟨_, hm⟩
          · exact ⟨o, key b o hb e⟩
  cases hk : K.lookup a with
  | some o =>
    have e := KX a o hk
    rw [ha] at e
    cases e
    refine core (fun b => if b ∈ cs.map (·.2) then some (.tbl #[]) else none) (fun p hp => if_pos (memT p hp)) (fun b => ?_) (.inr ⟨_, vs.toArray, _, hk, rfl, rfl, rfl, by rw [List.size_toArray, lenV]; exact hl, by simpa using rv⟩) (fun b u z => ?_) (fun b z => ?_) fun z => absurd (show (if a ∈ cs.map (·.2) then some (HO.tbl #[]) else none) = none from if_neg aT) z
    · by_cases hb : b ∈ cs.map (·.2)
      · exact .inr (.inl hb)
      · exact .inl (if_neg hb)
    · by_cases hb : b ∈ cs.map (·.2)
      · have z' := (if_pos hb).symm.trans z
        cases z'
        exact isT b hb
      · have z' := (if_neg hb).symm.trans z
        cases z'
    · by_cases hb : b ∈ cs.map (·.2)
      · exact .inr hb
      · exact absurd (if_neg hb) z
  | none =>
    refine core (fun b => if b = a then some (.frz { cls := .type "list", data := .seq vs.toArray } (.lst (ns.map V.int))) else if b ∈ cs.map (·.2) then some (.tbl #[]) else none) (fun p hp => (if_neg (show ¬ p.2 = a from fun z => aT (by rw [← z]; exact memT p hp))).trans (if_pos (memT p hp))) (fun b => ?_)
      (.inl (.inr ⟨{ cls := .type "list", data := .seq vs.toArray }, if_pos rfl⟩)) (fun b u z => ?_) (fun b z => ?_) fun _ => hk
    · by_cases hb : b = a
      · exact .inr (.inr ⟨_, _, if_pos hb⟩)
      · by_cases hb2 : b ∈ cs.map (·.2)
        · exact .inr (.inl hb2)
        · exact .inl ((if_neg hb).trans (if_neg hb2))
    · by_cases hb : b = a
      · have z' := (if_pos hb).symm.trans z
        cases z'
        rw [hb]
        exact ⟨ha, by rw [List.length_map]; exact hl, vs, _, rv, ha⟩
      · have z1 := (if_neg hb).symm.trans z
        by_cases hb2 : b ∈ cs.map (·.2)
        · have z' := (if_pos hb2).symm.trans z1
          cases z'
          exact isT b hb2
        · have z' := (if_neg hb2).symm.trans z1
          cases z'
    · by_cases hb : b = a
      · exact .inl hb
      · by_cases hb2 : b ∈ cs.map (·.2)
        · exact .inr hb2
        · exact absurd ((if_neg hb).trans (if_neg hb2)) z
theorem walk_ofTsG {l : PySem.W.OpenLaw} {n k : Nat} {q : Program} {loose : List Str} {XP : (Str → Option Value) → Heap → Prop} {YP : World → Heap → Prop} {d : DefRec} {CX : World → CXT} {x : Str}
    (hn : l.most = some n) (hn2 : n ≤ sizeLine) (hdf : d.params.defaults = []) (hr : Room k callerA)
    (F : ∀ (w : World) (mg : Str → Option Value) (fa : Addr) (h : Heap), YP w h → h.Ns mainGlobals mg → mg d.name = some (.ref fa) →
      ∃ (K : PySem.W.Frag) (fd : FuncData) (cs : List (Addr × Addr)) (sp : Sp), K.In h ∧ (∀ p ∈ cs, h.get? p.2 = some { cls := .none, data := .fields #[] }) ∧ (∀ p ∈ cs, K.lookup p.2 = none) ∧ (∀ p ∈ cs, PySem.W.CodeHd h p.1 p.2) ∧
        (∀ (s : Shared) (u : Value), BindsTo s fd ⟨[u], []⟩ [(x, u)]) ∧
        (∀ (H : Hp) (a : Addr) (ns : List Int), ns.length ≤ n → (∀ p ∈ cs, H p.2 = some (.tbl #[])) → SqL K H a (ns.map V.int) → sp [.ref a] H (fun v _ => v = .bl true) fun _ _ _ => False) ∧
        ∀ base : Heap, K.In base → base.Ns mainGlobals mg → (∀ p ∈ cs, LamX.TabB base mg p.1 p.2) → FnG l.prog w K mg base (CX w) k fa fd [x] sp)
    (hCX : ∀ (w : World) (H : Hp) (s : Shared) (e : Value) (s' : Shared), CX w [] H s (fun _ _ _ => False) e s' → False) :
    PySem.W.WalkO q loose XP YP l.row.toRowW d [] (fun f vs => PySem.call f vs) := by
  refine Att.attach_call hn hdf fun w s₀ s₁ mg mb fa o pm cd doc a vs ns G Y ho hd hcd hmg hobj hints hlen hg => ?_
  obtain ⟨K, fd, cs, sp, KX, hT, nT, C, hb, hsp, hF⟩ := F w mg fa _ Y G.T.g hmg
  exact law_callTsG KX G.T.g G.T.b G.T.builtins G.T.nolimit hg hT nT C G.T.bmain hobj hints (Nat.le_trans hlen hn2) hr hF hb (fun H hH hS => hsp H a ns hlen hH hS) fun H e s' => hCX w H s₁ e s'
end Gh
end
section
set_option Elab.async false
set_option linter.all false
set_option maxRecDepth 100000
set_option maxHeartbeats 4000000
namespace Gh
open PySem PySem.Spec PyProof.Rows L2
theorem fnO0 {P : Program} {w : World} {K : PySem.W.Frag} {mg : Str → Option Value} {base : Heap} {CX : CXT} {k : Nat} {f : Addr} {fd : FuncData} {ps : List Str} {sp : Sp} {dvs : List V} {x qual : Str} {params : Arguments} {body : List Stmt} {scope : Scope} {kws : List (Str × V)} {N : List Str}
    (F : FunD K x qual params body scope dvs kws f fd) (S : FnScope N ps scope) (len : ∀ vs H Q E, sp vs H Q E → vs.length = ps.length)
    (hbody : ∀ (cdv : Value) (A : Around) (outer : List Env) (s : Shared) (H : Hp) (vs : List V) (Q : VK) (E : XK), Room k (A.deeper (envOfC qual scope s.heap.objs.size f cdv)) → sp vs H Q E →
      ∃ t, PSs (cxOf CX P w K mg base N qual scope f cdv A outer s H E).nox body t ∧ t { nx := fun _ H' => Q .non H', rt := Q } (start N vs) H) : FnOk P w K mg base CX (k + 1) f fd ps sp :=
  F.ok S len fun cdv A outer s H vs Q E hr h => by
    obtain ⟨t, ht, q⟩ := hbody cdv A outer s H vs Q E hr h
    exact ⟨t, PSs.nox ht, q⟩
section
variable {X : Cx} {CX : CXT} {k : Nat} {f g C : Addr} {sp : Sp} {dvs : List V} {E : XK} {m : Str} {pos : Pos} {o : Expr} {ta : TE}
theorem PromO.make (M : Mk X.K C f) (F : PromOX X CX k f dvs sp) (hr : Room (k + 1) X.A) (hx : Passes CX X E) : CallR X (.ref C) (rMk C sp dvs E) := by
  intro pins s σ H vs us Q I r h
  unfold rMk at h
  obtain ⟨fd, ps, ds, G, b, hd⟩ := F
  exact run_make M G hr b hd hx I r h
theorem pe_po {pp : Addr} (he : PE X o ta) (c : Cls X.K C) (hp : PropOf X.K C m pp g) (F : PromOX X CX k g dvs sp) (hr : Room (k + 1) X.A) (hx : Passes CX X.nox E)
    (hab : attributeBase o m X.env (eval o X.env) = eval o X.env := by rfl) : PE X (.Attribute o m pos) (tPr C sp dvs E ta) := by
  obtain ⟨fd, ps, ds, G, b, hd⟩ := F
  exact pe_prop he c hp G hr b hd hx hab
theorem pass_on (hs : X.stack = X.env :: X.outer) (hf : X.env.frame = some X.env.locals) (hex : X.ex = []) {E₁ : Value → Shared → Prop} (hx : X.xe = fun e s' => wpAny (model X.prog X.w) X.A (leaving X.env e) (fun _ s'' => L2.CX X.prog X.w X.outer X.H_0 X.s_0 E e s'') E₁ s') : Passes (L2.CX X.prog X.w) X E :=
  passes_call (takes_of hs hf hex hx) fun _ _ _ _ h => h
end
theorem oexB_ok {x : Str} {K : PySem.W.Frag} (h : oexB x K = true) : OexC K (gd x K) := by
  obtain ⟨h1, h⟩ := He.ba h
  obtain ⟨h2, h⟩ := He.ba h
  obtain ⟨h3, h⟩ := He.ba h
  obtain ⟨h4, h5⟩ := He.ba h
  refine ⟨?_, He.eqO_ok h2, of_decide_eq_true h3, of_decide_eq_true h4, h5⟩
  split at h1
  · rename_i c dd nm bs m bm ns qn hd sn sb ab col dl k0 k1 k2 k3 n k5 e
    obtain ⟨z1, h1⟩ := He.ba h1
    obtain ⟨z2, h1⟩ := He.ba h1
    obtain ⟨z3, h1⟩ := He.ba h1
    obtain ⟨z4, h1⟩ := He.ba h1
    obtain ⟨z5, z6⟩ := He.ba h1
    have y1 := of_decide_eq_true z1
    have y2 := of_decide_eq_true z2
    have y6 := of_decide_eq_true z6
    have y5 : dl = false := by simpa using z5
    subst y1 y6 y5 z4
    refine ⟨nm, qn, ns, bs, bm, sn, sb, ab, col, dd, k0, k1, k2, k3, k5, ?_, z3⟩
    rw [e, y2]
  · cases h1
def spErr1 (C : Addr) (f : Str) : Sp := fun vs H Q _ => ∃ (a : Addr) (v : V), vs = [.ref a, v] ∧ H a = some (exo a C none) ∧ ∀ d, H d = none → d ≠ a → Q .non (upd (upd H d (exd d [(f, v)])) a (exo a C (some d)))
theorem mk_err1 {C : Addr} {f : Str} {v : V} {H : Hp} {Q : XK} (h : ∀ d H', L2.Same H H' → H d = none → H' d = some (.xd [(f, v)]) → Q (.ref C) (some d) H') :
    ([v] : List V).length ≤ 1000 ∧ ∀ a, H a = none → spErr1 C f (.ref a :: ([v] ++ [])) (upd H a (exo a C none)) (fun u H2 => u = .non ∧ ∃ (d : Addr) (fs : List (Str × V)), H2 a = some (exo a C (some d)) ∧ H2 d = some (exd d fs) ∧ H d = none ∧ Q (.ref C) (some d) (upd (del H2 a) d (.xd fs))) (fun _ _ _ => False) := by
  refine ⟨by show 1 ≤ 1000; decide, fun a na => ⟨a, v, rfl, upd_same, fun d nd ne => ⟨rfl, d, [(f, v)], upd_same, ?_, ?_, ?_⟩⟩⟩
  · rw [upd_ne ne, upd_same]
  · rw [upd_ne ne] at nd
    exact nd
  · have nd0 : H d = none := by
      rw [upd_ne ne] at nd
      exact nd
    refine h d _ (fun b u e => ?_) nd0 upd_same
    have hb : b ≠ a := ne_of_none e na
    have hd : b ≠ d := ne_of_none e nd0
    rw [upd_ne hd, del_ne hb, upd_ne hb, upd_ne hd, upd_ne hb]
    exact e
end Gh
end
section
set_option Elab.async false
set_option linter.all false
set_option maxRecDepth 100000
set_option maxHeartbeats 4000000
namespace Gh
open PySem PySem.Spec PyProof.Rows L2
structure StaT (K : PySem.W.Frag) (C : Addr) (m : Str) (p g : Addr) : Prop where
  rd : PySem.W.readsIn K C (.type "type") = true
  ga : PySem.W.specialIn K (.ref C) "__getattribute__" = some (some (.builtin "type.__getattribute__"))
  ty : PySem.W.typeIn K (.ref C) = some (.type "type")
  at_ : PySem.W.findCls K (.ref C) (.type "type") m = some (.get (.builtin "staticmethod.__get__") (.ref p) .none (.ref C))
  rc : ∃ rest, PySem.W.recIn K p "staticmethod" = some (.ref g :: rest)
  kp : PySem.W.keepIn K (.ref g) = true
theorem staB_ok {x m : Str} {K : PySem.W.Frag} (h : staB x m K = true) : StaT K (gd x K) m (He.ma K (He.ga K x) m) (staG x m K) := by
  obtain ⟨h1, h⟩ := He.ba h
  obtain ⟨h2, h⟩ := He.ba h
  obtain ⟨h3, h⟩ := He.ba h
  obtain ⟨h4, h⟩ := He.ba h
  obtain ⟨h5, h6⟩ := He.ba h
  refine ⟨h1, He.eqO_ok h2, of_decide_eq_true h3, ?_, ?_, h6⟩
  · split at h4
    · rename_i b p C e
      obtain ⟨z1, z⟩ := He.ba h4
      obtain ⟨z2, z3⟩ := He.ba z
      rw [e, of_decide_eq_true z1, of_decide_eq_true z2, of_decide_eq_true z3]
    · cases h4
  · unfold staG
    split at h5
    · rename_i g r e
      rw [e]
      exact ⟨r, rfl⟩
    · cases h5
section
variable {X : Cx} {CX : CXT} {k : Nat} {f g C : Addr} {sp : Sp} {dvs : List V} {E : XK} {m : Str} {apos pos : Pos} {o e : Expr} {es : List Expr} {ta : TE} {t : TA} {r : List V → Hp → VK → Prop}
def tSm (C : Addr) (r : List V → Hp → VK → Prop) (ta : TE) (t : TA) : TE := fun σ H Q => ta σ H fun x H1 => x = .ref C ∧ t σ H1 fun vs H2 => r vs H2 Q
theorem pe_sm {p : Addr} {pl : Sem Bool} (he : PE X o ta) (c : StaT X.K C m p g) (R : CallR X (.ref g) r) (ha : PA X (e :: es) t)
    (hst : starEach (e :: es) X.env = (false, eval e X.env) :: starEach es X.env := by rfl) (hpl : (backTo pos (starEach es X.env)).any (·.1) = false := by rfl)
    (ht : eval (.Call (.Attribute o m apos) (e :: es) [] pos) X.env = (do
      let ov ← eval o X.env
      standAt apos.atName
      let (f, first) ← holding [ov] (getMethod ov m pl)
      callWith pos f first (backTo pos (starEach (e :: es) X.env)) (backToKw pos (keywordEach [] X.env))) := by rfl) :
    PE X (.Call (.Attribute o m apos) (e :: es) [] pos) (tSm C r ta t) := by
  refine ⟨fun pins s σ H Q I h => ?_⟩
  refine PySem.W.methodCall_KW (pl := pl) (thn (he.run pins s σ H _ I h) fun u s1 ⟨x, H1, I1, rx, ex, q⟩ => ?_) ht
  subst ex
  obtain rfl : u = Value.ref C := rx
  obtain ⟨mm, fr⟩ := I1.fr
  obtain ⟨rest, hrc⟩ := c.rc
  refine PySem.W.method_of_cls fr I1.ok.mod.kin c.ga (PySem.W.cls_sm fr I1.ok.mod.kin c.ty c.rd c.at_ hrc rfl ?_)
  have I2 := I1.tok (s1.toks + 1)
  refine PySem.W.callWith_K (h₀ := X.base) I2.ok.mod.kin c.kp (thn (ha.run pos pins _ σ H1 _ I2 q) fun us s2 ⟨vs, H2, I3, rv, q2⟩ => ⟨I3.kIn, ?_⟩) hst hpl
  exact R pins s2 σ H2 vs us Q I3 rv q2
end
end Gh
end
section
set_option Elab.async false
set_option linter.all false
set_option maxRecDepth 100000
set_option maxHeartbeats 4000000
namespace Gh
open PySem PySem.Spec PyProof.Rows L2
@[irreducible] def rShow (K : PySem.W.Frag) : List V → Hp → VK → Prop := fun xs H Q => ∃ v t, xs = [v] ∧ Shw K H v t ∧ Q (.str t) H
theorem rShow_of {K : PySem.W.Frag} {v : V} {t : Str} {H : Hp} {Q : VK} (h : Shw K H v t) (q : Q (.str t) H) : rShow K [v] H Q := by
  unfold rShow
  exact ⟨v, t, rfl, h, q⟩
section
variable {X : Cx} {K : PySem.W.Frag}
theorem call_show (hK : X.K = K) (hu : X.A.units + 102 < cLine) (hg : X.A.guards = some []) : CallR X (.builtin "repr") (rShow K) := by
  subst hK
  intro pins s σ H xs us Q I r h
  unfold rShow at h
  obtain ⟨v, t, rfl, hs, q⟩ := h
  obtain ⟨u, rfl, ru⟩ := vals1 r
  cases hs with
  | non =>
    cases (show u = Value.none from ru)
    exact PySem.P.repr_of_none ⟨.str _, H, I.tok _, ⟨_, rfl⟩, q⟩
  | bl b =>
    cases (show u = Value.bool b from ru)
    exact PySem.P.repr_of_bool ⟨.str _, H, I.tok _, ⟨_, rfl⟩, q⟩
  | int i h =>
    obtain ⟨t, rfl⟩ := ru
    exact PySem.P.repr_of_int h ⟨.str _, H, I.tok _, ⟨_, rfl⟩, q⟩
  | str x h =>
    obtain ⟨t, rfl⟩ := ru
    exact PySem.P.repr_of_str ⟨.str _, H, I.tok _, ⟨_, rfl⟩, q⟩ (hsz := h)
  | dp hd h1 h2 h3 h4 =>
    rename_i a d
    cases (show u = Value.ref a from ru)
    obtain ⟨as, rd⟩ := Dp.reads I d _ _ hd rfl
    exact repr_of_reads' rd h1 (fun z => by rw [h2] at z; cases z) hg (by omega) (fun _ _ e => e) (fun h' u tk k => ⟨.str d.shown, H, I.kept k, ⟨u, rfl⟩, q⟩) h4
variable {CX : CXT} {x : Str} {C fI : Addr} {k : Nat} {sp : Sp} {dvs : List V} {e : Expr} {es : List Expr} {ta : TA} {p pos : Pos}
theorem passF : Passes (L2.CX X.prog X.w) X (fun _ _ _ => False) := fun _ _ _ _ _ _ _ h => by
  obtain ⟨_, _, _, _, _, _, _, _, _, _, _, _, z⟩ := h
  exact z.elim
theorem pmk_po (T : OexC X.K C) (iC : PySem.W.findIn X.K (.ref C) "__init__" = some (some (.ref fI))) (tI : PySem.W.typeIn X.K (.ref fI) = some (.type "function")) (F : PromOX X CX k fI dvs sp) (hr : Room (k + 1) X.A) (hx : Passes CX X (fun _ _ _ => False)) (hm : X.mg x = some (.ref C)) (ha : PA X (e :: es) ta) (hg : Gl X x := by rfl)
    (hdb : (x == ("__debug__" : Str)) = false := by decide) (he : starEach (e :: es) X.env = (false, eval e X.env) :: starEach es X.env := by rfl) (hpl : (backTo pos (starEach es X.env)).any (·.1) = false := by rfl) : PMk X (.Call (.Name x p) (e :: es) [] pos) (tMkO C sp dvs ta) := by
  obtain ⟨fd, ps, ds, G, b, hd⟩ := F
  exact pmk_oex T iC tI G hr b hd hx hg hm ha hdb he hpl
end
structure IniT (K : PySem.W.Frag) (C f : Addr) : Prop where
  iC : PySem.W.findIn K (.ref C) "__init__" = some (some (.ref f))
  tI : PySem.W.typeIn K (.ref f) = some (.type "function")
theorem iniB_ok {x : Str} {K : PySem.W.Frag} (h : iniB x K = true) : IniT K (gd x K) (md x "__init__" K) := by
  obtain ⟨h1, h2⟩ := He.ba h
  exact ⟨He.eqO_ok h1, of_decide_eq_true h2⟩
theorem coB_ok {x : Str} {K : PySem.W.Frag} (h : coB x K = true) : StX.CallO K (gd x K) (md x "__call__" K) := by
  obtain ⟨h1, h⟩ := He.ba h
  obtain ⟨h2, h3⟩ := He.ba h
  exact ⟨He.eqO_ok h1, h2, h3⟩
theorem PromO.raw {P : Program} {w : World} {K : PySem.W.Frag} {mg : Str → Option Value} {base : Heap} {CX : CXT} {k : Nat} {f : Addr} {sp : Sp} (F : PromO P w K mg base CX k f [] sp) : FnR P w K mg base CX k f sp := by
  obtain ⟨fd, ps, ds, G, b, hd⟩ := F
  have z := G.raw b hd
  intro A outer s H us vs Q E hr e0 r hs
  exact z A outer s H us vs Q E hr e0 r (show sp (vs ++ []) H Q E by rw [List.append_nil]; exact hs)
end Gh
end
section
set_option Elab.async false
set_option linter.all false
set_option maxRecDepth 100000
set_option maxHeartbeats 4000000
namespace Gh
open PySem PySem.Spec PyProof.Rows L2
section
variable {prog : Program} {w : World} {A : Around} {E : Value → Shared → Prop} {s : Shared}
end
theorem PI.or {X : Cx} {tg iter : Expr} {w1 w2 : TI} (a : PI X tg iter w1) (b : PI X tg iter w2) : PI X tg iter (fun σ H R => w1 σ H R ∨ w2 σ H R) :=
  ⟨fun pins s σ H R I h => h.elim (a.run pins s σ H R I) (b.run pins s σ H R I)⟩
end Gh
end
section
set_option Elab.async false
set_option linter.all false
set_option maxRecDepth 100000
set_option maxHeartbeats 4000000
namespace Gh
open PySem PySem.Spec PyProof.Rows L2
section
variable {X : Cx} {C f : Addr} {r : List V → Hp → VK → Prop}
@[irreducible] def rSetO (C : Addr) (r : List V → Hp → VK → Prop) : TSet := fun o i v H Q => ∃ a dx fs, o = .ref a ∧ H a = some (.ins C dx fs) ∧ r [o, i, v] H fun _ H' => Q H'
@[irreducible] def rIxO (C : Addr) (sp : Sp) (E : XK) : R2 := fun x y H Q => ∃ a dx fs, x = .ref a ∧ H a = some (.ins C dx fs) ∧ sp [x, y] H Q E
end
end Gh
end
section
set_option Elab.async false
set_option linter.all false
set_option maxRecDepth 100000
set_option maxHeartbeats 4000000
namespace Gh
open PySem PySem.Spec PyProof.Rows L2
theorem fnG1 {P : Program} {w : World} {K : PySem.W.Frag} {mg : Str → Option Value} {base : Heap} {CX : CXT} {k : Nat} {f : Addr} {fd : FuncData} {ps : List Str} {sp : Sp} {dvs : List V} {x qual : Str} {params : Arguments} {body : List Stmt} {scope : Scope} {kws : List (Str × V)} {N : List Str}
    (F : FunD K x qual params body scope dvs kws f fd) (S : FnScope N ps scope) (len : ∀ vs H Q E, sp vs H Q E → vs.length = ps.length)
    (hbody : ∀ (cdv : Value) (A : Around) (outer : List Env) (s : Shared) (H : Hp) (vs : List V) (Q : VK) (E : XK), cdv = fd.code → Room k (A.deeper (envOfC qual scope s.heap.objs.size f cdv)) → (A.deeper (envOfC qual scope s.heap.objs.size f cdv)).guards = some [] → sp vs H Q E →
      ∃ t, PSs (cxOf CX P w K mg base N qual scope f cdv A outer s H E).nox body t ∧ t { nx := fun _ H' => Q .non H', rt := Q } (start N vs) H) : FnG P w K mg base CX (k + 1) f fd ps sp := by
  obtain ⟨oc, od, dV, kV, doc, pm, an, cdv, ct, osl, rfl, lk, hcd, _, _⟩ := F.ex
  refine ⟨len, fun A outer s H args us vs Q E hr hg e0 hb r hsp => ?_⟩
  refine LamX.run_ofS (N := N) (ps := ps) lk hcd S hr e0 hb r (len _ _ _ _ hsp) fun hr' => ?_
  obtain ⟨t, ht, q⟩ := hbody cdv A outer s H vs Q E rfl hr' hg hsp
  exact ⟨t, PSs.nox ht, q⟩
theorem codeOf_fn {K : PySem.W.Frag} {x qual : Str} {params : Arguments} {body : List Stmt} {scope : Scope} {dvs : List V} {kws : List (Str × V)} {fd : FuncData} {p : Str × Option Str} (F : FunD K x qual params body scope dvs kws (He.fAd K p) fd) : fd.code = .ref (He.codeOf K p) := by
  obtain ⟨oc, od, dV, kV, doc, pm, an, cdv, ct, osl, rfl, lk, hcd, _, _⟩ := F.ex
  obtain ⟨c, rfl⟩ := He.codeIn_ref hcd
  exact (congrArg Value.ref (He.codeOf_eq lk rfl)).symm
section
variable {K : PySem.W.Frag} {H H' : Hp}
theorem sqL_extN {a : Addr} {xs : List V} (h : SqL K H a xs) (s : LamX.ExtN H H') : SqL K H' a xs := by
  rcases h with (h | ⟨o, h⟩) | h
  · exact .inl (.inl (s _ _ h (fun _ z => by cases z)))
  · exact .inl (.inr ⟨o, s _ _ h (fun _ z => by cases z)⟩)
  · exact .inr h
theorem sqT_extN {a : Addr} {xs : List V} (h : SqT K H a xs) (s : LamX.ExtN H H') : SqT K H' a xs := by
  rcases h with (h | ⟨o, h⟩) | h
  · exact .inl (.inl (s _ _ h (fun _ z => by cases z)))
  · exact .inl (.inr ⟨o, s _ _ h (fun _ z => by cases z)⟩)
  · exact .inr h
mutual
theorem dp_extN (s : LamX.ExtN H H') : ∀ {v : V} {d : PyData}, Dp K H v d → Dp K H' v d
  | _, _, .non => .non
  | _, _, .bl b => .bl b
  | _, _, .int i => .int i
  | _, _, .str x => .str x
  | _, _, .lst h a => .lst (sqL_extN h s) (dpAll_extN s a)
  | _, _, .tup h a => .tup (sqT_extN h s) (dpAll_extN s a)
theorem dpAll_extN (s : LamX.ExtN H H') : ∀ {vs : List V} {ds : List PyData}, DpAll K H vs ds → DpAll K H' vs ds
  | _, _, .nil => .nil
  | _, _, .cons a r => .cons (dp_extN s a) (dpAll_extN s r)
end
theorem Shw.extN {v : V} {t : Str} (h : Shw K H v t) (s : LamX.ExtN H H') : Shw K H' v t := by
  cases h with
  | non => exact .non
  | bl b => exact .bl b
  | int i h => exact .int i h
  | str x h => exact .str x h
  | dp a b c d e => exact .dp (dp_extN s a) b c d e
theorem Kd.extN {v : V} (k : Kd H v) (s : LamX.ExtN H H') : Kd H' v := by
  cases k with
  | non => exact .non
  | bl b => exact .bl b
  | int i => exact .int i
  | str x => exact .str x
  | lst h => exact .lst (s _ _ h (fun _ z => by cases z))
  | tup h => exact .tup (s _ _ h (fun _ z => by cases z))
  | dK h => exact .dK (s _ _ h (fun _ z => by cases z))
theorem PenAt.extN {p : Addr} {b : Nat} (h : PenAt H p b) (s : LamX.ExtN H H') : PenAt H' p b := by
  obtain ⟨c, ns, i, z, h1, h2, r⟩ := h
  exact ⟨c, ns, i, z, s _ _ h1 (fun _ z => by cases z), s _ _ h2 (fun _ z => by cases z), r⟩
end
def tCallI (C : Addr) (sp : Sp) (E : XK) (tf : TE) (t : TA) : TE := fun σ H Q => tf σ H fun y H1 => ∃ a, y = V.ref a ∧ t σ H1 fun vs H2 => (∃ dx fs, H2 a = some (.ins C dx fs)) ∧ sp (V.ref a :: vs) H2 Q E
theorem pe_callI {X : Cx} {CX : CXT} {k : Nat} {C g : Addr} {sp : Sp} {E : XK} {fe e : Expr} {es : List Expr} {tf : TE} {t : TA} {pos : Pos} (hf : PE X fe tf) (c : StX.CallO X.K C g) (F : PromOX X CX k g [] sp) (hr : Room k X.A) (hx : Passes CX X E) (ha : PA X (e :: es) t)
    (ht : eval (.Call fe (e :: es) [] pos) X.env = (do callWith pos (← eval fe X.env) [] (backTo pos (starEach (e :: es) X.env)) (backToKw pos (keywordEach [] X.env))) := by rfl)
    (he : starEach (e :: es) X.env = (false, eval e X.env) :: starEach es X.env := by rfl) (hpl : (backTo pos (starEach es X.env)).any (·.1) = false := by rfl) : PE X (.Call fe (e :: es) [] pos) (tCallI C sp E tf t) := by
  refine ⟨fun pins s σ H Q I h => ?_⟩
  refine Call_ (thn (hf.run pins s σ H _ I h) fun u s1 ⟨y, H1, I1, ry, a, ey, q⟩ => ?_) ht
  subst ey
  obtain rfl : u = Value.ref a := ry
  refine StX.callO_with (thn (ha.run pos pins s1 σ H1 _ I1 q) fun us s2 ⟨vs, H2, I2, rv, hi, q2⟩ => ?_) he hpl
  obtain ⟨ox, od, J, hd⟩ := StX.insC_at I2 (.inr hi)
  exact ⟨⟨C, ox, od, J, hd⟩, StX.run_callO c (PromO.raw F) hr hx I2 (.inr hi) rv q2⟩
end Gh
end
section
set_option Elab.async false
set_option linter.all false
set_option maxRecDepth 100000
set_option maxHeartbeats 4000000
namespace Gh
open PySem PySem.Spec PyProof.Rows L2
section
variable {H H' : Hp} {p a l : Addr} {o u : HO}
theorem nw_upd (n : H p = none) : Nw H (upd H p o) p o := ⟨n, same_new n, upd_same⟩
theorem mu_upd : Mu H (upd H p o) p o := ⟨Keep.refl.put, upd_same⟩
theorem same_up (n : L2.Same H H') (h : H a = some u) : H' a = some u := n _ _ h
theorem keep_up (n : Keep H H' p) (e : a ≠ p) (h : H a = some u) : H' a = some u := n _ _ h e
theorem Nw.ne (n : Nw H H' l o) (h : H a = some u) : l ≠ a := fun e => by
  rw [← e, n.no] at h
  cases h
end
section
variable {H H' : Hp} {p c a l : Addr} {o u : HO} {b k : Nat} {xs : List V} {C dx : Addr} {fs : List (Str × V)}
theorem Pen.le (h : Pen H p c b) (q : k ≤ b) : Pen H p c k := by
  obtain ⟨ns, i, z, h1, h2, h3, h4, h5, h6⟩ := h
  exact ⟨ns, i, z, h1, h2, h3, h4, by omega, h6⟩
theorem Pen.nw (n : Nw H H' l o) (h : Pen H p c b) : Pen H' p c b := h.same n.same
theorem Pen.mu (n : Mu H H' l o) (e1 : l ≠ p) (e2 : l ≠ c) (h : Pen H p c b) : Pen H' p c b := by
  obtain ⟨ns, i, z, h1, h2, h3⟩ := h
  exact ⟨ns, i, z, n.up e1.symm h1, n.up e2.symm h2, h3⟩
theorem nw_pen (n : Nw H H' l o) (h : Pen H p c b) : l ≠ p := by
  obtain ⟨ns, i, z, h1, h2, h3⟩ := h
  exact n.ne h1
theorem nw_cell (n : Nw H H' l o) (h : Pen H p c b) : l ≠ c := by
  obtain ⟨ns, i, z, h1, h2, h3⟩ := h
  exact n.ne h2
theorem tup_pen (n : H a = some (.tup xs)) (h : Pen H p c b) : a ≠ p := by
  obtain ⟨ns, i, z, h1, h2, h3⟩ := h
  exact ne_of n h1 (by intro e; cases e)
theorem tup_cell (n : H a = some (.tup xs)) (h : Pen H p c b) : a ≠ c := by
  obtain ⟨ns, i, z, h1, h2, h3⟩ := h
  exact ne_of n h2 (by intro e; cases e)
theorem ins_pen (n : H a = some (.ins C dx fs)) (h : Pen H p c b) : a ≠ p := by
  obtain ⟨ns, i, z, h1, h2, h3⟩ := h
  exact ne_of n h1 (by intro e; cases e)
theorem ins_cell (n : H a = some (.ins C dx fs)) (h : Pen H p c b) : a ≠ c := by
  obtain ⟨ns, i, z, h1, h2, h3⟩ := h
  exact ne_of n h2 (by intro e; cases e)
end
section
variable {H H' : Hp} {a t l : Addr} {o u : HO} {xs ys : List V} {C dx : Addr} {fs : List (Str × V)}
theorem ins_lst (h : H a = some (.ins C dx fs)) (k : H t = some (.lst xs)) : a ≠ t := ne_of h k (by intro e; cases e)
theorem ins_tup (h : H a = some (.ins C dx fs)) (k : H t = some (.tup xs)) : a ≠ t := ne_of h k (by intro e; cases e)
theorem tup_lst (h : H a = some (.tup ys)) (k : H t = some (.lst xs)) : a ≠ t := ne_of h k (by intro e; cases e)
theorem nw_ne (n : Nw H H' l o) (h : H a = some u) : l ≠ a := n.ne h
end
def spDr : Sp := fun vs H Q _ => ∃ (p c : Addr) (b : Nat) (m : Int), vs = [.ref p, .int m] ∧ 0 < m ∧ m.natAbs.log2 < 9000 ∧ Pen H p c (b + 1) ∧
  ∀ (d : Int) (H' : Hp), 0 ≤ d → d < m → Pen H' p c b → Keep H H' p → Q (.int d) H'
def spPn (K : PySem.W.Frag) : Sp := fun vs H Q _ => ∃ (a : Addr) (ns : List Int), vs = [.ref a] ∧ SqL K H a (ns.map V.int) ∧ ns.length ≤ 63 ∧ ∀ (p c : Addr) (H' : Hp), H p = none → Pen H' p c 1000000 → L2.Same H H' → Q (.ref p) H'
section
variable {H : Hp} {E : XK} {Q : VK} {p c l : Addr} {b : Nat} {m : Int} {xs : List V}
theorem log_of (h0 : 0 < m) (h : m < 10 ^ 100) : m.natAbs.log2 < 9000 := by
  have h2 : m.natAbs < 2 ^ 9000 := Nat.lt_of_lt_of_le (show m.natAbs < 10 ^ 100 by omega) (by decide)
  exact (Nat.log2_lt (by omega)).mpr h2
end
@[irreducible] def rLn (K : PySem.W.Frag) : List V → Hp → VK → Prop := fun xs H Q => ∃ x n, xs = [x] ∧ LenV K x H n ∧ Q (.int n) H
@[irreducible] def rListOf (K : PySem.W.Frag) : List V → Hp → VK → Prop := fun xs H Q => ∃ p ys, xs = [.ref p] ∧ (SqL K H p ys ∨ SqT K H p ys) ∧ ∀ l, H l = none → Q (.ref l) (upd H l (.lst ys))
@[irreducible] def rTupOf (K : PySem.W.Frag) : List V → Hp → VK → Prop := fun xs H Q => ∃ p ys, xs = [.ref p] ∧ ((SqL K H p ys ∧ ∀ l, H l = none → Q (.ref l) (upd H l (.tup ys))) ∨ (SqT K H p ys ∧ Q (.ref p) H))
@[irreducible] def rInt : List V → Hp → VK → Prop := rInt1
@[irreducible] def rAbs : List V → Hp → VK → Prop := fun xs H Q => ∃ i, xs = [.int i] ∧ Q (.int (if i < 0 then -i else i)) H
@[irreducible] def rIsN : R2 := fun x y H Q => y = .non ∧ Q (.bl (decide (x = .non))) H
@[irreducible] def rNotN : R2 := fun x y H Q => y = .non ∧ Q (.bl (!decide (x = .non))) H
section
variable {X : Cx} {K : PySem.W.Frag}
theorem cr_len (h : X.K = K) : CallR X (.builtin "len") (rLn K) := by unfold rLn; exact h ▸ call_len
theorem cr_listOf (h : X.K = K) : CallR X (.type "list") (rListOf K) := by unfold rListOf; exact h ▸ call_list_of
theorem cr_int : CallR X (.type "int") rInt := by unfold rInt; exact call_int1
theorem cr_abs : CallR X (.builtin "abs") rAbs := by unfold rAbs; exact call_abs
theorem or_isN : OpR X (compareOp .Is) rIsN := by unfold rIsN; exact op_isN
theorem sl_listK (h : X.K = K) : SlR X (rSlL K) := h ▸ sl_list
theorem op_neDK (h : X.K = K) (hu : X.A.units + 64 < cLine) : OpR X (compareOp .NotEq) (rNeD K) := h ▸ op_neD hu
@[irreducible] def rFld (C : Addr) (f : Str) : V → Hp → VK → Prop := fun x H Q => ∃ a dx fs v, x = .ref a ∧ H a = some (.ins C dx fs) ∧ fs.lookup f = some v ∧ Q v H
theorem pe_f {C : Addr} {e : Expr} {f : Str} {pos : Pos} {ta : TE} (he : PE X e ta) (c : Cls X.K C) (n : NoAttr X.K C f) (hb : attributeBase e f X.env (eval e X.env) = eval e X.env := by rfl) : PE X (.Attribute e f pos) (tUn (rFld C f) ta) := by
  refine ⟨fun pins s σ H Q I h => ?_⟩
  refine attr_of hb (thn (he.run pins s σ H _ I h) fun u s1 ⟨x, H1, I1, rx, q0⟩ => ?_)
  unfold rFld at q0
  obtain ⟨a, dx, fs, v, ex, ea, l, q⟩ := q0
  subst ex
  obtain rfl : u = Value.ref a := rx
  exact getattr_ok I1 ea c n l fun u' s2 I2 ru => ⟨v, H1, I2, ru, q⟩
theorem ps_f {C : Addr} {o value : Expr} {f : Str} {pos pos' : Pos} {ta tv : TE} (ha : PE X o ta) (hv : PE X value tv) (c : Cls X.K C) (n : NoAttr X.K C f) (hs : swapsWith value (some (.Attribute o f pos')) pos.line X.env = pure false := by rfl) : PS X (.Assign [.Attribute o f pos'] value pos) (sF C ta tv f) := by
  refine ⟨fun pins s σ H D I h => ?_⟩
  unfold sF at h
  refine plainObj_wpAny_Assign_Attribute (thn (hv.run pins s σ H _ I h) fun u s1 ⟨y, H1, I1, ry, q⟩ => thn (ha.run pins s1 σ H1 _ I1 q) fun ov s2 ⟨x, H2, I2, rx, a, dx, fs, ex, ea, l, q2⟩ => ?_) hs
  subst ex
  obtain rfl : ov = Value.ref a := rx
  exact setattr_ok I2 ea c n l ry fun s3 I3 => ⟨σ, _, I3, q2⟩
@[irreducible] def rConst (C : Addr) (f : Str) (v : V) : V → Hp → VK → Prop := fun x H Q => ∃ a dx fs, x = .ref a ∧ H a = some (.ins C dx fs) ∧ fs.lookup f = none ∧ Q v H
end
theorem len_ok {n : Nat} (h : n ≤ 100000) : n ≤ sizeLine := Nat.le_trans h (by decide)
@[irreducible] def rPowK (r : Int) : R2 := fun x y H Q => ∃ i j, x = .int i ∧ y = .int j ∧ CPow i j ∧ i ^ j.toNat = r ∧ Q (.int r) H
theorem op_powK {X : Cx} (r : Int) : OpR X (binaryOp .Pow) (rPowK r) := by
  intro pins s σ H x y v u Q I rx ry h
  unfold rPowK at h
  obtain ⟨i, j, h1, h2, h3, h4, q⟩ := h
  exact op_pow pins s σ H x y v u Q I rx ry ⟨i, j, h1, h2, h3, by show Q (.int (i ^ j.toNat)) H; rw [h4]; exact q⟩
section
variable {K : PySem.W.Frag} {H : Hp} {σ : L2.St} {Q : VK} {D : Ends} {i j n : Int} {x y v : V} {ta tb tc te tf : TE} {t u : TS} {c d : TT} {k : Bool} {a l p C dx : Addr} {xs ys : List V} {A B : Prop}
theorem st_seq (h : t { D with nx := u D } σ H) : tSeq t u D σ H := h
theorem st_nx (h : D.nx σ H) : tNext D σ H := h
theorem st_asg {g : TG} (h : te σ H fun x H1 => g x σ H1 D.nx) : tAsg te g D σ H := h
theorem st_name {m : Nat} {Q : L2.St → Hp → Prop} (h : Q (σ.set m (some v)) H) : gName m v σ H Q := h
theorem st_drop (h : te σ H fun _ H1 => D.nx σ H1) : tDrop te D σ H := h
theorem st_ret (h : te σ H D.rt) : tRet te D σ H := h
theorem st_retN (h : D.rt .non H) : tRetN D σ H := h
theorem st_ifS (h : c σ H fun b H1 => if b = true then t D σ H1 else u D σ H1) : tIfS c t u D σ H := h
theorem st_brk (h : D.bk σ H) : tBreak D σ H := h
theorem st_cnt (h : D.ct σ H) : tCont D σ H := h
theorem st_par {m m' : Nat} {t : TA} (h : t σ H fun vs H1 => ∃ v w, vs = [v, w] ∧ D.nx ((σ.set m (some v)).set m' (some w)) H1) : tPar m m' t D σ H := h
theorem st_par2 {P : V → V → Prop} (h : P x y) : ∃ v w, [x, y] = [v, w] ∧ P v w := ⟨x, y, rfl, h⟩
theorem st_aug {m : Nat} {ti : TIp} (e : σ[m]? = some (some x)) (h : te σ H fun y H1 => ti x y H1 fun z H2 => D.nx (σ.set m (some z)) H2) : tAug m te ti D σ H := ⟨x, e, h⟩
theorem st_var {m : Nat} (e : σ[m]? = some (some v)) (h : Q v H) : tVar m σ H Q := ⟨v, e, h⟩
theorem st_c (h : Q v H) : tC v σ H Q := h
theorem st_op {r : R2} (h : ta σ H fun x H1 => tb σ H1 fun y H2 => r x y H2 Q) : tOp r ta tb σ H Q := h
theorem st_un {r : V → Hp → VK → Prop} (h : ta σ H fun x H1 => r x H1 Q) : tUn r ta σ H Q := h
theorem st_rI0 {g : Int → Int → V} (h : Q (g i j) H) : rI0 g (.int i) (.int j) H Q := ⟨i, j, rfl, rfl, h⟩
theorem st_rI {g : Int → Int → V} {R : Int → Int → Prop} (hc : R i j) (h : Q (g i j) H) : rI R g (.int i) (.int j) H Q := ⟨i, j, rfl, rfl, hc, h⟩
theorem st_rU {g : Int → V} (h : Q (g i) H) : rU g (.int i) H Q := ⟨i, rfl, h⟩
theorem st_rAdd (h : Q (.int (i + j)) H) : rAdd (.int i) (.int j) H Q := ⟨i, j, rfl, rfl, h⟩
theorem st_rSub (h : Q (.int (i - j)) H) : rSub (.int i) (.int j) H Q := ⟨i, j, rfl, rfl, h⟩
theorem st_eq (e : scal x y = true) (h : Q (.bl (decide (x = y))) H) : rEq x y H Q := ⟨e, h⟩
theorem st_ne (e : scal x y = true) (h : Q (.bl (!decide (x = y))) H) : rNe x y H Q := ⟨e, h⟩
theorem st_isN (h : Q (.bl (decide (x = .non))) H) : rIsN x .non H Q := by unfold rIsN; exact ⟨rfl, h⟩
theorem st_notN (h : Q (.bl (!decide (x = .non))) H) : rNotN x .non H Q := by unfold rNotN; exact ⟨rfl, h⟩
theorem st_test {Q : Bool → Hp → Prop} (h : te σ H fun x H' => ∃ k, x = .bl k ∧ Q k H') : tTest te σ H Q := h
theorem st_tB {Q : Bool → Hp → Prop} (h : te σ H fun x H' => ∃ k, x = .bl k ∧ Q k H') : tB te σ H Q := h
theorem st_ebl {P : Bool → Prop} (h : P k) : ∃ k', V.bl k = .bl k' ∧ P k' := ⟨k, rfl, h⟩
theorem st_eint {P : Int → Prop} (h : P i) : ∃ k', V.int i = .int k' ∧ P k' := ⟨i, rfl, h⟩
theorem st_and {Q : Bool → Hp → Prop} (h : c σ H fun k H1 => if k = true then d σ H1 Q else Q false H1) : tAnd c d σ H Q := h
theorem st_or {Q : Bool → Hp → Prop} (h : c σ H fun k H1 => if k = true then Q true H1 else d σ H1 Q) : tOr c d σ H Q := h
theorem st_not {Q : Bool → Hp → Prop} (h : c σ H fun k H1 => Q (!k) H1) : tNot c σ H Q := h
theorem st_andV (h : ta σ H fun x H1 => ∃ c, x = .bl c ∧ if c = true then tb σ H1 Q else Q (.bl false) H1) : tAndV ta tb σ H Q := h
theorem st_orV (h : ta σ H fun x H1 => ∃ c, x = .bl c ∧ if c = true then Q (.bl true) H1 else tb σ H1 Q) : tOrV ta tb σ H Q := h
theorem st_notV (h : ta σ H fun x H1 => ∃ c, x = .bl c ∧ Q (.bl (!c)) H1) : tNotV ta σ H Q := h
theorem st_ifE (h : c σ H fun k H1 => if k = true then ta σ H1 Q else tb σ H1 Q) : tIf c ta tb σ H Q := h
theorem st_chain {r r' : R2} (h : ta σ H fun x H1 => tb σ H1 fun y H2 => r x y H2 fun z H3 => ∃ k, z = .bl k ∧ if k = true then tc σ H3 fun w H4 => r' y w H4 Q else Q (.bl false) H3) : tChain r r' ta tb tc σ H Q := h
theorem st_if1 (e : k = true) (h : A) : if k = true then A else B := by rw [if_pos e]; exact h
theorem st_if0 (e : k = false) (h : B) : if k = true then A else B := by rw [e, if_neg (by decide)]; exact h
theorem st_nil {Q : List V → Hp → Prop} (h : Q [] H) : tNil σ H Q := h
theorem st_cons {t : TA} {Q : List V → Hp → Prop} (h : ta σ H fun x H1 => t σ H1 fun xs H2 => Q (x :: xs) H2) : tCons ta t σ H Q := h
theorem st_cl {r : List V → Hp → VK → Prop} {t : TA} (h : t σ H fun vs H1 => r vs H1 Q) : tCl r t σ H Q := h
theorem st_cb {r : List V → Hp → VK → Prop} {t : TA} (h : t σ H fun vs H1 => r vs H1 Q) : tCB r t σ H Q := h
theorem st_mt {m : Str} {r : List V → Hp → VK → Prop} {t : TA} (h : ta σ H fun x H1 => ∃ a dx fs, x = .ref a ∧ H1 a = some (.ins C dx fs) ∧ fs.lookup m = none ∧ t σ H1 fun vs H2 => r (x :: vs) H2 Q) : tMt C m r ta t σ H Q := h
theorem st_emt {m : Str} {fs : List (Str × V)} {P : Prop} (h : H a = some (.ins C dx fs)) (e : fs.lookup m = none) (q : P) : ∃ a' dx fs, V.ref a = .ref a' ∧ H a' = some (.ins C dx fs) ∧ fs.lookup m = none ∧ P := ⟨a, dx, fs, rfl, h, e, q⟩
theorem st_pr {sp : Sp} {dvs : List V} {E : XK} (h : ta σ H fun x H1 => ∃ a dx fs, x = .ref a ∧ H1 a = some (.ins C dx fs) ∧ sp (.ref a :: dvs) H1 Q E) : tPr C sp dvs E ta σ H Q := h
theorem st_epr {fs : List (Str × V)} {sp : Sp} {dvs : List V} {E : XK} (h : H a = some (.ins C dx fs)) (q : rSp sp dvs E [.ref a] H Q) : ∃ a' dx fs, V.ref a = .ref a' ∧ H a' = some (.ins C dx fs) ∧ sp (.ref a' :: dvs) H Q E := ⟨a, dx, fs, rfl, h, q⟩
theorem st_fld {f : Str} {fs : List (Str × V)} (h : H a = some (.ins C dx fs)) (e : fs.lookup f = some v) (q : Q v H) : rFld C f (.ref a) H Q := by unfold rFld; exact ⟨a, dx, fs, v, rfl, h, e, q⟩
theorem st_const {f : Str} {fs : List (Str × V)} (h : H a = some (.ins C dx fs)) (e : fs.lookup f = none) (q : Q v H) : rConst C f v (.ref a) H Q := by unfold rConst; exact ⟨a, dx, fs, rfl, h, e, q⟩
def rSetF (C : Addr) (f : Str) (y x : V) (H : Hp) (P : Hp → Prop) : Prop := ∃ a dx fs, x = .ref a ∧ H a = some (.ins C dx fs) ∧ fs.length < 1000 ∧ P (upd H a (.ins C dx (putF f y fs)))
theorem st_sF {f : Str} (h : te σ H fun y H1 => ta σ H1 fun x H2 => rSetF C f y x H2 fun H3 => D.nx σ H3) : sF C ta te f D σ H := by unfold sF; exact h
theorem st_setF {f : Str} {fs : List (Str × V)} {P : Hp → Prop} (h : H a = some (.ins C dx fs)) (e : fs.length < 1000) (q : ∀ H', Mu H H' a (.ins C dx (putF f y fs)) → P H') : rSetF C f y (.ref a) H P := ⟨a, dx, fs, rfl, h, e, q _ mu_upd⟩
theorem st_powK {r : Int} (h1 : CPow i j) (h2 : i ^ j.toNat = r) (q : Q (.int r) H) : rPowK r (.int i) (.int j) H Q := by unfold rPowK; exact ⟨i, j, rfl, rfl, h1, h2, q⟩
def rNewL (xs : List V) (H : Hp) (Q : VK) : Prop := xs.length ≤ sizeLine ∧ ∀ p, H p = none → Q (.ref p) (upd H p (.lst xs))
def rNewT (xs : List V) (H : Hp) (Q : VK) : Prop := xs.length ≤ sizeLine ∧ ∀ p, H p = none → Q (.ref p) (upd H p (.tup xs))
theorem st_lst {t : TA} (h : t σ H fun xs H1 => rNewL xs H1 Q) : tLst t σ H Q := h
theorem st_tup {t : TA} (h : t σ H fun xs H1 => rNewT xs H1 Q) : tTup t σ H Q := h
theorem st_newL (e : xs.length ≤ sizeLine) (h : ∀ p H', Nw H H' p (.lst xs) → Q (.ref p) H') : rNewL xs H Q := ⟨e, fun p np => h p _ (nw_upd np)⟩
theorem st_newT (e : xs.length ≤ sizeLine) (h : ∀ p H', Nw H H' p (.tup xs) → Q (.ref p) H') : rNewT xs H Q := ⟨e, fun p np => h p _ (nw_upd np)⟩
theorem new_of {o : HO} (h : ∀ p H', Nw H H' p o → Q (.ref p) H') : ∀ p, H p = none → Q (.ref p) (upd H p o) := fun p np => h p _ (nw_upd np)
theorem st_ixL (h : H p = some (.lst xs)) (e : atI xs i = some v) (q : Q v H) : rIxL K (.ref p) (.int i) H Q := ⟨p, xs, i, v, rfl, rfl, SqL.of h, e, q⟩
theorem st_ixLs (h : SqL K H p xs) (e : atI xs i = some v) (q : Q v H) : rIxL K (.ref p) (.int i) H Q := ⟨p, xs, i, v, rfl, rfl, h, e, q⟩
theorem st_ixT (h : H p = some (.tup xs)) (e : atI xs i = some v) (q : Q v H) : rIxT K (.ref p) (.int i) H Q := ⟨p, xs, i, v, rfl, rfl, SqT.of h, e, q⟩
theorem st_ixTs (h : SqT K H p xs) (e : atI xs i = some v) (q : Q v H) : rIxT K (.ref p) (.int i) H Q := ⟨p, xs, i, v, rfl, rfl, h, e, q⟩
theorem st_lenL (h : H p = some (.lst xs)) (q : Q (.int xs.length) H) : rLn K [.ref p] H Q := by unfold rLn; exact ⟨_, _, rfl, .inl ⟨xs, SqL.of h, rfl⟩, q⟩
theorem st_lenT (h : H p = some (.tup xs)) (q : Q (.int xs.length) H) : rLn K [.ref p] H Q := by unfold rLn; exact ⟨_, _, rfl, .inr ⟨xs, SqT.of h, rfl⟩, q⟩
theorem st_lenS {z : Str} (e : z.length ≤ sizeLine) (q : Q (.int z.length) H) : rLn K [.str z] H Q := by unfold rLn; exact ⟨_, _, rfl, ⟨e, rfl⟩, q⟩
theorem st_listL (h : H p = some (.lst xs)) (q : ∀ l H', Nw H H' l (.lst xs) → Q (.ref l) H') : rListOf K [.ref p] H Q := by unfold rListOf; exact ⟨p, xs, rfl, .inl (SqL.of h), new_of q⟩
theorem st_listT (h : H p = some (.tup xs)) (q : ∀ l H', Nw H H' l (.lst xs) → Q (.ref l) H') : rListOf K [.ref p] H Q := by unfold rListOf; exact ⟨p, xs, rfl, .inr (SqT.of h), new_of q⟩
theorem st_tupL (h : H p = some (.lst xs)) (q : ∀ l H', Nw H H' l (.tup xs) → Q (.ref l) H') : rTupOf K [.ref p] H Q := by unfold rTupOf; exact ⟨p, xs, rfl, .inl ⟨SqL.of h, new_of q⟩⟩
theorem st_tupT (h : H p = some (.tup xs)) (q : Q (.ref p) H) : rTupOf K [.ref p] H Q := by unfold rTupOf; exact ⟨p, xs, rfl, .inr ⟨SqT.of h, q⟩⟩
theorem st_int (q : Q (.int i) H) : rInt [.int i] H Q := by unfold rInt; exact .inl ⟨i, rfl, q⟩
theorem st_intB (q : Q (.int (if k = true then 1 else 0)) H) : rInt [.bl k] H Q := by unfold rInt; exact .inr ⟨k, rfl, q⟩
theorem st_abs (q : Q (.int (if i < 0 then -i else i)) H) : rAbs [.int i] H Q := by unfold rAbs; exact ⟨i, rfl, q⟩
theorem st_sl {r : V → Option Int → Option Int → Hp → VK → Prop} {tl th : TO} (h : te σ H fun x H1 => tl σ H1 fun l H2 => th σ H2 fun u H3 => r x l u H3 Q) : tSl r te tl th σ H Q := h
theorem st_part {Q : Option Int → Hp → Prop} (h : te σ H fun x H1 => ∃ i, x = .int i ∧ Q (some i) H1) : tPart te σ H Q := h
theorem st_nopart {Q : Option Int → Hp → Prop} (h : Q none H) : tNoPart σ H Q := h
theorem st_slL {lo hi : Option Int} (h : H p = some (.lst xs)) (q : ∀ l H', Nw H H' l (.lst (cutV xs lo hi)) → Q (.ref l) H') : rSlL K (.ref p) lo hi H Q := ⟨p, xs, rfl, SqL.of h, new_of q⟩
theorem st_slLs {lo hi : Option Int} (h : SqL K H p xs) (q : ∀ l H', Nw H H' l (.lst (cutV xs lo hi)) → Q (.ref l) H') : rSlL K (.ref p) lo hi H Q := ⟨p, xs, rfl, h, new_of q⟩
theorem st_cat (h : H l = some (.lst xs)) (h' : H p = some (.lst ys)) (e : xs.length + ys.length ≤ sizeLine) (q : ∀ a H', Nw H H' a (.lst (xs ++ ys)) → Q (.ref a) H') : rCat (.ref l) (.ref p) H Q := ⟨l, p, xs, ys, rfl, rfl, h, h', e, new_of q⟩
theorem st_bm {T : String} {r : V → List V → Hp → VK → Prop} {t : TA} (h : te σ H fun x H1 => tyV K T x H1 ∧ t σ H1 fun xs H2 => r x xs H2 Q) : tBM K T r te t σ H Q := h
theorem st_bm0 {T : String} {r : V → List V → Hp → VK → Prop} (h : te σ H fun x H1 => tyV K T x H1 ∧ r x [] H1 Q) : tBM0 K T r te σ H Q := h
theorem st_tyL {P : Prop} (h : H p = some (.lst xs)) (q : P) : tyV K "list" (.ref p) H ∧ P := ⟨.inl ⟨rfl, xs, SqL.of h⟩, q⟩
theorem st_tyS {z : Str} {P : Prop} (q : P) : tyV K "str" (.str z) H ∧ P := ⟨rfl, q⟩
theorem st_gsub {to ti : TE} {ts : TSet} {Q : L2.St → Hp → Prop} (h : to σ H fun o H1 => ti σ H1 fun i H2 => ts o i v H2 fun H3 => Q σ H3) : gSub to ti ts v σ H Q := h
theorem st_setL {m : Nat} {Q : Hp → Prop} (h : H p = some (.lst xs)) (e : ixN xs.length i = some m) (q : ∀ H', Mu H H' p (.lst (xs.set m v)) → Q H') : rSetL (.ref p) (.int i) v H Q := ⟨p, xs, i, m, rfl, rfl, h, e, q _ mu_upd⟩
theorem st_neD {d e : PyData} (h1 : Dp K H x d) (h2 : Dp K H y e) (h3 : SeqAt.shaped d = true) (h4 : SeqAt.shaped e = true) (q : Q (.bl (!PyData.eqv d e)) H) : rNeD K x y H Q := ⟨d, e, h1, h2, h3, h4, q⟩
theorem st_gtup {m : Nat} {g : TGs} {Q : L2.St → Hp → Prop} (h : H a = some (.tup xs)) (e : xs.length = m) (q : g xs σ H Q) : gTup K m g (.ref a) σ H Q := ⟨a, xs, rfl, SqT.of h, e, q⟩
theorem st_gcons {g : TG} {gs : TGs} {Q : L2.St → Hp → Prop} (h : g v σ H fun σ' H' => gs xs σ' H' Q) : gCons g gs (v :: xs) σ H Q := ⟨v, xs, rfl, h⟩
theorem st_gnil {Q : L2.St → Hp → Prop} (h : Q σ H) : gNil [] σ H Q := ⟨rfl, h⟩
theorem st_list {R : It → Hp → Prop} (h : te σ H fun x H1 => ∃ a, x = .ref a ∧ (∃ xs, SqL K H1 a xs) ∧ R (Itl K a) H1) : iList K te σ H R := h
theorem st_elist {P : Addr → Prop} (h : H a = some (.lst xs)) (q : P a) : ∃ a', V.ref a = .ref a' ∧ (∃ xs, SqL K H a' xs) ∧ P a' := ⟨a, rfl, ⟨xs, SqL.of h⟩, q⟩
theorem st_itup {R : It → Hp → Prop} (h : te σ H fun x H1 => ∃ a, x = .ref a ∧ (∃ xs, SqT K H1 a xs) ∧ R (Itt K a) H1) : iTup K te σ H R := h
theorem st_eitup {P : Addr → Prop} (h : H a = some (.tup xs)) (q : P a) : ∃ a', V.ref a = .ref a' ∧ (∃ xs, SqT K H a' xs) ∧ P a' := ⟨a, rfl, ⟨xs, SqT.of h⟩, q⟩
end
end Gh
end
section
set_option Elab.async false
set_option linter.all false
set_option maxRecDepth 100000
set_option maxHeartbeats 4000000
namespace Gh
open PySem PySem.Spec PyProof.Rows L2
section
variable {X : Cx} {a b c d : Expr} {ta tb tc td : TE} {pos : Pos}
def tChain3 (r r' r2 : R2) (ta tb tc td : TE) : TE := fun σ H Q => ta σ H fun x H1 => tb σ H1 fun y H2 => r x y H2 fun z H3 => ∃ k, z = .bl k ∧
  (if k = true then tc σ H3 fun w H4 => r' y w H4 fun z' H5 => ∃ k', z' = .bl k' ∧ (if k' = true then td σ H5 fun v H6 => r2 w v H6 Q else Q (.bl false) H5) else Q (.bl false) H3)
theorem st_chain3 {σ : L2.St} {H : Hp} {Q : VK} {r r' r2 : R2} (h : ta σ H fun x H1 => tb σ H1 fun y H2 => r x y H2 fun z H3 => ∃ k, z = .bl k ∧
  (if k = true then tc σ H3 fun w H4 => r' y w H4 fun z' H5 => ∃ k', z' = .bl k' ∧ (if k' = true then td σ H5 fun v H6 => r2 w v H6 Q else Q (.bl false) H5) else Q (.bl false) H3)) : tChain3 r r' r2 ta tb tc td σ H Q := h
def gSl (to tl th : TE) : TG := fun v σ H Q => to σ H fun x H1 => tl σ H1 fun lo H2 => th σ H2 fun hi H3 => ∃ (l m : Addr) (i j : Int) (xs ys : List V), x = .ref l ∧ v = .ref m ∧ lo = .int i ∧ hi = .int j ∧ H3 l = some (.lst xs) ∧ H3 m = some (.lst ys) ∧ l ≠ m ∧ 0 ≤ i ∧ i ≤ j ∧ j ≤ xs.length ∧ xs.length + ys.length ≤ sizeLine ∧
  Q σ (upd H3 l (.lst (xs.take i.toNat ++ ys ++ xs.drop j.toNat)))
def rSlS (v x lo hi : V) (H : Hp) (P : Hp → Prop) : Prop := ∃ (l m : Addr) (i j : Int) (xs ys : List V), x = .ref l ∧ v = .ref m ∧ lo = .int i ∧ hi = .int j ∧ H l = some (.lst xs) ∧ H m = some (.lst ys) ∧ l ≠ m ∧ 0 ≤ i ∧ i ≤ j ∧ j ≤ xs.length ∧ xs.length + ys.length ≤ sizeLine ∧ P (upd H l (.lst (xs.take i.toNat ++ ys ++ xs.drop j.toNat)))
theorem st_gsl {σ : L2.St} {H : Hp} {v : V} {Q : L2.St → Hp → Prop} {to tl th : TE} (h : to σ H fun x H1 => tl σ H1 fun lo H2 => th σ H2 fun hi H3 => rSlS v x lo hi H3 fun H4 => Q σ H4) : gSl to tl th v σ H Q := h
end
def picks {α : Type} (l : List (Nat ⊕ Nat)) (its ws : List α) : List α := l.filterMap fun z => match z with
  | .inl i => ws[i]?
  | .inr j => its[j]?
theorem Vals.getO {zs : List V} {ws : List Value} (r : Vals zs ws) (i : Nat) : (zs[i]? = none ∧ ws[i]? = none) ∨ ∃ x v, zs[i]? = some x ∧ ws[i]? = some v ∧ RelV x v := by
  induction r generalizing i with
  | nil => exact .inl ⟨rfl, rfl⟩
  | cons h t ih =>
    cases i with
    | zero => exact .inr ⟨_, _, rfl, rfl, h⟩
    | succ i => exact ih i
theorem picks_rel (l : List (Nat ⊕ Nat)) {ds zs : List V} {its ws : List Value} (r1 : Vals ds its) (r2 : Vals zs ws) : Vals (picks l ds zs) (picks l its ws) := by
  induction l with
  | nil => exact .nil
  | cons z r ih =>
    unfold picks at ih ⊢
    rw [List.filterMap_cons, List.filterMap_cons]
    cases z with
    | inl i =>
      rcases Vals.getO r2 i with ⟨e1, e2⟩ | ⟨x, v, e1, e2, rv⟩
      · simp only [e1, e2]
        exact ih
      · simp only [e1, e2]
        exact .cons rv ih
    | inr j =>
      rcases Vals.getO r1 j with ⟨e1, e2⟩ | ⟨x, v, e1, e2, rv⟩
      · simp only [e1, e2]
        exact ih
      · simp only [e1, e2]
        exact .cons rv ih
section
variable {K : PySem.W.Frag} {x qual : Str} {params : Arguments} {body : List Stmt} {scope : Scope} {dvs : List V} {kws : List (Str × V)} {f : Addr} {fd : FuncData} {ps : List Str}
theorem FunD.kbN (F : FunD K x qual params body scope [] kws f fd) (n : Nat) (ks : List Str) (l : List (Nat ⊕ Nat))
    (h : ∀ (kV doc pm : Value) (an : Option Addr) (cdv ct : Value) (us ws : List Value), us.length = n → ws.length = ks.length → bindArgs (PySem.W.fnOf x qual params body scope .none kV doc pm an cdv ct) ⟨us, ks.zip ws⟩ = pure (ps.zip (us ++ picks l [] ws))) :
    KBn K fd ps n ks (fun us ws => us ++ picks l [] ws) (fun vs zs => vs ++ picks l [] zs) := by
  obtain ⟨oc, od, dV, kV, doc, pm, an, cdv, ct, osl, rfl, lk, hcd, hD, hK⟩ := F.ex
  rcases hD with ⟨_, rfl⟩ | ⟨e, _⟩
  · exact ⟨fun s us ws X l1 l2 => .of_eq (h kV doc pm an cdv ct us ws l1 l2), fun r1 r2 => r1.append (picks_rel l .nil r2)⟩
  · exact absurd rfl e
end
section
variable {X : Cx} {CX : CXT} {k n : Nat} {f C : Addr} {ks : List Str} {sp : Sp} {E : XK} {x m : Str} {p pos apos : Pos} {e o : Expr} {es : List Expr} {kws : List Keyword} {t tk : TA} {ta : TE} {gV : List V → List V → List V} {r : List V → List V → Hp → VK → Prop}
def rMkK (C : Addr) (n m : Nat) (gV : List V → List V → List V) (sp : Sp) (E : XK) : List V → List V → Hp → VK → Prop := fun vs zs H Q => vs.length = n ∧ zs.length = m ∧ rMk C (fun us H Q E => sp us H Q E) [] E (gV vs zs) H Q
theorem PromK.make (M : Mk X.K C f) (F : PromK X.prog X.w X.K X.mg X.base CX k f (n + 1) ks (fun vs zs => vs ++ gV [] zs) sp) (hr : Room (k + 1) X.A) (hx : Passes CX X E) : CallK X (.ref C) ks (rMkK C n ks.length (fun vs zs => vs ++ gV [] zs) sp E) := by
  intro pins s σ H vs zs us ws Q I rv rz ⟨l1, l2, h⟩
  obtain ⟨fd, ps, g, G, b⟩ := F
  refine run_makeN M G hr b hx I rv rz l1 l2 fun x dx nx ndx ne => ?_
  unfold rMk at h
  have z := h x dx nx ndx ne
  rw [List.append_nil] at z
  exact z
def tClK (r : List V → List V → Hp → VK → Prop) (t tk : TA) : TE := fun σ H Q => t σ H fun vs H1 => tk σ H1 fun zs H2 => r vs zs H2 Q
def tMtK (C : Addr) (m : Str) (r : List V → List V → Hp → VK → Prop) (ta : TE) (t tk : TA) : TE := fun σ H Q => ta σ H fun x H1 => ∃ a dx fs, x = .ref a ∧ H1 a = some (.ins C dx fs) ∧ fs.lookup m = none ∧ t σ H1 fun vs H2 => tk σ H2 fun zs H3 => r (x :: vs) zs H3 Q
theorem pe_mk0 {pl : Sem Bool} (he : PE X o ta) (c : Cls X.K C) (hm : Meth X.K C m f) (R : CallK X (.ref f) ks r) (hkw : PK X kws tk) (hall : (backToKw pos (keywordEach kws X.env)).all (·.1.isSome) = true := by rfl) (hks : (backToKw pos (keywordEach kws X.env)).filterMap (·.1) = ks := by rfl)
    (hpl : ((backTo pos (starEach [] X.env)).any (·.1) || (backToKw pos (keywordEach kws X.env)).any (·.1.isNone)) = false := by rfl)
    (ht : eval (.Call (.Attribute o m apos) [] kws pos) X.env = (do
      let ov ← eval o X.env
      standAt apos.atName
      let (f, first) ← holding [ov] (getMethod ov m pl)
      callWith pos f first (backTo pos (starEach [] X.env)) (backToKw pos (keywordEach kws X.env))) := by rfl) :
    PE X (.Call (.Attribute o m apos) [] kws pos) (tMtK C m r ta tNil tk) := by
  refine ⟨fun pins s σ H Q I h => ?_⟩
  refine PySem.W.methodCall_KW (pl := pl) (thn (he.run pins s σ H _ I h) fun u s1 ⟨x, H1, I1, rx, a, dx, fs, ex, ea, l, q⟩ => ?_) ht
  subst ex
  obtain rfl : u = Value.ref a := rx
  refine getmeth_ok I1 ea c hm l ?_
  refine PySem.W.callWith_KW0 (first := [.ref a]) (h₀ := X.base) I.ok.mod.kin hm.kp hall (thn (hkw.run pos pins s1 σ H1 _ I1 q) fun ws s3 ⟨zs, H3, I3, rz, q3⟩ => ⟨I3.kIn, ?_⟩) hpl
  rw [hks]
  exact R pins s3 σ H3 [.ref a] zs [.ref a] ws Q I3 (.cons rfl .nil) rz q3
end
section
variable {H : Hp} {σ : L2.St} {Q : VK} {ta : TE} {t tk : TA} {r : List V → List V → Hp → VK → Prop} {C : Addr} {m : Str} {n k : Nat} {gV : List V → List V → List V} {sp : Sp} {E : XK} {vs zs : List V}
theorem st_clK (h : t σ H fun vs H1 => tk σ H1 fun zs H2 => r vs zs H2 Q) : tClK r t tk σ H Q := h
theorem st_mtK (h : ta σ H fun x H1 => ∃ a dx fs, x = .ref a ∧ H1 a = some (.ins C dx fs) ∧ fs.lookup m = none ∧ t σ H1 fun vs H2 => tk σ H2 fun zs H3 => r (x :: vs) zs H3 Q) : tMtK C m r ta t tk σ H Q := h
theorem st_spK (h1 : vs.length = n) (h2 : zs.length = k) (h : rSp sp [] E (gV vs zs) H Q) : rSpK n k gV sp E vs zs H Q := ⟨h1, h2, by
  unfold rSp at h
  rw [List.append_nil] at h
  exact h⟩
end
end Gh
end
section
set_option Elab.async false
set_option linter.all false
set_option maxRecDepth 100000
set_option maxHeartbeats 4000000
namespace Gh
open PySem PySem.Spec PyProof.Rows L2
theorem Fn.le {d : PyData} {n b n' b' : Nat} (h : Fn d n b) (h1 : n ≤ n') (h2 : b ≤ b') : Fn d n' b' := ⟨h.cl, h.sh, h.nd, h.ls, Nat.le_trans h.dp h1, Nat.le_trans h.bk h2⟩
theorem FnAll.each {n b : Nat} : ∀ {ds : List PyData}, (∀ d ∈ ds, Fn d n b) → FnAll ds n ((b + 1) * ds.length)
  | [], _ => FnAll.nil
  | d :: r, h => by
    have z := FnAll.cons (h d List.mem_cons_self) (FnAll.each fun e he => h e (List.mem_cons_of_mem _ he))
    have e : b + 1 + (b + 1) * r.length = (b + 1) * (d :: r).length := by
      rw [List.length_cons, Nat.mul_add, Nat.mul_one, Nat.add_comm]
    rw [e] at z
    exact z
theorem FnAll.ints {ns : List Int} (h : ∀ n ∈ ns, -(10 ^ 100) < n ∧ n < 10 ^ 100) : FnAll (ns.map PyData.int) 0 ns.length := by
  have z := FnAll.each (n := 0) (b := 0) (ds := ns.map PyData.int) fun d hd => by
    obtain ⟨n, hn, rfl⟩ := List.mem_map.mp hd
    exact Fn.int (h n hn).1 (h n hn).2
  rw [List.length_map, Nat.zero_add, Nat.one_mul] at z
  exact z
theorem Fn.shaped {d : PyData} {n b : Nat} (h : Fn d n b) (hn : n ≤ 64) : SeqAt.shaped d = true := by
  unfold SeqAt.shaped
  rw [h.cl, decide_eq_true (Nat.le_trans h.dp hn)] <;> rfl
theorem Fn.eqv {d : PyData} {n b : Nat} (h : Fn d n b) : PyData.eqv d d = true := SeqAt.eqv_refl d h.cl
section
variable {K : PySem.W.Frag} {H : Hp} {a : Addr} {ns : List Int}
end
section
variable {H H' : Hp} {a l p c : Addr} {u : HO} {b : Nat}
theorem none_ne (n : H l = none) (h : H a = some u) : l ≠ a := fun e => by
  rw [← e, n] at h
  cases h
theorem none_pen (n : H l = none) (h : Pen H p c b) : l ≠ p := by
  obtain ⟨ns, i, z, h1, h2, h3⟩ := h
  exact none_ne n h1
theorem none_cell (n : H l = none) (h : Pen H p c b) : l ≠ c := by
  obtain ⟨ns, i, z, h1, h2, h3⟩ := h
  exact none_ne n h2
def Keep2 (H H' : Hp) (p t : Addr) : Prop := ∀ a o, H a = some o → a ≠ p → a ≠ t → H' a = some o
theorem keep2_up {t : Addr} (n : Keep2 H H' p t) (e : a ≠ p) (e' : a ≠ t) (h : H a = some u) : H' a = some u := n _ _ h e e'
theorem st_setO {C dx : Addr} {fs : List (Str × V)} {r : List V → Hp → VK → Prop} {i v : V} {Q : Hp → Prop} (h : H a = some (.ins C dx fs)) (q : r [.ref a, i, v] H fun _ H' => Q H') : rSetO C r (.ref a) i v H Q := by
  unfold rSetO
  exact ⟨a, dx, fs, rfl, h, q⟩
theorem st_ixO {C dx : Addr} {fs : List (Str × V)} {sp : Sp} {E : XK} {y : V} {Q : VK} (h : H a = some (.ins C dx fs)) (q : rSp sp [] E [.ref a, y] H Q) : rIxO C sp E (.ref a) y H Q := by
  unfold rIxO
  exact ⟨a, dx, fs, rfl, h, q⟩
end
section
variable {K : PySem.W.Frag} {H : Hp} {σ : L2.St} {Q : VK} {m : Nat} {tt : TT} {te tl : TE} {vs : List Nat} {t : TA} {a : Addr} {xs : List V}
def rLc (J : It) (m : Nat) (tt : TT) (te : TE) (vs : List Nat) (σ : L2.St) (H : Hp) (Q : VK) : Prop := ∀ D, H D = none → ∃ W : Nat → Nat → Hp → Prop, (∃ k, W 0 k (upd H D (.lst []))) ∧ ∀ i k H, W i k H →
  (J.stop i H ∧ Q (.ref D) H) ∨ (J.go i H ∧ ∃ Nx : Hp → Prop, (∀ H', Nx H' → ∃ k', k' < k ∧ W (i + 1) k' H') ∧ ∀ x H', J.yld i H x H' → gName m x (wipe σ vs) H' fun σ2 H2 => wipe σ2 vs = wipe σ vs ∧ tt σ2 H2 fun b H3 =>
    if b = true then te σ2 H3 fun y H4 => ∃ acc, H4 D = some (.lst acc) ∧ acc.length < sizeLine ∧ Nx (upd H4 D (.lst (acc ++ [y]))) else Nx H3)
theorem st_lcR1 (h : t σ H fun us H1 => ∃ j : Int, us = [.int j] ∧ -(2 ^ 62) ≤ j ∧ j < 2 ^ 62 ∧ rLc (Itr 0 j.toNat) m tt te vs σ H1 Q) : tLc (iRng1 t) (gName m) tt te vs σ H Q := h
theorem st_lcR2 (h : t σ H fun us H1 => ∃ i j : Int, us = [.int i, .int j] ∧ (-(2 ^ 62) ≤ i ∧ i < 2 ^ 62 ∧ -(2 ^ 62) ≤ j ∧ j < 2 ^ 62) ∧ rLc (Itr i (j - i).toNat) m tt te vs σ H1 Q) : tLc (iRng2 t) (gName m) tt te vs σ H Q := h
theorem st_lcL (h : tl σ H fun x H1 => ∃ a, x = .ref a ∧ (∃ xs, SqL K H1 a xs) ∧ rLc (Itl K a) m tt te vs σ H1 Q) : tLc (iList K tl) (gName m) tt te vs σ H Q := h
theorem st_lcT (h : tl σ H fun x H1 => ∃ a, x = .ref a ∧ (∃ xs, SqT K H1 a xs) ∧ rLc (Itt K a) m tt te vs σ H1 Q) : tLc (iTup K tl) (gName m) tt te vs σ H Q := h
theorem st_eR1 {j : Int} {P : Int → Prop} (h0 : -(2 ^ 62) ≤ j) (h1 : j < 2 ^ 62) (h : P j) : ∃ j', [V.int j] = [.int j'] ∧ -(2 ^ 62) ≤ j' ∧ j' < 2 ^ 62 ∧ P j' := ⟨j, rfl, h0, h1, h⟩
theorem st_eR2 {i j : Int} {P : Int → Int → Prop} (h0 : -(2 ^ 62) ≤ i ∧ i < 2 ^ 62 ∧ -(2 ^ 62) ≤ j ∧ j < 2 ^ 62) (h : P i j) : ∃ i' j', [V.int i, V.int j] = [.int i', .int j'] ∧ (-(2 ^ 62) ≤ i' ∧ i' < 2 ^ 62 ∧ -(2 ^ 62) ≤ j' ∧ j' < 2 ^ 62) ∧ P i' j' := ⟨i, j, rfl, h0, h⟩
theorem st_yes {Q : Bool → Hp → Prop} (h : Q true H) : tYes σ H Q := h
end
section
variable {H H' : Hp} {a l p c : Addr} {u : HO} {b : Nat}
theorem nw_pen' {H0 : Hp} {b0 : Nat} {o : HO} (_ : Pen H0 p c b0) (n : Nw H H' l o) (h : Pen H p c b) : l ≠ p := nw_pen n h
theorem nw_cell' {H0 : Hp} {b0 : Nat} {o : HO} (_ : Pen H0 p c b0) (n : Nw H H' l o) (h : Pen H p c b) : l ≠ c := nw_cell n h
theorem none_pen' {H0 : Hp} {b0 : Nat} (_ : Pen H0 p c b0) (n : H l = none) (h : Pen H p c b) : l ≠ p := none_pen n h
theorem none_cell' {H0 : Hp} {b0 : Nat} (_ : Pen H0 p c b0) (n : H l = none) (h : Pen H p c b) : l ≠ c := none_cell n h
theorem tup_pen' {H0 : Hp} {b0 : Nat} {xs : List V} (_ : Pen H0 p c b0) (n : H l = some (.tup xs)) (h : Pen H p c b) : l ≠ p := tup_pen n h
theorem tup_cell' {H0 : Hp} {b0 : Nat} {xs : List V} (_ : Pen H0 p c b0) (n : H l = some (.tup xs)) (h : Pen H p c b) : l ≠ c := tup_cell n h
theorem ins_pen' {H0 : Hp} {b0 : Nat} {C dx : Addr} {fs : List (Str × V)} (_ : Pen H0 p c b0) (n : H l = some (.ins C dx fs)) (h : Pen H p c b) : l ≠ p := ins_pen n h
theorem ins_cell' {H0 : Hp} {b0 : Nat} {C dx : Addr} {fs : List (Str × V)} (_ : Pen H0 p c b0) (n : H l = some (.ins C dx fs)) (h : Pen H p c b) : l ≠ c := ins_cell n h
end
section
variable {K : PySem.W.Frag} {H : Hp} {σ : L2.St} {D : Ends} {m : Nat} {g : TG} {tb : TS} {tl : TE} {t : TA} {a : Addr} {xs : List V}
def rFor (J : It) (g : TG) (tb : TS) (D : Ends) (σ : L2.St) (H : Hp) : Prop := ∃ W : Nat → Nat → L2.St → Hp → Prop, (∃ m, W 0 m σ H) ∧ ∀ i m σ H, W i m σ H →
  (J.stop i H ∧ D.nx σ H) ∨ (J.go i H ∧ ∃ N : L2.St → Hp → Prop, (∀ σ' H', N σ' H' → ∃ m', m' < m ∧ W (i + 1) m' σ' H') ∧ ∀ x H', J.yld i H x H' → g x σ H' fun σ2 H2 => tb { D with nx := N, ct := N, bk := D.nx } σ2 H2)
theorem st_forR1 (h : t σ H fun us H1 => ∃ j : Int, us = [.int j] ∧ -(2 ^ 62) ≤ j ∧ j < 2 ^ 62 ∧ rFor (Itr 0 j.toNat) g tb D σ H1) : tFor (iRng1 t) g tb D σ H := h
theorem st_forR2 (h : t σ H fun us H1 => ∃ i j : Int, us = [.int i, .int j] ∧ (-(2 ^ 62) ≤ i ∧ i < 2 ^ 62 ∧ -(2 ^ 62) ≤ j ∧ j < 2 ^ 62) ∧ rFor (Itr i (j - i).toNat) g tb D σ H1) : tFor (iRng2 t) g tb D σ H := h
theorem st_forL (h : tl σ H fun x H1 => ∃ a, x = .ref a ∧ (∃ xs, SqL K H1 a xs) ∧ rFor (Itl K a) g tb D σ H1) : tFor (iList K tl) g tb D σ H := h
theorem st_forT (h : tl σ H fun x H1 => ∃ a, x = .ref a ∧ (∃ xs, SqT K H1 a xs) ∧ rFor (Itt K a) g tb D σ H1) : tFor (iTup K tl) g tb D σ H := h
theorem st_forE (h : t σ H fun us H1 => ∃ a xs, us = [.ref a] ∧ SqL K H1 a xs ∧ rFor (Ite K a) g tb D σ H1) : tFor (iEnum K t) g tb D σ H := h
theorem st_eE {P : Addr → Prop} (h : H a = some (.lst xs)) (q : P a) : ∃ a' xs, [V.ref a] = [.ref a'] ∧ SqL K H a' xs ∧ P a' := ⟨a, xs, rfl, SqL.of h, q⟩
end
section
end
end Gh
end
section
set_option Elab.async false
set_option linter.all false
set_option maxRecDepth 100000
set_option maxHeartbeats 4000000
namespace Gh
open PySem PySem.Spec PyProof.Rows L2
section
variable {H H' : Hp} {a l p c t : Addr} {o u : HO} {b : Nat} {xs : List V} {T : List (Addr × Str)} {C dx : Addr} {fs : List (Str × V)}
theorem Pen.extN (n : LamX.ExtN H H') (h : Pen H p c b) : Pen H' p c b := by
  obtain ⟨ns, i, z, h1, h2, h3⟩ := h
  exact ⟨ns, i, z, n _ _ h1 (fun _ z => by cases z), n _ _ h2 (fun _ z => by cases z), h3⟩
theorem tabs_of (h : LamX.Tabs T H) (k1 : ∀ a ps, H a = some (.tbl ps) → H' a = some (.tbl ps)) (k2 : ∀ a c q, H a = some (LamX.CodeO c q) → H' a = some (LamX.CodeO c q)) : LamX.Tabs T H' := fun q hq => by
  obtain ⟨ps, h1, h2, h3⟩ := h q hq
  refine ⟨ps, k1 _ _ h1, h2, fun pos cv hc => ?_⟩
  obtain ⟨c', e1, e2⟩ := h3 pos cv hc
  exact ⟨c', e1, k2 _ _ _ e2⟩
theorem tabs_keepL (n : Keep H H' l) (e : H l = some (.lst xs)) (h : LamX.Tabs T H) : LamX.Tabs T H' :=
  tabs_of h (fun a ps q => n _ _ q (ne_of q e (by intro z; cases z))) (fun a c q z => n _ _ z (ne_of z e (by intro y; unfold LamX.CodeO at y; cases y)))
theorem tabs_keepP (n : Keep H H' p) (pn : Pen H p c b) (h : LamX.Tabs T H) : LamX.Tabs T H' := by
  obtain ⟨ns, i, z, h1, h2, h3⟩ := pn
  exact tabs_keepL n h1 h
theorem tabs_muI (n : Mu H H' l o) (e : H l = some (.ins C dx fs)) (h : LamX.Tabs T H) : LamX.Tabs T H' :=
  tabs_of h (fun a ps q => n.up (ne_of q e (by intro z; cases z)) q) (fun a c q z => n.up (ne_of z e (by intro y; unfold LamX.CodeO at y; cases y)) z)
theorem keep_fr (n : Keep H H' p) : Fr H H' p := fun a o h e _ => n a o h e
theorem ext_fr (n : LamX.ExtN H H') : Fr H H' p := fun a o h _ z => n a o h z
end
section
variable {X : Cx} {H : Hp} {σ : L2.St} {Q : VK} {T : List (Addr × Str)} {TT : (XK → Hp → VK → Prop) → Hp → VK → Prop} {t : XK → TE}
def tAct (f c' : Addr) (q : Str) (tl : Hp → VK → Prop) : TE := fun σ H Q => σ[0]? = some (some (.ref f)) ∧ H c' = some (LamX.CodeO c' q) ∧ tl H Q
theorem takes_len {W : WX} (t : Takes X W) : Takes X (fun c d σ H => σ.length = X.N.length → W c d σ H) := fun u s' ⟨a, B, sI, pins, σ, H, cls, d, e, I, nb, up, sky, na, os, ag, w⟩ =>
  t u s' ⟨a, B, sI, pins, σ, H, cls, d, e, I, nb, up, sky, na, os, ag, w I.len⟩
def tTry (n : Nat) (body : XK → TS) : WX → TS := fun W D σ H => ∃ E : XK, (∀ cls d σ' H', E cls d H' → σ'.length = n → W cls d σ' H') ∧ body E D σ H
theorem try_act {W : WX} {st : List Stmt} {body : XK → TS} (n : Nat) (hn : X.N.length = n) (tk : Takes X W) (h : ∀ E : XK, (∃ W' : WX, Takes X W' ∧ ∀ cls d σ' H', E cls d H' → W' cls d σ' H') → PSs X st (body E)) : PSs X st (tTry n body W) := by
  refine ⟨fun pins s σ H D I h' => ?_⟩
  obtain ⟨E, hW, h1⟩ := h'
  refine (h E ⟨_, takes_len tk, fun cls d σ' H' e l => hW cls d σ' H' e (l.trans hn)⟩).run pins s σ H D I h1
end
end Gh
end
section
set_option Elab.async false
set_option linter.all false
set_option maxRecDepth 100000
set_option maxHeartbeats 4000000
namespace Gh
open PySem PySem.Spec PyProof.Rows L2
section
variable {X : Cx} {CX : CXT} {k : Nat} {C f : Addr} {sp : Sp} {E : XK} {r : List V → Hp → VK → Prop}
theorem promO_in1 {pins : List (Addr × Obj)} {s : Shared} {σ : L2.St} {H : Hp} {vs : List V} {us : List Value} {Q : VK} (F : PromOX X CX k f [] sp) (hr : Room (k + 1) X.A) (hx : Passes CX X E) (I : Inv X pins σ H s) (rv : Vals vs us) (h : sp vs H Q E) :
    wpAny (model X.prog X.w) X.A.in1 (call (.ref f) us) (EP X pins σ Q) X.xe s := by
  refine wpAny_call (codeAny_mono ((PromO.raw F) X.A.in1 X.stack s H us vs Q E hr.in1 I.env0.in1 rv h) fun r s' hq => ?_)
  cases r with
  | error e => exact hx pins σ H s e s' I hq
  | ok fl =>
    cases fl with
    | ret u => exact I.after hq
    | next => exact False.elim hq
    | brk => exact False.elim hq
    | cont => exact False.elim hq
@[irreducible] def rStrO (C : Addr) (sp : Sp) (E : XK) : List V → Hp → VK → Prop := fun xs H Q => ∃ a dx fs, xs = [.ref a] ∧ H a = some (.ins C dx fs) ∧ sp [.ref a] H (fun v H' => ∃ z, v = .str z ∧ Q (.str z) H') E
theorem cr_strO (hm : Meth X.K C "__str__" f) (F : PromOX X CX k f [] sp) (hr : Room (k + 2) X.A) (hx : Passes CX X E) : CallR X (.type "str") (rStrO C sp E) := by
  intro pins s σ H xs us Q I rv h
  unfold rStrO at h
  obtain ⟨a, dx, fs, rfl, ha, q⟩ := h
  obtain ⟨u, rfl, ru⟩ := vals1 rv
  cases (show u = Value.ref a from ru)
  obtain ⟨ox, od, J⟩ := ins_look I ha
  have hu : X.A.in1.in1.units < cLine := (hr.in1.in1).units0
  refine PySem.W.kso_call hu I.kIn J hm.at_ hm.fn ?_
  refine wpAny_call (codeAny_mono ((PromO.raw F) X.A.in1.in1 X.stack s H [.ref a] [.ref a] _ E hr.in1.in1 I.env0.in1.in1 (.cons rfl .nil) q) fun r s' hq => ?_)
  cases r with
  | error e => exact hx pins σ H s e s' I hq
  | ok fl =>
    cases fl with
    | ret u =>
      obtain ⟨v, H', I', rv', z, rfl, q'⟩ := I.after hq
      obtain ⟨t, rfl⟩ := rv'
      exact ⟨.str z, H', I', ⟨t, rfl⟩, q'⟩
    | next => exact False.elim hq
    | brk => exact False.elim hq
    | cont => exact False.elim hq
@[irreducible] def rEqO (K : PySem.W.Frag) (C : Addr) (r : List V → Hp → VK → Prop) : R2 := fun x y H Q => ∃ a dx fs tb, x = .ref a ∧ H a = some (.ins C dx fs) ∧ TyX K H y tb ∧ PySem.W.notFirst K C tb = true ∧ r [x, y] H Q
theorem op_eqO {K : PySem.W.Frag} (hK : X.K = K) (hm : Meth X.K C "__eq__" f) (hu : X.A.units < cLine) (R : CallR X (.ref f) r) : OpR X (compareOp .Eq) (rEqO K C r) := by
  subst hK
  intro pins s σ H x y v u Q I rx ry h
  unfold rEqO at h
  obtain ⟨a, dx, fs, tb, rfl, ha, ty, hn, q⟩ := h
  cases (show v = Value.ref a from rx)
  obtain ⟨ox, od, J⟩ := ins_look I ha
  obtain ⟨m, hF⟩ := I.fr
  obtain ⟨P, Z, p, hx⟩ := kit_of I ry ty
  refine PySem.W.cmp_K (op := .Eq) (tb := tb) hu hF I.ok.mod.kin J (Z.ty _ _ I.kIn p) hn hm.at_ hm.fn ?_
  exact wpAny_mono (R pins s σ H [.ref a, y] [.ref a, u] Q I (.cons rfl (.cons ry .nil)) q) (fun w s' z => cmp_back z) fun _ _ x => x
structure NfT (K : PySem.W.Frag) (C : Addr) : Prop where
  ok : ∀ n ∈ (["NoneType", "bool", "int", "str", "list", "tuple", "dict"] : List String), PySem.W.notFirst K C (.type n) = true
  me : PySem.W.notFirst K C (.ref C) = true
theorem nfB_ok {x : Str} {K : PySem.W.Frag} (h : nfB x K = true) : NfT K (gd x K) := ⟨fun n hn => List.all_eq_true.mp h n hn, by
  unfold PySem.W.notFirst
  simp⟩
end
end Gh
end
section
set_option Elab.async false
set_option linter.all false
set_option maxRecDepth 100000
set_option maxHeartbeats 4000000
namespace Gh
open PySem PySem.Spec PyProof.Rows L2
section
variable {prog : Program} {w : World} {A : Around} {E : Value → Shared → Prop} {s : Shared} {K : PySem.W.Frag} {x C f L : Addr} {h₀ : Heap} {m : Str → Option Value} {ox : Obj} {od : Option Obj} {b tb : Value}
open PySem.W in
theorem ifBoundB_K {M : Model} {name : Str} {id : String} {args : List Value} {Q : Option Value → Shared → Prop} (X : K.In s.heap) (I : InstAt s.heap x ox C od) (hs : findIn K (.ref C) name = some (some (.builtin id))) (hb : ∀ self, bindSpecial (.builtin id) self = pure (.builtin id, [self]))
    (h : wpAny M A (call (.builtin id) (.ref x :: args)) (fun v => Q (some v)) E s) : wpAny M A (callSpecialIfBound? (.ref x) name args) Q E s := by
  simp only [callSpecialIfBound?, bindSpecialIfBound?]
  refine wpAny_holding (wpAny_bind (wpAny_bind (wpAny_bind (I.type.here ((looks_findIn X hs).here ?_)))))
  refine wpAny_bind (wpAny_askSetting (wpAny_ite ?_))
  have fin : wpAny M A (call (.builtin id) ([.ref x] ++ args) >>= fun v => pure (some v)) Q E s := wpAny_bind (wpAny_mono h (fun v s' h' => wpAny_pure h') fun _ _ h' => h')
  simp only [hb]
  split
  · exact wpAny_bind (wpAny_pure (wpAny_pure fin))
  · exact wpAny_tryCatch (wpAny_bind (wpAny_pure (wpAny_pure fin)))
open PySem.W in
theorem ne_K {Q : Value → Shared → Prop} (hu : A.units + 1 < cLine) (F : PyProof.Rows.Fr h₀ L s.heap m) (X₀ : K.In h₀) (I : InstAt s.heap x ox C od) (hb : Looks (model prog w) s.heap (typeOf b) tb) (hn : notFirst K C tb = true)
    (h1 : findIn K (.ref C) "__ne__" = some (some (.builtin "object.__ne__"))) (ho : subIn K (.ref C) (.type "object") = some true) (h2 : findIn K (.ref C) "__eq__" = some (some (.ref f))) (hf : isFn K (.ref f) = true)
    (h : wpAny (model prog w) A.in1 (call (.ref f) [.ref x, b]) (fun v s' => ∃ k, v = .bool k ∧ Q (.bool (!k)) s') E s) : wpAny (model prog w) A (richCompare .NotEq (.ref x) b) Q E s := by
  have X := X₀.keeps F.keep
  have one : wpAny (model prog w) A (tryCompare (.ref x) "__ne__" b) (fun r s' => ∃ v, r = some v ∧ Q v s') E s := by
    simp only [tryCompare]
    refine wpAny_bind (ifBoundB_K X I h1 (fun _ => rfl) (wpAny_call (codeAny_call_builtin (by decide +kernel) PySem.F.cmpEntry_ne
      (@check_slot (model prog w) _ _ s "object.__ne__" "object" "__ne__" (.ref x) [b] [] _ PySem.F.cmpKind_ne PySem.F.cmpSplit_ne (I.type.andThen (looks_subIn X ho)) (PySem.F.cmpArgs_ne _ _) ?_))))
    unfold Builtin.«object.__ne__»
    refine wpAny_bind (m := slotArgs "__ne__" 1 _) (wpAny_pure ?_)
    refine wpAny_bind (wpAny_cRoomFor (show A.in1.units < cLine by show A.units + 1 < cLine; exact hu) ?_)
    refine wpAny_bind (ifBound_K X I h2 hf (wpAny_mono h (fun v s' hv => ?_) fun _ _ e => e))
    obtain ⟨k, rfl, hq⟩ := hv
    exact wpAny_bind (wpAny_truthy_bool (wpAny_pure (wpAny_pure ⟨_, rfl, hq⟩)))
  unfold richCompare
  simp only [oneThing_ref]
  refine wpAny_holding (wpAny_bind (wpAny_cRoomFor (Nat.lt_of_succ_lt hu) ?_))
  refine wpAny_bind (I.type.here (wpAny_bind (hb.here ?_)))
  split
  · rename_i q
    have e : subIn K tb (.ref C) = some false := by
      rcases Bool.or_eq_true_iff.mp hn with e | e
      · rw [beq_iff_eq.mp e] at q; simp at q
      · exact beq_iff_eq.mp e
    refine wpAny_bind ((looks_subIn X e).here ?_)
    simp only [Bool.false_eq_true, if_false]
    refine wpAny_bind (wpAny_mono one (fun r s' z => ?_) fun _ _ e => e)
    obtain ⟨v, rfl, hq⟩ := z
    exact wpAny_pure hq
  · refine wpAny_bind (wpAny_pure ?_)
    simp only [Bool.false_eq_true, if_false]
    refine wpAny_bind (wpAny_mono one (fun r s' z => ?_) fun _ _ e => e)
    obtain ⟨v, rfl, hq⟩ := z
    exact wpAny_pure hq
end
section
variable {X : Cx} {CX : CXT} {k : Nat} {C f : Addr} {sp : Sp} {E : XK}
structure NeT (K : PySem.W.Frag) (C : Addr) : Prop where
  ne : PySem.W.findIn K (.ref C) "__ne__" = some (some (.builtin "object.__ne__"))
  ob : PySem.W.subIn K (.ref C) (.type "object") = some true
theorem neB_ok {x : Str} {K : PySem.W.Frag} (h : neB x K = true) : NeT K (gd x K) := by
  obtain ⟨h1, h2⟩ := He.ba h
  exact ⟨He.eqO_ok h1, of_decide_eq_true h2⟩
@[irreducible] def rNeO (K : PySem.W.Frag) (C : Addr) (sp : Sp) (E : XK) : R2 := fun x y H Q => ∃ a dx fs tb, x = .ref a ∧ H a = some (.ins C dx fs) ∧ TyX K H y tb ∧ PySem.W.notFirst K C tb = true ∧ sp [x, y] H (fun v H' => ∃ b, v = .bl b ∧ Q (.bl (!b)) H') E
theorem op_neO {K : PySem.W.Frag} (hK : X.K = K) (hm : Meth X.K C "__eq__" f) (hn : NeT X.K C) (F : PromOX X CX k f [] sp) (hr : Room (k + 1) X.A) (hx : Passes CX X E) : OpR X (compareOp .NotEq) (rNeO K C sp E) := by
  subst hK
  intro pins s σ H x y v u Q I rx ry h
  unfold rNeO at h
  obtain ⟨a, dx, fs, tb, rfl, ha, ty, nf, q⟩ := h
  cases (show v = Value.ref a from rx)
  obtain ⟨ox, od, J⟩ := ins_look I ha
  obtain ⟨m, hF⟩ := I.fr
  obtain ⟨P, Z, p, hx'⟩ := kit_of I ry ty
  refine ne_K (b := u) (tb := tb) (by have := hr.un; omega) hF I.ok.mod.kin J (Z.ty _ _ I.kIn p) nf hn.ne hn.ob hm.at_ hm.fn (wpAny_mono (promO_in1 (vs := [.ref a, y]) F hr hx I (.cons rfl (.cons ry .nil)) q) (fun w s' z => ?_) fun _ _ x => x)
  obtain ⟨v', H', I', rv', b, rfl, q'⟩ := z
  cases (show w = Value.bool b from rv')
  exact ⟨b, rfl, .bl (!b), H', I', rfl, q'⟩
end
end Gh
end
section
set_option Elab.async false
set_option linter.all false
set_option maxRecDepth 100000
set_option maxHeartbeats 4000000
namespace Gh
open PySem PySem.Spec PyProof.Rows L2
section
variable {K : PySem.W.Frag} {H : Hp} {Q : VK} {a C dx : Addr} {fs : List (Str × V)} {sp : Sp} {E : XK} {r : List V → Hp → VK → Prop} {x y : V} {tb : Value}
theorem st_strO (h : H a = some (.ins C dx fs)) (q : rSp sp [] E [.ref a] H (fun v H' => ∃ z, v = .str z ∧ Q (.str z) H')) : rStrO C sp E [.ref a] H Q := by
  unfold rStrO
  exact ⟨a, dx, fs, rfl, h, q⟩
theorem st_eqO (h : H a = some (.ins C dx fs)) (ty : TyX K H y tb) (nf : PySem.W.notFirst K C tb = true) (q : r [.ref a, y] H Q) : rEqO K C r (.ref a) y H Q := by
  unfold rEqO
  exact ⟨a, dx, fs, tb, rfl, h, ty, nf, q⟩
theorem st_neO (h : H a = some (.ins C dx fs)) (ty : TyX K H y tb) (nf : PySem.W.notFirst K C tb = true) (q : rSp sp [] E [.ref a, y] H (fun v H' => ∃ b, v = .bl b ∧ Q (.bl (!b)) H')) : rNeO K C sp E (.ref a) y H Q := by
  unfold rNeO
  exact ⟨a, dx, fs, tb, rfl, h, ty, nf, q⟩
end
end Gh
end
section
set_option Elab.async false
set_option linter.all false
set_option maxRecDepth 100000
set_option maxHeartbeats 4000000
namespace Gp
open PySem PySem.Spec PyProof.Rows L2 Gh
section
variable {α β γ : Type}
def nox : Tr α → Tr α
  | .ok a => .ok a
  | .ex _ _ => .bad
  | .bad => .bad
  | .draw m f => .draw m fun d => nox (f d)
theorem bd_bd (m : Tr α) (k : α → Tr β) (l : β → Tr γ) : bd (bd m k) l = bd m fun a => bd (k a) l := by
  induction m with
  | draw m f ih =>
    show Tr.draw m _ = Tr.draw m _
    congr 1
    funext d
    exact ih d
  | _ => rfl
theorem al_bd {P : β → Nat → Prop} {E : Str → Fs → Nat → Prop} {m : Tr α} {k : α → Tr β} {b : Nat} : Al P E (bd m k) b ↔ Al (fun a b1 => Al P E (k a) b1) E m b := by
  induction m generalizing b with
  | draw m f ih =>
    constructor
    · rintro ⟨b', e, h1, h2, h3⟩
      exact ⟨b', e, h1, h2, fun d d0 d1 => (ih d).mp (h3 d d0 d1)⟩
    · rintro ⟨b', e, h1, h2, h3⟩
      exact ⟨b', e, h1, h2, fun d d0 d1 => (ih d).mpr (h3 d d0 d1)⟩
  | _ => exact Iff.rfl
theorem al_nox {P : α → Nat → Prop} {E E' : Str → Fs → Nat → Prop} {m : Tr α} {b : Nat} (h : Al P E (nox m) b) : Al P E' m b := by
  induction m generalizing b with
  | ok a => exact h
  | ex c fs => exact h.elim
  | bad => exact h
  | draw m f ih =>
    obtain ⟨b', e, h1, h2, h3⟩ := h
    exact ⟨b', e, h1, h2, fun d d0 d1 => ih d (h3 d d0 d1)⟩
end
section
variable {g : Gw} {U U' : Addr → Prop} {H H' : Hp}
theorem DenL.take : ∀ {vs : List V} {ds : List D} (n : Nat), DenL g U H vs ds → DenL g U H (vs.take n) (ds.take n)
  | _, _, 0, _ => .nil
  | _, _, _ + 1, .nil => .nil
  | _, _, n + 1, .cons a r => .cons a (DenL.take n r)
theorem DenL.drop : ∀ {vs : List V} {ds : List D} (n : Nat), DenL g U H vs ds → DenL g U H (vs.drop n) (ds.drop n)
  | _, _, 0, r => r
  | _, _, _ + 1, .nil => .nil
  | _, _, n + 1, .cons a r => DenL.drop n r
theorem DenL.set : ∀ {vs : List V} {ds : List D} (n : Nat) {v : V} {d : D}, Den g U H v d → DenL g U H vs ds → DenL g U H (vs.set n v) (ds.set n d)
  | _, _, _, _, _, _, .nil => .nil
  | _, _, 0, _, _, h, .cons _ r => .cons h r
  | _, _, n + 1, _, _, h, .cons a r => .cons a (DenL.set n h r)
theorem DenL.ints : ∀ ns : List Int, DenL g U H (ns.map V.int) (ns.map D.int)
  | [] => .nil
  | n :: r => .cons (.int n) (DenL.ints r)
theorem DenF.look0 : ∀ {vs : List (Str × V)} {ds : List (Str × D)} {n : Str}, DenF g U H vs ds → ds.lookup n = none → vs.lookup n = none
  | _, _, _, .nil, _ => rfl
  | _, _, n, .cons (n := m) a r, e => by
    simp only [List.lookup] at e ⊢
    cases q : (n == m) with
    | true => rw [q] at e; cases e
    | false => rw [q] at e; exact DenF.look0 r e
theorem DenF.put {f : Str} {v : V} {d : D} (h : Den g U H v d) : ∀ {vs : List (Str × V)} {ds : List (Str × D)}, DenF g U H vs ds → DenF g U H (putF f v vs) (putD f d ds)
  | _, _, .nil => .cons h .nil
  | _, _, .cons (n := m) a r => by
    unfold putF putD
    split
    · exact .cons h r
    · exact .cons a (DenF.put h r)
end
section
variable {g : Gw} {U U' : Addr → Prop} {H H' H1 H2 : Hp} {b : Nat}
theorem fr_same (s : L2.Same H H') {p : Addr} : Fr H H' p := fun a o h _ _ => s a o h
theorem UOk.new (u : UOk g U H) {a : Addr} (h : H a = none) : ¬ U a := fun z => by
  obtain ⟨o, e, _⟩ := u.al a z
  rw [h] at e
  cases e
end
section
variable {g : Gw} {U U' : Addr → Prop} {H H' H1 H2 : Hp} {b : Nat} {σ : L2.St} {ε : Env}
mutual
theorem Den.grow {x : Addr} (n : H x = none) : ∀ {v : V} {d : D}, Den g U H v d → Den g (fun a => U a ∨ a = x) H v d
  | _, _, .non => .non
  | _, _, .bl b => .bl b
  | _, _, .int i => .int i
  | _, _, .str x h => .str x h
  | _, _, .tup h k l r => .tup h (fun z => z.elim k (ne_of_none h n)) l (DenL.grow n r)
  | _, _, .tupW h l r => .tupW h l (DenL.grow n r)
  | _, _, .lst h k l r => .lst h (fun z => z.elim k (ne_of_none h n)) l (DenL.grow n r)
  | _, _, .obj h k r => .obj h (fun z => z.elim k (ne_of_none h n)) (DenF.grow n r)
  | _, _, .err h k h2 k2 r => .err h (fun z => z.elim k (ne_of_none h n)) h2 (fun z => z.elim k2 (ne_of_none h2 n)) (DenF.grow n r)
  | _, _, .pen => .pen
  | _, _, .cls c => .cls c
  | _, _, .dct h k => .dct h (fun z => z.elim k (ne_of_none h n))
  | _, _, .dic h k l r => .dic h (fun z => z.elim k (ne_of_none h n)) l (DenL.grow n r)
  | _, _, .dit h k l r => .dit h (fun z => z.elim k (ne_of_none h n)) l (DenL.grow n r)
theorem DenL.grow {x : Addr} (n : H x = none) : ∀ {vs : List V} {ds : List D}, DenL g U H vs ds → DenL g (fun a => U a ∨ a = x) H vs ds
  | _, _, .nil => .nil
  | _, _, .cons a r => .cons (Den.grow n a) (DenL.grow n r)
theorem DenF.grow {x : Addr} (n : H x = none) : ∀ {vs : List (Str × V)} {ds : List (Str × D)}, DenF g U H vs ds → DenF g (fun a => U a ∨ a = x) H vs ds
  | _, _, .nil => .nil
  | _, _, .cons a r => .cons (Den.grow n a) (DenF.grow n r)
end
theorem SlR.grow {x : Addr} (n : H x = none) {o : Option V} : ∀ {s : Sl}, SlR g U H o s → SlR g (fun a => U a ∨ a = x) H o s
  | .no, _ => trivial
  | .fz d, ⟨v, e, h⟩ => ⟨v, e, h.grow n⟩
  | .ow ds, ⟨a, vs, e, h, l, k, ua, n1, n2⟩ => ⟨a, vs, e, h, l, k.grow n, .inl ua, n1, n2⟩
  | .oi c fs, ⟨a, dx, fvs, e, h, k, ua, n1, n2⟩ => ⟨a, dx, fvs, e, h, k.grow n, .inl ua, n1, n2⟩
theorem Rel.grow {x : Addr} (r : Rel g U H σ ε) (n : H x = none) : Rel g (fun a => U a ∨ a = x) H σ ε := ⟨r.len, fun i s e => by
  obtain ⟨o, h1, h2⟩ := r.at_ i s e
  exact ⟨o, h1, h2.grow n⟩, r.apart⟩
def okL (g : Gw) (U : Addr → Prop) (H : Hp) (Q : List V → Hp → Prop) : List D → Nat → Prop := fun d b => ∀ v H', DenL g U H' v d → Wd g H' b → Fr H H' g.p → Q v H'
def okB (g : Gw) (U : Addr → Prop) (H : Hp) (Q : Bool → Hp → Prop) : Bool → Nat → Prop := fun d b => ∀ H', Wd g H' b → Fr H H' g.p → Q d H'
def SE (g : Gw) (E : XK) (ε : Env) (t : TE) (m : Tr D) : Prop := ∀ U σ H b Q, Rel g U H σ ε → Wd g H b → UOk g U H → Al (okP g U H Q) (exP g U E H) m b → t σ H Q
def SA (g : Gw) (E : XK) (ε : Env) (t : TA) (m : Tr (List D)) : Prop := ∀ U σ H b Q, Rel g U H σ ε → Wd g H b → UOk g U H → Al (okL g U H Q) (exP g U E H) m b → t σ H Q
def ST (g : Gw) (E : XK) (ε : Env) (t : TT) (m : Tr Bool) : Prop := ∀ U σ H b Q, Rel g U H σ ε → Wd g H b → UOk g U H → Al (okB g U H Q) (exP g U E H) m b → t σ H Q
def SR1 (g : Gw) (E : XK) (r : V → Hp → VK → Prop) (f : D → Tr D) : Prop := ∀ U H b x dx Q, Den g U H x dx → Wd g H b → UOk g U H → Al (okP g U H Q) (exP g U E H) (f dx) b → r x H Q
def SR2 (g : Gw) (E : XK) (r : R2) (f : D → D → Tr D) : Prop := ∀ U H b x y dx dy Q, Den g U H x dx → Den g U H y dy → Wd g H b → UOk g U H → Al (okP g U H Q) (exP g U E H) (f dx dy) b → r x y H Q
def SRL (g : Gw) (E : XK) (r : List V → Hp → VK → Prop) (f : List D → Tr D) : Prop := ∀ U H b xs dxs Q, DenL g U H xs dxs → Wd g H b → UOk g U H → Al (okP g U H Q) (exP g U E H) (f dxs) b → r xs H Q
theorem al_frX {α : Type} {E : XK} {P : α → Nat → Prop} {m : Tr α} (f : Fr H H1 g.p) (h : Al P (exP g U E H) m b) : Al P (exP g U E H1) m b := h.mono (fun _ _ h => h) (fun _ _ _ h => h.fr f)
variable {E : XK} {ta tb tc : TE} {ma mb : Tr D}
theorem SE.step {α : Type} {k : D → Tr α} {P : α → Nat → Prop} {Q : VK} (ha : SE g E ε ta ma) (R : Rel g U H σ ε) (W : Wd g H b) (u : UOk g U H) (h : Al P (exP g U E H) (bd ma k) b)
    (hk : ∀ v d H1 b1, Den g U H1 v d → Wd g H1 b1 → Fr H H1 g.p → Rel g U H1 σ ε → UOk g U H1 → Al P (exP g U E H1) (k d) b1 → Q v H1) : ta σ H Q :=
  ha U σ H b Q R W u ((al_bd.mp h).mono (fun d b1 h1 v H1 d1 w1 f1 => hk v d H1 b1 d1 w1 f1 (R.fr u f1) (u.fr f1 w1) (al_frX f1 h1)) (fun _ _ _ h => h))
theorem SA.step {α : Type} {t : TA} {m : Tr (List D)} {k : List D → Tr α} {P : α → Nat → Prop} {Q : List V → Hp → Prop} (ha : SA g E ε t m) (R : Rel g U H σ ε) (W : Wd g H b) (u : UOk g U H) (h : Al P (exP g U E H) (bd m k) b)
    (hk : ∀ v d H1 b1, DenL g U H1 v d → Wd g H1 b1 → Fr H H1 g.p → Rel g U H1 σ ε → UOk g U H1 → Al P (exP g U E H1) (k d) b1 → Q v H1) : t σ H Q :=
  ha U σ H b Q R W u ((al_bd.mp h).mono (fun d b1 h1 v H1 d1 w1 f1 => hk v d H1 b1 d1 w1 f1 (R.fr u f1) (u.fr f1 w1) (al_frX f1 h1)) (fun _ _ _ h => h))
theorem ST.step {α : Type} {t : TT} {m : Tr Bool} {k : Bool → Tr α} {P : α → Nat → Prop} {Q : Bool → Hp → Prop} (ha : ST g E ε t m) (R : Rel g U H σ ε) (W : Wd g H b) (u : UOk g U H) (h : Al P (exP g U E H) (bd m k) b)
    (hk : ∀ d H1 b1, Wd g H1 b1 → Fr H H1 g.p → Rel g U H1 σ ε → UOk g U H1 → Al P (exP g U E H1) (k d) b1 → Q d H1) : t σ H Q :=
  ha U σ H b Q R W u ((al_bd.mp h).mono (fun d b1 h1 H1 w1 f1 => hk d H1 b1 w1 f1 (R.fr u f1) (u.fr f1 w1) (al_frX f1 h1)) (fun _ _ _ h => h))
theorem se_var {i : Nat} {d : D} (h : ε[i]? = some (.fz d) := by rfl) : SE g E ε (tVar i) (.ok d) := fun U σ H b Q R W u q => by
  obtain ⟨o, e, v, rfl, dn⟩ := R.at_ i _ h
  exact ⟨v, e, okP.here q W dn⟩
theorem se_c {v : V} {d : D} (h : ∀ U H, Den g U H v d) : SE g E ε (tC v) (.ok d) := fun U σ H b Q R W u q => okP.here q W (h U H)
theorem se_int {i : Int} : SE g E ε (tC (.int i)) (.ok (.int i)) := se_c fun _ _ => .int i
theorem se_bl {i : Bool} : SE g E ε (tC (.bl i)) (.ok (.bl i)) := se_c fun _ _ => .bl i
theorem se_non : SE g E ε (tC .non) (.ok .non) := se_c fun _ _ => .non
theorem se_str {x : Str} (h : x.length ≤ sizeLine) : SE g E ε (tC (.str x)) (.ok (.str x)) := se_c fun _ _ => .str x h
theorem se_op {r : R2} {f : D → D → Tr D} (hr : SR2 g E r f) (ha : SE g E ε ta ma) (hb : SE g E ε tb mb) : SE g E ε (tOp r ta tb) (bd ma fun x => bd mb fun y => f x y) := fun U σ H b Q R W u q =>
  ha.step R W u q fun v d H1 b1 d1 w1 f1 R1 u1 q1 => hb.step R1 w1 u1 q1 fun v2 e H2 b2 d2 w2 f2 R2 u2 q2 => hr U H2 b2 v v2 d e Q (d1.fr u1 f2) d2 w2 u2 (q2.mono (fun _ _ h => h.fr (f1.trans f2)) (fun _ _ _ h => h))
theorem se_un {r : V → Hp → VK → Prop} {f : D → Tr D} (hr : SR1 g E r f) (ha : SE g E ε ta ma) : SE g E ε (tUn r ta) (bd ma f) := fun U σ H b Q R W u q =>
  ha.step R W u q fun v d H1 b1 d1 w1 f1 R1 u1 q1 => hr U H1 b1 v d Q d1 w1 u1 (q1.mono (fun _ _ h => h.fr f1) (fun _ _ _ h => h))
theorem sa_nil : SA g E ε tNil (.ok []) := fun U σ H b Q R W u q => q [] H .nil W Fr.refl
theorem sa_cons {t : TA} {m : Tr (List D)} (ha : SE g E ε ta ma) (hb : SA g E ε t m) : SA g E ε (tCons ta t) (bd ma fun x => bd m fun xs => .ok (x :: xs)) := fun U σ H b Q R W u q =>
  ha.step R W u q fun v d H1 b1 d1 w1 f1 R1 u1 q1 => hb.step R1 w1 u1 q1 fun v2 e H2 b2 d2 w2 f2 R2 u2 q2 => q2 (v :: v2) H2 (.cons (d1.fr u1 f2) d2) w2 (f1.trans f2)
theorem se_cl {r : List V → Hp → VK → Prop} {f : List D → Tr D} {t : TA} {m : Tr (List D)} (hr : SRL g E r f) (ha : SA g E ε t m) : SE g E ε (tCl r t) (bd m f) := fun U σ H b Q R W u q =>
  ha.step R W u q fun v d H1 b1 d1 w1 f1 R1 u1 q1 => hr U H1 b1 v d Q d1 w1 u1 (q1.mono (fun _ _ h => h.fr f1) (fun _ _ _ h => h))
theorem se_cb {r : List V → Hp → VK → Prop} {f : List D → Tr D} {t : TA} {m : Tr (List D)} (hr : SRL g E r f) (ha : SA g E ε t m) : SE g E ε (tCB r t) (bd m f) := se_cl hr ha
def asB : D → Tr Bool
  | .bl b => .ok b
  | _ => .bad
theorem al_asB {P : Bool → Nat → Prop} {X : Str → Fs → Nat → Prop} {d : D} (h : Al P X (asB d) b) : ∃ k, d = .bl k ∧ P k b := by
  cases d with
  | bl k => exact ⟨k, rfl, h⟩
  | _ => exact h.elim
theorem al_asBk {α : Type} {P : α → Nat → Prop} {X : Str → Fs → Nat → Prop} {d : D} {k : Bool → Tr α} (h : Al P X (bd (asB d) k) b) : ∃ c, d = .bl c ∧ Al P X (k c) b := al_asB (al_bd.mp h)
theorem den_bl {v : V} {k : Bool} (h : Den g U H v (.bl k)) : v = .bl k := by cases h; rfl
theorem sb_tst (ha : SE g E ε ta ma) : ST g E ε (tTest ta) (bd ma asB) := fun U σ H b Q R W u q =>
  ha.step R W u q fun v d H1 b1 d1 w1 f1 R1 u1 q1 => by
    obtain ⟨k, rfl, q2⟩ := al_asB q1
    exact ⟨k, den_bl d1, q2 H1 w1 f1⟩
theorem sb_tb (ha : SE g E ε ta ma) : ST g E ε (tB ta) (bd ma asB) := sb_tst ha
theorem sb_and {c d : TT} {m n : Tr Bool} (ha : ST g E ε c m) (hb : ST g E ε d n) : ST g E ε (tAnd c d) (bd m fun k => if k = true then n else .ok false) := fun U σ H b Q R W u q =>
  ha.step R W u q fun k H1 b1 w1 f1 R1 u1 q1 => by
    cases k with
    | true => exact hb U σ H1 b1 Q R1 w1 u1 (q1.mono (fun _ _ h H' w f => h H' w (f1.trans f)) (fun _ _ _ h => h))
    | false => exact q1 H1 w1 f1
theorem sb_or {c d : TT} {m n : Tr Bool} (ha : ST g E ε c m) (hb : ST g E ε d n) : ST g E ε (tOr c d) (bd m fun k => if k = true then .ok true else n) := fun U σ H b Q R W u q =>
  ha.step R W u q fun k H1 b1 w1 f1 R1 u1 q1 => by
    cases k with
    | false => exact hb U σ H1 b1 Q R1 w1 u1 (q1.mono (fun _ _ h H' w f => h H' w (f1.trans f)) (fun _ _ _ h => h))
    | true => exact q1 H1 w1 f1
theorem sb_not {c : TT} {m : Tr Bool} (ha : ST g E ε c m) : ST g E ε (tNot c) (bd m fun k => .ok (!k)) := fun U σ H b Q R W u q =>
  ha.step R W u q fun k H1 b1 w1 f1 R1 u1 q1 => q1 H1 w1 f1
theorem se_if {c : TT} {m : Tr Bool} (hc : ST g E ε c m) (ha : SE g E ε ta ma) (hb : SE g E ε tb mb) : SE g E ε (tIf c ta tb) (bd m fun k => if k = true then ma else mb) := fun U σ H b Q R W u q =>
  hc.step R W u q fun k H1 b1 w1 f1 R1 u1 q1 => by
    have q2 := q1.mono (P' := okP g U H1 Q) (fun _ _ h => okP.fr f1 h) (fun _ _ _ h => h)
    cases k with
    | true => exact ha U σ H1 b1 Q R1 w1 u1 q2
    | false => exact hb U σ H1 b1 Q R1 w1 u1 q2
theorem se_andV (ha : SE g E ε ta ma) (hb : SE g E ε tb mb) : SE g E ε (tAndV ta tb) (bd (bd ma asB) fun k => if k = true then mb else .ok (.bl false)) := fun U σ H b Q R W u q => by
  rw [bd_bd] at q
  refine ha.step R W u q fun v d H1 b1 d1 w1 f1 R1 u1 q1 => ?_
  obtain ⟨k, rfl, q2⟩ := al_asBk q1
  refine ⟨k, den_bl d1, ?_⟩
  replace q2 := q2.mono (P' := okP g U H1 Q) (fun _ _ h => okP.fr f1 h) (fun _ _ _ h => h)
  cases k with
  | true => exact hb U σ H1 b1 Q R1 w1 u1 q2
  | false => exact okP.here q2 w1 (.bl false)
theorem se_notV (ha : SE g E ε ta ma) : SE g E ε (tNotV ta) (bd (bd ma asB) fun k => .ok (.bl (!k))) := fun U σ H b Q R W u q => by
  rw [bd_bd] at q
  refine ha.step R W u q fun v d H1 b1 d1 w1 f1 R1 u1 q1 => ?_
  obtain ⟨k, rfl, q2⟩ := al_asBk q1
  exact ⟨k, den_bl d1, q2 _ H1 (.bl (!k)) w1 f1⟩
theorem se_chain {r r' : R2} {f f' : D → D → Tr D} {mc : Tr D} (hr : SR2 g E r f) (hr' : SR2 g E r' f') (ha : SE g E ε ta ma) (hb : SE g E ε tb mb) (hc : SE g E ε tc mc) :
    SE g E ε (tChain r r' ta tb tc) (bd ma fun x => bd mb fun y => bd (bd (f x y) asB) fun k => if k = true then bd mc fun z => f' y z else .ok (.bl false)) := fun U σ H b Q R W u q =>
  ha.step R W u q fun v d H1 b1 d1 w1 f1 R1 u1 q1 => hb.step R1 w1 u1 q1 fun v2 e H2 b2 d2 w2 f2 R2 u2 q2 => by
    rw [bd_bd] at q2
    refine hr U H2 b2 v v2 d e _ (d1.fr u1 f2) d2 w2 u2 ((al_bd.mp q2).mono (fun z b3 h3 v3 H3 d3 w3 f3 => ?_) (fun _ _ _ h => h))
    obtain ⟨k, rfl, q3⟩ := al_asBk h3
    refine ⟨k, den_bl d3, ?_⟩
    have q4 := q3.mono (P' := okP g U H3 Q) (E' := exP g U E H3) (fun _ _ h => okP.fr ((f1.trans f2).trans f3) h) (fun _ _ _ h => h.fr f3)
    cases k with
    | false => exact okP.here q4 w3 (.bl false)
    | true =>
      refine hc.step (R2.fr u2 f3) w3 (u2.fr f3 w3) q4 fun v4 z H4 b4 d4 w4 f4 R4 u4 q5 => ?_
      exact hr' U H4 b4 v2 v4 e z Q (d2.fr u2 (f3.trans f4)) d4 w4 u4 (q5.mono (fun _ _ h => h.fr f4) (fun _ _ _ h => h))
theorem se_lst {t : TA} {m : Tr (List D)} (ha : SA g E ε t m) : SE g E ε (tLst t) (bd m fun ds => if ds.length ≤ sizeLine then .ok (.lst ds) else .bad) := fun U σ H b Q R W u q =>
  ha.step R W u q fun v d H1 b1 d1 w1 f1 R1 u1 q1 => by
    by_cases hl : d.length ≤ sizeLine
    · rw [if_pos hl] at q1
      have hl' : v.length ≤ sizeLine := by rw [d1.length]; exact hl
      refine ⟨hl', fun p np => ?_⟩
      have s := same_new (o := .lst v) np
      exact q1 _ _ (.lst upd_same (u1.new np) hl' (d1.ext (u1.extU (fr_same s)))) (w1.same s) (f1.trans (fr_same s))
    · rw [if_neg hl] at q1
      exact q1.elim
theorem se_tup {t : TA} {m : Tr (List D)} (ha : SA g E ε t m) : SE g E ε (tTup t) (bd m fun ds => if ds.length ≤ sizeLine then .ok (.tup ds) else .bad) := fun U σ H b Q R W u q =>
  ha.step R W u q fun v d H1 b1 d1 w1 f1 R1 u1 q1 => by
    by_cases hl : d.length ≤ sizeLine
    · rw [if_pos hl] at q1
      have hl' : v.length ≤ sizeLine := by rw [d1.length]; exact hl
      refine ⟨hl', fun p np => ?_⟩
      have s := same_new (o := .tup v) np
      exact q1 _ _ (.tup upd_same (u1.new np) hl' (d1.ext (u1.extU (fr_same s)))) (w1.same s) (f1.trans (fr_same s))
    · rw [if_neg hl] at q1
      exact q1.elim
theorem se_nox (ha : SE g (fun _ _ _ => False) ε ta ma) : SE g E ε ta (nox ma) := fun U σ H b Q R W u q => ha U σ H b Q R W u (al_nox q)
end
end Gp
end
section
set_option Elab.async false
set_option linter.all false
set_option maxRecDepth 100000
set_option maxHeartbeats 4000000
namespace Gp
open PySem PySem.Spec PyProof.Rows L2 Gh
section
variable {g : Gw} {Mt U0 U U' : Addr → Prop} {H0 H H' H1 H2 : Hp} {b b1 : Nat} {σ : L2.St} {ε ε' : Env} {E : XK} {W L W' : Type}
theorem UOk.ev (u : UOk g U H) (f : Fr H H' g.p) : Ev U H U H' := ⟨fun a o e n t => f a o e (fun z => n (z ▸ u.p)) t, fun _ _ _ n _ => n⟩
mutual
theorem Den.ev (e : Ev U H U' H') : ∀ {v : V} {d : D}, Den g U H v d → Den g U' H' v d
  | _, _, .non => .non
  | _, _, .bl b => .bl b
  | _, _, .int i => .int i
  | _, _, .str x h => .str x h
  | _, _, .tup h n l k => .tup (e.keep _ _ h n (fun _ z => by cases z)) (e.out _ _ h n (fun _ z => by cases z)) l (DenL.ev e k)
  | _, _, .tupW h l k => .tupW h l (DenL.ev e k)
  | _, _, .lst h n l k => .lst (e.keep _ _ h n (fun _ z => by cases z)) (e.out _ _ h n (fun _ z => by cases z)) l (DenL.ev e k)
  | _, _, .obj h n k => .obj (e.keep _ _ h n (fun _ z => by cases z)) (e.out _ _ h n (fun _ z => by cases z)) (DenF.ev e k)
  | _, _, .err h n h2 n2 k => .err (e.keep _ _ h n (fun _ z => by unfold exk at z; cases z)) (e.out _ _ h n (fun _ z => by unfold exk at z; cases z)) (e.keep _ _ h2 n2 (fun _ z => by cases z)) (e.out _ _ h2 n2 (fun _ z => by cases z)) (DenF.ev e k)
  | _, _, .pen => .pen
  | _, _, .cls c => .cls c
  | _, _, .dct h n => .dct (e.keep _ _ h n (fun _ z => by cases z)) (e.out _ _ h n (fun _ z => by cases z))
  | _, _, .dic h n l k => .dic (e.keep _ _ h n (fun _ z => by cases z)) (e.out _ _ h n (fun _ z => by cases z)) l (DenL.ev e k)
  | _, _, .dit h n l k => .dit (e.keep _ _ h n (fun _ z => by cases z)) (e.out _ _ h n (fun _ z => by cases z)) l (DenL.ev e k)
theorem DenL.ev (e : Ev U H U' H') : ∀ {vs : List V} {ds : List D}, DenL g U H vs ds → DenL g U' H' vs ds
  | _, _, .nil => .nil
  | _, _, .cons a r => .cons (Den.ev e a) (DenL.ev e r)
theorem DenF.ev (e : Ev U H U' H') : ∀ {vs : List (Str × V)} {ds : List (Str × D)}, DenF g U H vs ds → DenF g U' H' vs ds
  | _, _, .nil => .nil
  | _, _, .cons a r => .cons (Den.ev e a) (DenF.ev e r)
end
theorem flP.ev {U1 : Addr → Prop} {H1 : Hp} {D : Ends} {env : W → Env} {envL : L → Env} (e : Ev U H U1 H1) : ∀ {f : Fl W L}, flP g Mt U0 H0 U H D env envL f b → flP g Mt U0 H0 U1 H1 D env envL f b
  | .nx w, h => fun U' σ' H' e1 => h U' σ' H' (e.trans e1)
  | .rt d, h => h
  | .bk w, h => fun U' σ' H' e1 => h U' σ' H' (e.trans e1)
  | .ct w, h => fun U' σ' H' e1 => h U' σ' H' (e.trans e1)
def SS (g : Gw) (E : XK) (ε : Env) (t : TS) (env : W → Env) (envL : L → Env) (m : Tr (Fl W L)) : Prop := ∀ Mt U0 H0 U D σ H b, Stt g Mt U0 H0 U σ H b ε → Al (flP g Mt U0 H0 U H D env envL) (exS g Mt U0 H0 E) m b → t D σ H
theorem SE.sstep {t : TE} {m : Tr D} {k : D → Tr (Fl W L)} {Ds : Ends} {env : W → Env} {envL : L → Env} {Q : VK} (he : SE g E ε t m) (s : Stt g Mt U0 H0 U σ H b ε) (h : Al (flP g Mt U0 H0 U H Ds env envL) (exS g Mt U0 H0 E) (bd m k) b)
    (hk : ∀ v d H1 b1, Den g U H1 v d → Stt g Mt U0 H0 U σ H1 b1 ε → Al (flP g Mt U0 H0 U H1 Ds env envL) (exS g Mt U0 H0 E) (k d) b1 → Q v H1) : t σ H Q :=
  he U σ H b Q s.rel s.wd s.uok ((al_bd.mp h).mono (fun d b1 h1 v H1 d1 w1 f1 => hk v d H1 b1 d1 (s.fr f1 w1) (h1.mono (fun _ _ z => z.ev (s.uok.ev f1)) (fun _ _ _ z => z))) (fun _ _ _ h => exS.exP s h))
theorem SA.sstep {t : TA} {m : Tr (List D)} {k : (List D) → Tr (Fl W L)} {Ds : Ends} {env : W → Env} {envL : L → Env} {Q : List V → Hp → Prop} (he : SA g E ε t m) (s : Stt g Mt U0 H0 U σ H b ε) (h : Al (flP g Mt U0 H0 U H Ds env envL) (exS g Mt U0 H0 E) (bd m k) b)
    (hk : ∀ v d H1 b1, DenL g U H1 v d → Stt g Mt U0 H0 U σ H1 b1 ε → Al (flP g Mt U0 H0 U H1 Ds env envL) (exS g Mt U0 H0 E) (k d) b1 → Q v H1) : t σ H Q :=
  he U σ H b Q s.rel s.wd s.uok ((al_bd.mp h).mono (fun d b1 h1 v H1 d1 w1 f1 => hk v d H1 b1 d1 (s.fr f1 w1) (h1.mono (fun _ _ z => z.ev (s.uok.ev f1)) (fun _ _ _ z => z))) (fun _ _ _ h => exS.exP s h))
theorem ST.sstep {t : TT} {m : Tr Bool} {k : Bool → Tr (Fl W L)} {Ds : Ends} {env : W → Env} {envL : L → Env} {Q : Bool → Hp → Prop} (he : ST g E ε t m) (s : Stt g Mt U0 H0 U σ H b ε) (h : Al (flP g Mt U0 H0 U H Ds env envL) (exS g Mt U0 H0 E) (bd m k) b)
    (hk : ∀ d H1 b1,  Stt g Mt U0 H0 U σ H1 b1 ε → Al (flP g Mt U0 H0 U H1 Ds env envL) (exS g Mt U0 H0 E) (k d) b1 → Q d H1) : t σ H Q :=
  he U σ H b Q s.rel s.wd s.uok ((al_bd.mp h).mono (fun d b1 h1 H1 w1 f1 => hk d H1 b1 (s.fr f1 w1) (h1.mono (fun _ _ z => z.ev (s.uok.ev f1)) (fun _ _ _ z => z))) (fun _ _ _ h => exS.exP s h))
theorem ownAt_set {i j : Nat} {v : V} {d : D} {a : Addr} (h : OwnAt (σ.set i (some v)) (ε.set i (.fz d)) j a) : i ≠ j ∧ OwnAt σ ε j a := by
  obtain ⟨h1, h2⟩ := h
  by_cases e : i = j
  · subst e
    exfalso
    rcases h2 with ⟨ds, h2⟩ | ⟨c, fs, h2⟩
    · rw [List.getElem?_set_self' ] at h2
      cases q : ε[i]? with
      | none => rw [q] at h2; cases h2
      | some z => rw [q] at h2; cases h2
    · rw [List.getElem?_set_self'] at h2
      cases q : ε[i]? with
      | none => rw [q] at h2; cases h2
      | some z => rw [q] at h2; cases h2
  · rw [List.getElem?_set_ne e] at h1 h2
    exact ⟨e, h1, h2⟩
theorem Rel.set (r : Rel g U H σ ε) {v : V} {d : D} (i : Nat) (h : Den g U H v d) : Rel g U H (σ.set i (some v)) (ε.set i (.fz d)) := by
  refine ⟨by rw [List.length_set, List.length_set]; exact r.len, fun j s e => ?_, fun j k a n h1 h2 => r.apart j k a n (ownAt_set h1).2 (ownAt_set h2).2⟩
  by_cases q : i = j
  · subst q
    have hl : i < ε.length := by
      cases z : ε[i]? with
      | none => rw [List.getElem?_set_self', z] at e; cases e
      | some w => exact (List.getElem?_eq_some_iff.mp z).1
    rw [List.getElem?_set_self hl] at e
    cases e
    exact ⟨some v, List.getElem?_set_self (by rw [r.len]; exact hl), v, rfl, h⟩
  · rw [List.getElem?_set_ne q] at e ⊢
    exact r.at_ j s e
theorem Stt.set (s : Stt g Mt U0 H0 U σ H b ε) {v : V} {d : D} (i : Nat) (h : Den g U H v d) : Stt g Mt U0 H0 U (σ.set i (some v)) H b (ε.set i (.fz d)) :=
  ⟨s.rel.set i h, s.wd, s.uok, s.sub, fun j a o => s.own j a (ownAt_set o).2, s.ext, fun j ds a e1 e2 => (by
    obtain ⟨_, e3, e4⟩ := ownAt_set (a := a) (j := j) ⟨e2, .inl ⟨ds, e1⟩⟩
    rcases e4 with ⟨ds', e4⟩ | ⟨_, _, e4⟩
    · exact s.nu0 j ds' a e4 e3
    · by_cases q : i = j
      · subst q
        cases z : ε[i]? with
        | none => rw [List.getElem?_set_self', z] at e1; cases e1
        | some w => rw [List.getElem?_set_self', z] at e1; cases e1
      · rw [List.getElem?_set_ne q, e4] at e1
        cases e1), fun j c fs a e1 e2 => by
    by_cases q : i = j
    · subst q
      cases z : ε[i]? with
      | none => rw [List.getElem?_set_self', z] at e1; cases e1
      | some w => rw [List.getElem?_set_self', z] at e1; cases e1
    · rw [List.getElem?_set_ne q] at e1 e2
      exact s.oim j c fs a e1 e2⟩
theorem ownAt_le (l : Le ε' ε) {i : Nat} {a : Addr} (h : OwnAt σ ε' i a) : OwnAt σ ε i a := by
  obtain ⟨h1, h2⟩ := h
  refine ⟨h1, ?_⟩
  rcases h2 with ⟨ds, h2⟩ | ⟨c, fs, h2⟩
  · rcases l.get h2 with ⟨z, _⟩ | z
    · cases z
    · exact .inl ⟨ds, z⟩
  · rcases l.get h2 with ⟨z, _⟩ | z
    · cases z
    · exact .inr ⟨c, fs, z⟩
theorem Stt.le (s : Stt g Mt U0 H0 U σ H b ε) (l : Le ε' ε) : Stt g Mt U0 H0 U σ H b ε' :=
  ⟨⟨s.rel.len.trans l.len.symm, fun i x e => by
    rcases l.get e with ⟨rfl, z, h⟩ | h
    · obtain ⟨o, h1, _⟩ := s.rel.at_ i z h
      exact ⟨o, h1, trivial⟩
    · exact s.rel.at_ i x h, fun i j a n h1 h2 => s.rel.apart i j a n (ownAt_le l h1) (ownAt_le l h2)⟩, s.wd, s.uok, s.sub, fun i a o => s.own i a (ownAt_le l o), s.ext, fun i ds a e1 e2 => (by
    rcases l.get e1 with ⟨z, _⟩ | z
    · cases z
    · exact s.nu0 i ds a z e2), fun i c fs a e1 e2 => by
    rcases l.get e1 with ⟨z, _⟩ | z
    · cases z
    · exact s.oim i c fs a z e2⟩
variable {env : W → Env} {envL : L → Env} {env' : W' → Env} {u ta tb : TS} {te : TE} {me : Tr D}
theorem ss_nx {w : W} (l : Le (env w) ε) : SS g E ε tNext env envL (.ok (.nx w)) := fun Mt U0 H0 U D σ H b s q => q U σ H Ev.refl (s.le l)
theorem ss_asg {i : Nat} {k : D → Tr (Fl W L)} (he : SE g E ε te me) (hk : ∀ d, SS g E (ε.set i (.fz d)) u env envL (k d)) : SS g E ε (tSeq (tAsg te (gName i)) u) env envL (bd me k) := fun Mt U0 H0 U D σ H b s q =>
  he.sstep s q fun v d H1 b1 d1 s1 q1 => hk d Mt U0 H0 U D _ H1 b1 (s1.set i d1) q1
theorem ss_ret (he : SE g E ε te me) : SS g E ε (tSeq (tRet te) u) env envL (bd me fun d => .ok (.rt d)) := fun Mt U0 H0 U D σ H b s q =>
  he.sstep s q fun v d H1 b1 d1 s1 q1 => q1 v H1 (d1.sub fun a _ z => s1.sub a z) s1.wd s1.ext
theorem ss_drop {k : Tr (Fl W L)} (he : SE g E ε te me) (hk : SS g E ε u env envL k) : SS g E ε (tSeq (tDrop te) u) env envL (bd me fun _ => k) := fun Mt U0 H0 U D σ H b s q =>
  he.sstep s q fun v d H1 b1 d1 s1 q1 => hk Mt U0 H0 U D σ H1 b1 s1 q1
def ul0 {α : Type} (k : Tr α) (ds : List D) : Tr α := match ds with
  | [] => k
  | _ => .bad
def ul1 {α : Type} (k : D → Tr α) (ds : List D) : Tr α := match ds with
  | [x] => k x
  | _ => .bad
def ul2 {α : Type} (k : D → D → Tr α) (ds : List D) : Tr α := match ds with
  | [x, y] => k x y
  | _ => .bad
def ul3 {α : Type} (k : D → D → D → Tr α) (ds : List D) : Tr α := match ds with
  | [x, y, z] => k x y z
  | _ => .bad
def ul4 {α : Type} (k : D → D → D → D → Tr α) (ds : List D) : Tr α := match ds with
  | [x, y, z, w] => k x y z w
  | _ => .bad
section
variable {α : Type} {P : α → Nat → Prop} {X : Str → Fs → Nat → Prop} {ds : List D}
theorem al_ul1 {k : D → Tr α} (h : Al P X (ul1 k ds) b) : ∃ x, ds = [x] ∧ Al P X (k x) b := by
  unfold ul1 at h; split at h
  · exact ⟨_, rfl, h⟩
  · exact h.elim
theorem al_ul2 {k : D → D → Tr α} (h : Al P X (ul2 k ds) b) : ∃ x y, ds = [x, y] ∧ Al P X (k x y) b := by
  unfold ul2 at h; split at h
  · exact ⟨_, _, rfl, h⟩
  · exact h.elim
theorem al_ul3 {k : D → D → D → Tr α} (h : Al P X (ul3 k ds) b) : ∃ x y z, ds = [x, y, z] ∧ Al P X (k x y z) b := by
  unfold ul3 at h; split at h
  · exact ⟨_, _, _, rfl, h⟩
  · exact h.elim
end
theorem denL_nil {vs : List V} (h : DenL g U H vs []) : vs = [] := by cases h; rfl
theorem denL_cons {vs : List V} {d : D} {ds : List D} (h : DenL g U H vs (d :: ds)) : ∃ v r, vs = v :: r ∧ Den g U H v d ∧ DenL g U H r ds := by
  cases h with
  | cons a r => exact ⟨_, _, rfl, a, r⟩
theorem denL_1 {vs : List V} {x : D} (h : DenL g U H vs [x]) : ∃ v, vs = [v] ∧ Den g U H v x := by
  obtain ⟨v, r, rfl, h1, h2⟩ := denL_cons h
  cases denL_nil h2
  exact ⟨v, rfl, h1⟩
theorem denL_2 {vs : List V} {x y : D} (h : DenL g U H vs [x, y]) : ∃ v w, vs = [v, w] ∧ Den g U H v x ∧ Den g U H w y := by
  obtain ⟨v, r, rfl, h1, h2⟩ := denL_cons h
  obtain ⟨w, rfl, h3⟩ := denL_1 h2
  exact ⟨v, w, rfl, h1, h3⟩
theorem ss_par {i j : Nat} {t : TA} {m : Tr (List D)} {k : D → D → Tr (Fl W L)} (he : SA g E ε t m) (hk : ∀ x y, SS g E ((ε.set i (.fz x)).set j (.fz y)) u env envL (k x y)) :
    SS g E ε (tSeq (tPar i j t) u) env envL (bd m (ul2 k)) := fun Mt U0 H0 U D σ H b s q =>
  he.sstep s q fun v d H1 b1 d1 s1 q1 => by
    obtain ⟨x, y, rfl, q2⟩ := al_ul2 q1
    obtain ⟨v1, v2, rfl, e1, e2⟩ := denL_2 d1
    exact ⟨v1, v2, rfl, hk x y Mt U0 H0 U D _ H1 b1 ((s1.set i e1).set j e2) q2⟩
def bdF (m : Tr (Fl W' L)) (k : W' → Tr (Fl W L)) : Tr (Fl W L) := bd m fun f => match f with
  | .nx w => k w
  | .rt d => .ok (.rt d)
  | .bk l => .ok (.bk l)
  | .ct l => .ok (.ct l)
theorem SS.seq {m : Tr (Fl W' L)} {k : W' → Tr (Fl W L)} (h1 : SS g E ε ta env' envL m) (h2 : ∀ w, SS g E (env' w) u env envL (k w)) : SS g E ε (tSeq ta u) env envL (bdF m k) := fun Mt U0 H0 U D σ H b s q => by
  refine h1 Mt U0 H0 U { D with nx := u D } σ H b s ((al_bd.mp q).mono (fun f b1 h => ?_) (fun _ _ _ h => h))
  cases f with
  | nx w => exact fun U1 σ1 H1 e1 s1 => h2 w Mt U0 H0 U1 D σ1 H1 b1 s1 (Al.mono (fun _ _ z => z.ev e1) (fun _ _ _ z => z) h)
  | rt d => exact h
  | bk l => exact h
  | ct l => exact h
theorem ss_if0 {c : TT} {mc : Tr Bool} {m n : Tr (Fl W' L)} (hc : ST g E ε c mc) (ha : SS g E ε ta env' envL m) (hb : SS g E ε tb env' envL n) : SS g E ε (tIfS c ta tb) env' envL (bd mc fun k => if k = true then m else n) := fun Mt U0 H0 U D σ H b s q =>
  hc.sstep s q fun k H1 b1 s1 q1 => by
    cases k with
    | true => exact ha Mt U0 H0 U D σ H1 b1 s1 q1
    | false => exact hb Mt U0 H0 U D σ H1 b1 s1 q1
theorem ss_if {c : TT} {mc : Tr Bool} {m n : Tr (Fl W' L)} {k : W' → Tr (Fl W L)} (env' : W' → Env) (hc : ST g E ε c mc) (ha : SS g E ε ta env' envL m) (hb : SS g E ε tb env' envL n) (hk : ∀ w, SS g E (env' w) u env envL (k w)) :
    SS g E ε (tSeq (tIfS c ta tb) u) env envL (bdF (bd mc fun k => if k = true then m else n) k) := (ss_if0 hc ha hb).seq hk
theorem sx_name {i : Nat} {d : D} {m : Tr (Fl W L)} (h : SS g E (ε.set i (.fz d)) tb env envL m) : SX g E ε d (gName i) tb env envL m := fun Mt U0 H0 U D σ H b v s dn q => h Mt U0 H0 U D _ H b (s.set i dn) q
def un2 {α : Type} (d : D) (k : D → D → Tr α) : Tr α := match d with
  | .tup [x, y] => k x y
  | _ => .bad
theorem den_tup {v : V} {ds : List D} (h : Den g U H v (.tup ds)) : ∃ a vs, v = .ref a ∧ SqT g.K H a vs ∧ vs.length ≤ sizeLine ∧ DenL g U H vs ds := by
  cases h with
  | tup h n l k => exact ⟨_, _, rfl, SqT.of h, l, k⟩
  | tupW h l k => exact ⟨_, _, rfl, h H, l, k⟩
theorem al_un2 {α : Type} {P : α → Nat → Prop} {X : Str → Fs → Nat → Prop} {d : D} {k : D → D → Tr α} (h : Al P X (un2 d k) b) : ∃ x y, d = .tup [x, y] ∧ Al P X (k x y) b := by
  unfold un2 at h
  split at h
  · exact ⟨_, _, rfl, h⟩
  · exact h.elim
theorem sx_tup2 {i j : Nat} {d : D} {m : D → D → Tr (Fl W L)} (h : ∀ x y, SS g E ((ε.set i (.fz x)).set j (.fz y)) tb env envL (m x y)) : SX g E ε d (gTup g.K 2 (gCons (gName i) (gCons (gName j) gNil))) tb env envL (un2 d m) := fun Mt U0 H0 U D σ H b v s dn q => by
  obtain ⟨x, y, rfl, q1⟩ := al_un2 q
  obtain ⟨a, vs, rfl, sq, _, k⟩ := den_tup dn
  obtain ⟨v1, v2, rfl, e1, e2⟩ := denL_2 k
  exact ⟨a, [v1, v2], rfl, sq, rfl, v1, [v2], rfl, v2, [], rfl, rfl, h x y Mt U0 H0 U D _ H b ((s.set i e1).set j e2) q1⟩
theorem ss_unp {gt : TG} {k : D → Tr (Fl W L)} (he : SE g E ε te me) (hk : ∀ d, SX g E ε d gt u env envL (k d)) : SS g E ε (tSeq (tAsg te gt) u) env envL (bd me k) := fun Mt U0 H0 U D σ H b s q =>
  he.sstep s q fun v d H1 b1 d1 s1 q1 => hk d Mt U0 H0 U D σ H1 b1 v s1 d1 q1
def ItD (g : Gw) (U : Addr → Prop) (H : Hp) (J : It) (ds : List D) : Prop := ∀ i U1 H1 b, Ev U H U1 H1 → Wd g H1 b → UOk g U1 H1 →
  (∀ d, ds[i]? = some d → J.go i H1 ∧ ∀ x H2, J.yld i H1 x H2 → Den g U1 H2 x d ∧ L2.Same H1 H2) ∧ (ds.length = i → J.stop i H1)
def okI (g : Gw) (U : Addr → Prop) (H : Hp) (R : It → Hp → Prop) : List D → Nat → Prop := fun ds b => ∀ J H', ds.length ≤ sizeLine → ItD g U H' J ds → Wd g H' b → Fr H H' g.p → R J H'
def SI (g : Gw) (E : XK) (ε : Env) (wi : TI) (m : Tr (List D)) : Prop := ∀ U σ H b R, Rel g U H σ ε → Wd g H b → UOk g U H → Al (okI g U H R) (exP g U E H) m b → wi σ H R
def forF (f : D → W → Tr (Fl W W)) : List D → W → Tr (Fl W L)
  | [], w => .ok (.nx w)
  | x :: xs, w => bd (f x w) fun r => match r with
    | .nx w' => forF f xs w'
    | .ct w' => forF f xs w'
    | .bk w' => .ok (.nx w')
    | .rt d => .ok (.rt d)
theorem forF_nil (f : D → W → Tr (Fl W W)) (w : W) : forF (L := L) f [] w = .ok (.nx w) := rfl
theorem forF_cons (f : D → W → Tr (Fl W W)) (x : D) (xs : List D) (w : W) : forF (L := L) f (x :: xs) w = bd (f x w) fun r => match r with
    | .nx w' => forF f xs w'
    | .ct w' => forF f xs w'
    | .bk w' => .ok (.nx w')
    | .rt d => .ok (.rt d) := rfl
theorem ss_for0 {wi : TI} {gt : TG} {mi : Tr (List D)} {f : D → W → Tr (Fl W W)} {w0 : W} {tb : TS} (hi : SI g E ε wi mi) (l : Le (env w0) ε) (hb : ∀ d w, SX g E (env w) d gt tb env env (f d w)) : SS g E ε (tFor wi gt tb) env envL (bd mi fun ds => forF f ds w0) := fun Mt U0 H0 U D σ H b s q => by
  refine hi U σ H b _ s.rel s.wd s.uok ((al_bd.mp q).mono (fun ds b1 h1 J H1 hsz it w1 f1 => ?_) (fun _ _ _ h => exS.exP s h))
  refine ⟨fun i m σ' H' => ∃ b' w U', m = ds.length - i ∧ i ≤ ds.length ∧ Stt g Mt U0 H0 U' σ' H' b' (env w) ∧ Ev U H1 U' H' ∧ Al (flP g Mt U0 H0 U' H' D env envL) (exS g Mt U0 H0 E) (forF f (ds.drop i) w) b',
    ⟨ds.length, b1, w0, U, by simp, Nat.zero_le _, (s.fr f1 w1).le l, Ev.refl, Al.mono (fun _ _ z => z.ev (s.uok.ev f1)) (fun _ _ _ z => z) h1⟩, ?_⟩
  rintro i m σ' H' ⟨b', w, U', rfl, hle, s', e', q'⟩
  obtain ⟨it1, it2⟩ := it i U' H' b' e' s'.wd s'.uok
  by_cases hlt : i < ds.length
  · have ei : ds[i]? = some ds[i] := List.getElem?_eq_getElem hlt
    obtain ⟨go, y⟩ := it1 _ ei
    rw [List.drop_eq_getElem_cons hlt, forF_cons] at q'
    refine .inr ⟨go, fun σ2 H2 => ∃ b' w U2, Stt g Mt U0 H0 U2 σ2 H2 b' (env w) ∧ Ev U H1 U2 H2 ∧ Al (flP g Mt U0 H0 U2 H2 D env envL) (exS g Mt U0 H0 E) (forF f (ds.drop (i + 1)) w) b', ?_, ?_⟩
    · rintro σ2 H2 ⟨b2, w2, U2, s2, e2, q2⟩
      exact ⟨ds.length - (i + 1), by omega, b2, w2, U2, rfl, hlt, s2, e2, q2⟩
    · intro x H2 hy
      obtain ⟨dn, sm⟩ := y x H2 hy
      have s2 := s'.fr (fr_same sm) (s'.wd.same sm)
      have ev2 : Ev U' H' U' H2 := s'.uok.ev (fr_same sm)
      refine hb _ w Mt U0 H0 U' _ σ' H2 b' x s2 dn ((al_bd.mp q').mono (fun r b2 h2 => ?_) (fun _ _ _ z => z))
      cases r with
      | nx w' => exact fun U3 σ3 H3 e3 s3 => ⟨b2, w', U3, s3, e'.trans (ev2.trans e3), Al.mono (fun _ _ z => z.ev (ev2.trans e3)) (fun _ _ _ z => z) h2⟩
      | ct w' => exact fun U3 σ3 H3 e3 s3 => ⟨b2, w', U3, s3, e'.trans (ev2.trans e3), Al.mono (fun _ _ z => z.ev (ev2.trans e3)) (fun _ _ _ z => z) h2⟩
      | bk w' => exact fun U3 σ3 H3 e3 s3 => h2 U3 σ3 H3 (ev2.trans e3) s3
      | rt d => exact h2
  · have e : i = ds.length := by omega
    subst e
    rw [List.drop_length] at q'
    exact .inl ⟨it2 (rfl), q' U' σ' H' Ev.refl s'⟩
end
end Gp
end
section
set_option Elab.async false
set_option linter.all false
set_option maxRecDepth 100000
set_option maxHeartbeats 4000000
namespace Gp
open PySem PySem.Spec PyProof.Rows L2 Gh
section
variable {g : Gw} {Mt U0 U U' : Addr → Prop} {H0 H H' H1 H2 : Hp} {b b1 : Nat} {σ : L2.St} {ε ε' : Env} {E : XK} {W L W' : Type}
variable {env : W → Env} {envL : L → Env} {env' : W' → Env} {u ta tb : TS} {te : TE} {me : Tr D}
theorem ss_for {wi : TI} {gt : TG} {mi : Tr (List D)} {f : D → W' → Tr (Fl W' W')} {w0 : W'} {tb : TS} {k : W' → Tr (Fl W L)} (env' : W' → Env) (hi : SI g E ε wi mi) (l : Le (env' w0) ε) (hb : ∀ d w, SX g E (env' w) d gt tb env' env' (f d w)) (hk : ∀ w, SS g E (env' w) u env envL (k w)) :
    SS g E ε (tSeq (tFor wi gt tb) u) env envL (bdF (bd mi fun ds => forF f ds w0) k) := (ss_for0 hi l hb).seq hk
def itD : D → Tr (List D)
  | .lst ds => .ok ds
  | .tup ds => .ok ds
  | .str x => .ok (x.cps.toList.map fun c => .str ⟨#[c]⟩)
  | _ => .bad
theorem den_lst {v : V} {ds : List D} (h : Den g U H v (.lst ds)) : ∃ a vs, v = .ref a ∧ H a = some (.lst vs) ∧ ¬ U a ∧ vs.length ≤ sizeLine ∧ DenL g U H vs ds := by
  cases h with
  | lst h n l k => exact ⟨_, _, rfl, h, n, l, k⟩
theorem den_str {v : V} {x : Str} (h : Den g U H v (.str x)) : v = .str x ∧ x.length ≤ sizeLine := by
  cases h with
  | str x h => exact ⟨rfl, h⟩
theorem den_int {v : V} {i : Int} (h : Den g U H v (.int i)) : v = .int i := by cases h; rfl
theorem den1 {c : Nat} : Den g U H (.str ⟨#[c]⟩) (.str ⟨#[c]⟩) := .str _ (by show 1 ≤ sizeLine; decide)
theorem itd_lst {a : Addr} {vs : List V} {ds : List D} (h : H a = some (.lst vs)) (n : ¬ U a) (k : DenL g U H vs ds) : ItD g U H (Itl g.K a) ds := fun i U1 H1 b e w u => by
  have h1 : H1 a = some (.lst vs) := e.keep _ _ h n (fun _ z => by cases z)
  refine ⟨fun d hd => ?_, fun hl => ⟨vs, SqL.of h1, by rw [k.length]; exact Nat.le_of_eq hl⟩⟩
  obtain ⟨v, hv, dn⟩ := k.getD hd
  refine ⟨⟨vs, v, SqL.of h1, hv⟩, ?_⟩
  rintro x H2 ⟨rfl, hx⟩
  have e2 := hx vs (SqL.of h1)
  rw [hv] at e2
  cases e2
  exact ⟨dn.ev e, fun _ _ z => z⟩
theorem itd_tup {a : Addr} {vs : List V} {ds : List D} (h : ∀ U1 H1, Ev U H U1 H1 → SqT g.K H1 a vs) (k : DenL g U H vs ds) : ItD g U H (Itt g.K a) ds := fun i U1 H1 b e w u => by
  have h1 := h U1 H1 e
  refine ⟨fun d hd => ?_, fun hl => ⟨vs, h1, by rw [k.length]; exact Nat.le_of_eq hl⟩⟩
  obtain ⟨v, hv, dn⟩ := k.getD hd
  refine ⟨⟨vs, v, h1, hv⟩, ?_⟩
  rintro x H2 ⟨rfl, hx⟩
  have e2 := hx vs h1
  rw [hv] at e2
  cases e2
  exact ⟨dn.ev e, fun _ _ z => z⟩
theorem den_tupE {v : V} {ds : List D} (h : Den g U H v (.tup ds)) : ∃ a vs, v = .ref a ∧ (∀ U1 H1, Ev U H U1 H1 → SqT g.K H1 a vs) ∧ vs.length ≤ sizeLine ∧ DenL g U H vs ds := by
  cases h with
  | tup h n l k => exact ⟨_, _, rfl, fun U1 H1 e => SqT.of (e.keep _ _ h n (fun _ z => by cases z)), l, k⟩
  | tupW h l k => exact ⟨_, _, rfl, fun U1 H1 e => h H1, l, k⟩
theorem itd_str (x : Str) : ItD g U H (Its x) (x.cps.toList.map fun c => .str ⟨#[c]⟩) := fun i U1 H1 b e w u => by
  refine ⟨fun d hd => ?_, fun hl => by rw [List.length_map, Array.length_toList] at hl; exact Nat.le_of_eq hl⟩
  rw [List.getElem?_map] at hd
  cases q : x.cps.toList[i]? with
  | none => rw [q] at hd; cases hd
  | some c =>
    rw [q] at hd
    cases hd
    have hi : i < x.cps.size := by
      have := (List.getElem?_eq_some_iff.mp q).1
      rw [Array.length_toList] at this
      exact this
    refine ⟨hi, ?_⟩
    rintro y H2 ⟨rfl, c', hc, rfl⟩
    rw [Array.getElem?_toList] at q
    rw [q] at hc
    cases hc
    exact ⟨den1, fun _ _ z => z⟩
def iSeq (K : PySem.W.Frag) (te : TE) : TI := fun σ H R => te σ H fun x H1 => (∃ a, x = .ref a ∧ (∃ xs, SqL K H1 a xs) ∧ R (Itl K a) H1) ∨ (∃ a, x = .ref a ∧ (∃ xs, SqT K H1 a xs) ∧ R (Itt K a) H1) ∨ ∃ z, x = .str z ∧ R (Its z) H1
theorem pi_seq {X : Cx} {K : PySem.W.Frag} {tg e : Expr} {te : TE} (hK : X.K = K) (he : PE X e te) : PI X tg e (iSeq K te) := by
  subst hK
  refine ⟨fun pins s σ H R I h => ?_⟩
  refine thn (he.run pins s σ H _ I h) fun v s1 ⟨x, H1, I1, r1, q1⟩ => ?_
  rcases q1 with ⟨a, e, ⟨xs, hq⟩, q⟩ | ⟨a, e, ⟨xs, hq⟩, q⟩ | ⟨z, ex, q⟩
  · subst e
    cases r1
    obtain ⟨its, rv, p, hz⟩ := I1.list hq
    refine wpAny_pyIter_list p.isList ?_
    refine ⟨s1.heap.objs.size, [s1.heap.objs.size], _, _, H1, rfl, I1.kept (t' := s1.toks) fun b o e => Heap.get?_push_of_some _ e, turn_list a _, ⟨_, Heap.get?_push_size _ rfl, rfl, rfl⟩, fun b hb => ?_, q⟩
    have e : b = s1.heap.objs.size := by simpa using hb
    subst e
    exact I1.fpOk (Nat.le_refl _) (I1.hok.fresh (Nat.le_refl _))
  · subst e
    cases r1
    obtain ⟨its, rv, p, hz⟩ := I1.tuple hq
    refine wpAny_pyIter_tuple (show s1.heap.IsTuple a its.toArray from p) ?_
    refine ⟨s1.heap.objs.size, [s1.heap.objs.size], _, _, H1, rfl, I1.kept (t' := s1.toks) fun b o e => Heap.get?_push_of_some _ e, turn_tuple a _, ⟨_, Heap.get?_push_size _ rfl, rfl, rfl⟩, fun b hb => ?_, q⟩
    have e : b = s1.heap.objs.size := by simpa using hb
    subst e
    exact I1.fpOk (Nat.le_refl _) (I1.hok.fresh (Nat.le_refl _))
  · subst ex
    obtain ⟨t, rfl⟩ := r1
    cases ha : z.cps.all (· < 128)
    · exact wpAny_pyIter_wide ha (pi_one (tk := s1.toks) I1 _ (turn_str _ z t "str_iterator" (.inr rfl)) ⟨_, Heap.get?_push_size _ rfl, rfl, rfl⟩ q)
    · exact wpAny_pyIter_ascii ha (pi_one (tk := s1.toks) I1 _ (turn_str _ z t "str_ascii_iterator" (.inl rfl)) ⟨_, Heap.get?_push_size _ rfl, rfl, rfl⟩ q)
theorem si_seq (he : SE g E ε te me) : SI g E ε (iSeq g.K te) (bd me itD) := fun U σ H b R rl wd u q =>
  he.step rl wd u q fun v d H1 b1 d1 w1 f1 R1 u1 q1 => by
    cases d with
    | lst ds =>
      obtain ⟨a, vs, rfl, h, n, l, k⟩ := den_lst d1
      exact .inl ⟨a, rfl, ⟨vs, SqL.of h⟩, q1 _ H1 (by rw [← k.length]; exact l) (itd_lst h n k) w1 f1⟩
    | tup ds =>
      obtain ⟨a, vs, rfl, h, l, k⟩ := den_tupE d1
      exact .inr (.inl ⟨a, rfl, ⟨vs, h U H1 Ev.refl⟩, q1 _ H1 (by rw [← k.length]; exact l) (itd_tup h k) w1 f1⟩)
    | str x =>
      obtain ⟨rfl, l⟩ := den_str d1
      exact .inr (.inr ⟨x, rfl, q1 _ H1 (by rw [List.length_map, Array.length_toList]; exact l) (itd_str x) w1 f1⟩)
    | _ => exact q1.elim
def rgD (lo : Int) (n : Nat) : List D := (List.range n).map fun i => .int (lo + (i : Nat))
theorem itd_rg (lo : Int) (n : Nat) : ItD g U H (Itr lo n) (rgD lo n) := fun i U1 H1 b e w u => by
  refine ⟨fun d hd => ?_, fun hl => by unfold rgD at hl; rw [List.length_map, List.length_range] at hl; exact Nat.le_of_eq hl⟩
  unfold rgD at hd
  rw [List.getElem?_map] at hd
  have hi : i < n := by
    cases q : (List.range n)[i]? with
    | none => rw [q] at hd; cases hd
    | some c =>
      have := (List.getElem?_eq_some_iff.mp q).1
      rwa [List.length_range] at this
  rw [List.getElem?_range hi] at hd
  cases hd
  refine ⟨hi, ?_⟩
  rintro y H2 ⟨rfl, rfl⟩
  exact ⟨.int _, fun _ _ z => z⟩
def rg1 (x : D) : Tr (List D) := match x with
  | .int j => if -(2 ^ 62) ≤ j ∧ j ≤ 16777216 then .ok (rgD 0 j.toNat) else .bad
  | _ => .bad
theorem si_rg1 {t : TA} {m : Tr (List D)} (ha : SA g E ε t m) : SI g E ε (iRng1 t) (bd m (ul1 rg1)) := fun U σ H b R rl wd u q =>
  ha.step rl wd u q fun v d H1 b1 d1 w1 f1 R1 u1 q1 => by
    obtain ⟨x, rfl, q2⟩ := al_ul1 q1
    obtain ⟨v, rfl, e1⟩ := denL_1 d1
    cases x with
    | int j =>
      cases den_int e1
      unfold rg1 at q2
      dsimp only at q2
      split at q2
      · rename_i hj
        exact ⟨j, rfl, hj.1, by omega, q2 _ H1 (by unfold rgD; rw [List.length_map, List.length_range, sizeLine_eq]; omega) (itd_rg 0 _) w1 f1⟩
      · exact q2.elim
    | _ => exact q2.elim
def lcF (f : D → Tr (Option D)) : List D → Tr (List D)
  | [] => .ok []
  | x :: xs => bd (f x) fun o => bd (lcF f xs) fun r => .ok (match o with | some y => y :: r | none => r)
theorem lcF_nil (f : D → Tr (Option D)) : lcF f [] = .ok [] := rfl
theorem lcF_cons (f : D → Tr (Option D)) (x : D) (xs : List D) : lcF f (x :: xs) = bd (f x) fun o => bd (lcF f xs) fun r => .ok (match o with | some y => y :: r | none => r) := rfl
def okO (g : Gw) (U : Addr → Prop) (H : Hp) (Q : Option V → Hp → Prop) : Option D → Nat → Prop
  | some y, b => ∀ w H', Den g U H' w y → Wd g H' b → Fr H H' g.p → Q (some w) H'
  | none, b => ∀ H', Wd g H' b → Fr H H' g.p → Q none H'
def SC (g : Gw) (ε : Env) (d : D) (gt : TG) (tt : TT) (te : TE) (vs : List Nat) (m : Tr (Option D)) : Prop := ∀ U σ H b v (Q : Option V → Hp → Prop), Rel g U H σ ε → Wd g H b → UOk g U H → Den g U H v d → Al (okO g U H Q) (fun _ _ _ => False) m b →
  gt v (wipe σ vs) H fun σ2 H2 => wipe σ2 vs = wipe σ vs ∧ tt σ2 H2 fun k H3 => if k = true then te σ2 H3 (fun y H4 => Q (some y) H4) else Q none H3
theorem al_noX {α : Type} {P : α → Nat → Prop} {X : Str → Fs → Nat → Prop} {m : Tr α} (h : Al P X (nox m) b) : Al P (fun _ _ _ => False) m b := al_nox h
theorem se_lc {wi : TI} {gt : TG} {tt : TT} {vs : List Nat} {mi : Tr (List D)} {f : D → Tr (Option D)} (hi : SI g E ε wi mi) (hf : ∀ d, SC g ε d gt tt te vs (f d)) : SE g E ε (tLc wi gt tt te vs) (bd mi fun ds => bd (lcF (fun d => nox (f d)) ds) fun r => .ok (.lst r)) := fun U σ H b Q rl wd u q => by
  refine hi U σ H b _ rl wd u ((al_bd.mp q).mono (fun ds b1 h1 J H1 hsz it w1 f1 => ?_) (fun _ _ _ h => h))
  intro A nA
  have u1 := u.fr f1 w1
  have nUA : ¬ U A := u1.new nA
  have hp : A ≠ g.p := fun z => nUA (z ▸ u.p)
  have hc : A ≠ g.c := fun z => nUA (z ▸ u.c)
  have rl1 := (rl.fr u f1).grow nA
  generalize hV : (fun a => U a ∨ a = A) = V at rl1
  have VA : V A := by rw [← hV]; exact .inr rfl
  have VU : ∀ a, U a → V a := fun a z => by rw [← hV]; exact .inl z
  have VO : ∀ a o, H1 a = some o → ¬ U a → ¬ V a := fun a o e n => by
    rw [← hV]
    rintro (z | z)
    · exact n z
    · exact ne_of_none e nA z
  have uv : ∀ {H' : Hp} {b : Nat} {o : List L2.V}, Fr H1 H' g.p → Wd g H' b → H' A = some (.lst o) → UOk g V H' := fun f w h => ⟨VU _ u.p, VU _ u.c, fun a ha => by
    rw [← hV] at ha
    rcases ha with ha | rfl
    · exact (u1.fr f w).al a ha
    · exact ⟨_, h, fun _ z => by cases z⟩⟩
  refine ⟨fun i m H' => ∃ b' accV accD, m = ds.length - i ∧ i ≤ ds.length ∧ accV.length ≤ i ∧ H' A = some (.lst accV) ∧ DenL g V H' accV accD ∧ Wd g H' b' ∧ Fr H1 H' g.p ∧ Al (fun r b => okP g U H Q (.lst (accD ++ r)) b) (exP g U E H) (lcF (fun d => nox (f d)) (ds.drop i)) b', ?_, ?_⟩
  · refine ⟨ds.length, b1, [], [], by simp, Nat.zero_le _, Nat.zero_le _, upd_same, .nil, w1.same (same_new nA), fr_same (same_new nA), ?_⟩
    exact (al_bd.mp h1).mono (fun r b h => h) (fun _ _ _ h => h)
  · rintro i m H' ⟨b', accV, accD, rfl, hle, hla, hA, dA, w', f', q'⟩
    have u' := uv f' w' hA
    have ev' : Ev U H1 V H' := ⟨fun a o e n t => f' a o e (fun z => n (z ▸ u.p)) t, fun a o e n _ => VO a o e n⟩
    obtain ⟨it1, it2⟩ := it i V H' b' ev' w' u'
    by_cases hlt : i < ds.length
    · have ei : ds[i]? = some ds[i] := List.getElem?_eq_getElem hlt
      obtain ⟨go, y⟩ := it1 _ ei
      rw [List.drop_eq_getElem_cons hlt, lcF_cons] at q'
      refine .inr ⟨go, fun H' => ∃ b' accV accD, accV.length ≤ i + 1 ∧ H' A = some (.lst accV) ∧ DenL g V H' accV accD ∧ Wd g H' b' ∧ Fr H1 H' g.p ∧ Al (fun r b => okP g U H Q (.lst (accD ++ r)) b) (exP g U E H) (lcF (fun d => nox (f d)) (ds.drop (i + 1))) b', ?_, ?_⟩
      · rintro H2 ⟨b2, av, ad, h1, h2⟩
        exact ⟨ds.length - (i + 1), by omega, b2, av, ad, rfl, hlt, h1, h2⟩
      · intro x H2 hy
        obtain ⟨dn, sm⟩ := y x H2 hy
        have w2 := w'.same sm
        have f2 : Fr H1 H2 g.p := f'.trans (fr_same sm)
        have hA2 := sm _ _ hA
        refine hf ds[i] V σ H2 b' x (fun o H4 => match o with
          | some y => ∃ acc, H4 A = some (.lst acc) ∧ acc.length < sizeLine ∧ ∃ b' accV accD, accV.length ≤ i + 1 ∧ (upd H4 A (.lst (acc ++ [y]))) A = some (.lst accV) ∧ DenL g V (upd H4 A (.lst (acc ++ [y]))) accV accD ∧ Wd g (upd H4 A (.lst (acc ++ [y]))) b' ∧ Fr H1 (upd H4 A (.lst (acc ++ [y]))) g.p ∧ Al (fun r b => okP g U H Q (.lst (accD ++ r)) b) (exP g U E H) (lcF (fun d => nox (f d)) (ds.drop (i + 1))) b'
          | none => ∃ b' accV accD, accV.length ≤ i + 1 ∧ H4 A = some (.lst accV) ∧ DenL g V H4 accV accD ∧ Wd g H4 b' ∧ Fr H1 H4 g.p ∧ Al (fun r b => okP g U H Q (.lst (accD ++ r)) b) (exP g U E H) (lcF (fun d => nox (f d)) (ds.drop (i + 1))) b')
          (rl1.frp (VU _ u.p) f2) w2 (uv f2 w2 hA2) dn ((al_noX (al_bd.mp q')).mono (fun o b2 h2 => ?_) (fun _ _ _ z => z))
        have h3 := al_bd.mp h2
        cases o with
        | some y =>
          intro w H4 dw w4 f4
          have hA4 := f4 _ _ hA2 hp (fun _ z => by cases z)
          have e4 : ExtU V H4 (upd H4 A (.lst (accV ++ [w]))) := fun a o e n _ => by
            rw [upd_ne (fun z => n (by rw [z]; exact VA))]
            exact e
          have k4 : Keep H4 (upd H4 A (.lst (accV ++ [w]))) A := fun a o e n => by rw [upd_ne n]; exact e
          refine ⟨accV, hA4, Nat.lt_of_le_of_lt hla (Nat.lt_of_lt_of_le hlt hsz), b2, accV ++ [w], accD ++ [y], ?_, upd_same, ?_, ?_, ?_, ?_⟩
          · rw [List.length_append]
            exact Nat.add_le_add_right hla 1
          · exact DenL.append ((dA.ext (extU_of (VU _ u.p) ((fr_same sm).trans f4))).ext e4) (.cons (dw.ext e4) .nil)
          · exact ⟨w4.pen.keep k4 hp hc, tabs_keepL k4 hA4 w4.tabs⟩
          · intro a o e n t
            rw [upd_ne (ne_of_none e nA)]
            exact f4 _ _ (f2 a o e n t) n t
          · exact h3.mono (fun r b h => by
              have : okP g U H Q (.lst (accD ++ (y :: r))) b := h
              rw [List.append_cons] at this
              exact this) (fun _ _ _ z => z)
        | none =>
          intro H4 w4 f4
          exact ⟨b2, accV, accD, Nat.le_succ_of_le hla, f4 _ _ hA2 hp (fun _ z => by cases z), dA.ext (extU_of (VU _ u.p) ((fr_same sm).trans f4)), w4, f2.trans f4, h3.mono (fun r b h => h) (fun _ _ _ z => z)⟩
    · have e : i = ds.length := by omega
      subst e
      rw [List.drop_length, lcF_nil] at q'
      refine .inl ⟨it2 (rfl), ?_⟩
      have q2 : okP g U H Q (.lst (accD ++ [])) b' := q'
      rw [List.append_nil] at q2
      exact q2 _ H' (.lst hA nUA (Nat.le_trans hla hsz) (dA.sub fun a _ z => VU a z)) w' (f1.trans f')
end
end Gp
end
section
set_option Elab.async false
set_option linter.all false
set_option maxRecDepth 100000
set_option maxHeartbeats 4000000
namespace Gp
open PySem PySem.Spec PyProof.Rows L2 Gh
section
variable {g : Gw} {Mt U0 U U' : Addr → Prop} {H0 H H' H1 H2 : Hp} {b b1 : Nat} {σ : L2.St} {ε ε' : Env} {E : XK} {W L W' : Type}
variable {env : W → Env} {envL : L → Env} {env' : W' → Env} {u ta tb : TS} {te : TE} {me : Tr D}
theorem sc_map {i : Nat} {d : D} (he : SE g EF (ε.set i (.fz d)) te me) : SC g ε d (gName i) tYes te [i] (bd me fun y => .ok (some y)) := fun U σ H b v Q rl wd u dn q => by
  have e1 : wipe σ [i] = σ.set i none := rfl
  rw [e1]
  show wipe ((σ.set i none).set i (some v)) [i] = _ ∧ _
  rw [List.set_set]
  refine ⟨?_, ?_⟩
  · show (σ.set i (some v)).set i none = _
    rw [List.set_set]
  · show te (σ.set i (some v)) H fun y H4 => Q (some y) H4
    refine he.step (rl.set i dn) wd u (q.mono (fun _ _ z => z) (fun _ _ _ z => exP.F z)) fun y e H2 b2 d2 w2 f2 R2 u2 q2 => ?_
    exact q2 y H2 d2 w2 f2
theorem ownAt_setO {i j : Nat} {v : V} {ds : List D} {a : Addr} (h : OwnAt (σ.set i (some v)) (ε.set i (.ow ds)) j a) : (i = j ∧ v = .ref a) ∨ (i ≠ j ∧ OwnAt σ ε j a) := by
  obtain ⟨h1, h2⟩ := h
  by_cases e : i = j
  · subst e
    rw [List.getElem?_set_self'] at h1
    cases q : σ[i]? with
    | none => rw [q] at h1; cases h1
    | some z => rw [q] at h1; cases h1; exact .inl ⟨rfl, rfl⟩
  · rw [List.getElem?_set_ne e] at h1 h2
    exact .inr ⟨e, h1, h2⟩
theorem own_new {A : Addr} {vs : List V} {ds : List D} {i : Nat} (s : Stt g Mt U0 H0 U σ H b ε) (n : H A = none) (l : vs.length ≤ sizeLine) (dn : DenL g U H vs ds) (hA : A ≠ 0 ∨ True := .inr trivial) :
    Stt g Mt U0 H0 (fun a => U a ∨ a = A) (σ.set i (some (.ref A))) (upd H A (.lst vs)) b (ε.set i (.ow ds)) ∧ Ev U H (fun a => U a ∨ a = A) (upd H A (.lst vs)) := by
  have sm := same_new (o := .lst vs) n
  have nU : ¬ U A := s.uok.new n
  have hp : A ≠ g.p := fun z => nU (z ▸ s.uok.p)
  have hc : A ≠ g.c := fun z => nU (z ▸ s.uok.c)
  have r1 : Rel g (fun a => U a ∨ a = A) (upd H A (.lst vs)) σ ε := (s.rel.grow n).frp (.inl s.uok.p) (fr_same sm)
  have sig : ∀ j a, OwnAt σ ε j a → ∃ o, H a = some o := fun j a h => by
    obtain ⟨h1, ⟨ds, h2⟩ | ⟨c, fs, h2⟩⟩ := h
    · obtain ⟨o, e, a', vs, e2, h, _⟩ := s.rel.at_ j _ h2
      rw [h1] at e
      cases e
      cases e2
      exact ⟨_, h⟩
    · obtain ⟨o, e, a', dx, fvs, e2, h, _⟩ := s.rel.at_ j _ h2
      rw [h1] at e
      cases e
      cases e2
      exact ⟨_, h⟩
  refine ⟨⟨⟨by rw [List.length_set, List.length_set]; exact r1.len, fun j x e => ?_, fun j k a ne h1 h2 => ?_⟩, s.wd.same sm, ⟨.inl s.uok.p, .inl s.uok.c, fun a ha => ?_⟩, fun a z => .inl (s.sub a z), fun j a h => ?_, s.ext.trans (fr_same sm), fun j xs a e1 e2 => ?_, fun j c fs a e1 e2 => ?_⟩, fun a o e _ _ => sm a o e, fun a o e n1 _ => ?_⟩
  · by_cases q : i = j
    · subst q
      have hl : i < ε.length := by
        cases z : ε[i]? with
        | none => rw [List.getElem?_set_self', z] at e; cases e
        | some w => exact (List.getElem?_eq_some_iff.mp z).1
      rw [List.getElem?_set_self hl] at e
      cases e
      exact ⟨_, List.getElem?_set_self (by rw [r1.len]; exact hl), A, vs, rfl, upd_same, l, (dn.grow n).ext (fun a o e _ _ => sm a o e), .inr rfl, hp, hc⟩
    · rw [List.getElem?_set_ne q] at e ⊢
      exact r1.at_ j x e
  · rcases ownAt_setO h1 with ⟨rfl, z1⟩ | ⟨n1, z1⟩ <;> rcases ownAt_setO h2 with ⟨rfl, z2⟩ | ⟨n2, z2⟩
    · exact ne rfl
    · cases z1
      obtain ⟨o, e⟩ := sig _ _ z2
      rw [n] at e
      cases e
    · cases z2
      obtain ⟨o, e⟩ := sig _ _ z1
      rw [n] at e
      cases e
    · exact s.rel.apart j k a ne z1 z2
  · rcases ha with ha | rfl
    · obtain ⟨o, e, t⟩ := s.uok.al a ha
      exact ⟨o, sm a o e, t⟩
    · exact ⟨_, upd_same, fun _ z => by cases z⟩
  · rcases ownAt_setO h with ⟨rfl, z⟩ | ⟨_, z⟩
    · cases z
      by_cases m : Mt A
      · exact .inl m
      · refine .inr fun o q => ?_
        by_cases t : ∃ ps, o = .tbl ps
        · exact t
        · have := s.ext A o q hp m (fun ps z => t ⟨ps, z⟩)
          rw [n] at this
          cases this
    · exact s.own j a z
  · by_cases q : i = j
    · subst q
      rw [List.getElem?_set_self'] at e2
      cases z : σ[i]? with
      | none => rw [z] at e2; cases e2
      | some w =>
        rw [z] at e2
        cases e2
        exact fun h => nU (s.sub _ h)
    · rw [List.getElem?_set_ne q] at e1 e2
      exact s.nu0 j xs a e1 e2
  · by_cases q : i = j
    · subst q
      cases z : ε[i]? with
      | none => rw [List.getElem?_set_self', z] at e1; cases e1
      | some w => rw [List.getElem?_set_self', z] at e1; cases e1
    · rw [List.getElem?_set_ne q] at e1 e2
      exact s.oim j c fs a e1 e2
  · rintro (z | z)
    · exact n1 z
    · exact ne_of_none e n z
def okN (g : Gw) (U : Addr → Prop) (H : Hp) (Q : VK) : List D → Nat → Prop := fun ds b => ∀ A vs H1, H1 A = none → vs.length ≤ sizeLine → DenL g U H1 vs ds → Wd g H1 b → Fr H H1 g.p → Q (.ref A) (upd H1 A (.lst vs))
def SN (g : Gw) (E : XK) (ε : Env) (t : TE) (m : Tr (List D)) : Prop := ∀ U σ H b Q, Rel g U H σ ε → Wd g H b → UOk g U H → Al (okN g U H Q) (exP g U E H) m b → t σ H Q
theorem sn_lst {t : TA} {m : Tr (List D)} (ha : SA g E ε t m) : SN g E ε (tLst t) (bd m fun ds => if ds.length ≤ sizeLine then .ok ds else .bad) := fun U σ H b Q R W u q =>
  ha.step R W u q fun v d H1 b1 d1 w1 f1 R1 u1 q1 => by
    by_cases hl : d.length ≤ sizeLine
    · rw [if_pos hl] at q1
      have hl' : v.length ≤ sizeLine := by rw [d1.length]; exact hl
      exact ⟨hl', fun p np => q1 p v H1 np hl' d1 w1 f1⟩
    · rw [if_neg hl] at q1
      exact q1.elim
theorem ss_own {i : Nat} {t : TE} {m : Tr (List D)} {k : List D → Tr (Fl W L)} (he : SN g E ε t m) (hk : ∀ ds, SS g E (ε.set i (.ow ds)) u env envL (k ds)) : SS g E ε (tSeq (tAsg t (gName i)) u) env envL (bd m k) := fun Mt U0 H0 U D σ H b s q =>
  he U σ H b _ s.rel s.wd s.uok ((al_bd.mp q).mono (fun ds b1 h1 A vs H1 n l dn w f => by
    obtain ⟨s1, e1⟩ := own_new (i := i) (s.fr f w) n l dn
    exact hk ds Mt U0 H0 _ D _ _ b1 s1 (h1.mono (fun _ _ z => z.ev ((s.uok.ev f).trans e1)) (fun _ _ _ z => z))) (fun _ _ _ h => exS.exP s h))
theorem own_mut {vs' : List V} {ds ds' : List D} {i : Nat} (s : Stt g Mt U0 H0 U σ H b ε) (hi : ε[i]? = some (.ow ds)) : ∃ a vs, σ[i]? = some (some (.ref a)) ∧ H a = some (.lst vs) ∧ vs.length ≤ sizeLine ∧ DenL g U H vs ds ∧ U a ∧ a ≠ g.p ∧ a ≠ g.c ∧
    ∀ vs' ds', vs'.length ≤ sizeLine → DenL g U H vs' ds' → Stt g Mt U0 H0 U σ (upd H a (.lst vs')) b (ε.set i (.ow ds')) ∧ Ev U H U (upd H a (.lst vs')) := by
  obtain ⟨o, eo, a, vs, rfl, h, l, dn, ua, n1, n2⟩ := s.rel.at_ i _ hi
  refine ⟨a, vs, eo, h, l, dn, ua, n1, n2, fun vs' ds' l' dn' => ?_⟩
  have kp : Keep H (upd H a (.lst vs')) a := fun x o e ne => by rw [upd_ne ne]; exact e
  have xt : ExtU U H (upd H a (.lst vs')) := fun x o e ne _ => kp x o e (fun z => ne (z ▸ ua))
  have il : i < ε.length := (List.getElem?_eq_some_iff.mp hi).1
  have ow : ∀ j x, OwnAt σ (ε.set i (.ow ds')) j x → OwnAt σ ε j x := fun j x z => by
    obtain ⟨z1, z2⟩ := z
    by_cases q : i = j
    · subst q
      exact ⟨z1, .inl ⟨ds, hi⟩⟩
    · rw [List.getElem?_set_ne q] at z2
      exact ⟨z1, z2⟩
  have apart : ∀ j x, i ≠ j → OwnAt σ ε j x → x ≠ a := fun j x ne z e => by
    subst e
    exact s.rel.apart i j x ne ⟨eo, .inl ⟨ds, hi⟩⟩ z
  refine ⟨⟨⟨by rw [List.length_set]; exact s.rel.len, fun j x e => ?_, fun j k x ne z1 z2 => s.rel.apart j k x ne (ow _ _ z1) (ow _ _ z2)⟩, ⟨s.wd.pen.keep kp n1 n2, tabs_keepL kp h s.wd.tabs⟩, ⟨s.uok.p, s.uok.c, fun x hx => ?_⟩, s.sub, fun j x z => s.own j x (ow _ _ z), fun x o e m1 m2 m3 => ?_, fun j xs x e1 e2 => ?_, fun j c fs x e1 e2 => ?_⟩, xt, fun _ _ _ n _ => n⟩
  · by_cases q : i = j
    · subst q
      rw [List.getElem?_set_self il] at e
      cases e
      exact ⟨_, eo, a, vs', rfl, upd_same, l', dn'.ext xt, ua, n1, n2⟩
    · rw [List.getElem?_set_ne q] at e
      obtain ⟨o, e1, e2⟩ := s.rel.at_ j x e
      refine ⟨o, e1, ?_⟩
      cases x with
      | no => trivial
      | fz d =>
        obtain ⟨v, e3, e4⟩ := e2
        exact ⟨v, e3, e4.ext xt⟩
      | ow ds2 =>
        obtain ⟨a2, v2, rfl, h2, l2, d2, u2, m1, m2⟩ := e2
        have ne := apart j a2 q ⟨e1, .inl ⟨ds2, e⟩⟩
        exact ⟨a2, v2, rfl, kp _ _ h2 ne, l2, d2.ext xt, u2, m1, m2⟩
      | oi c fs =>
        obtain ⟨a2, dx, v2, rfl, h2, d2, u2, m1, m2⟩ := e2
        have ne := apart j a2 q ⟨e1, .inr ⟨c, fs, e⟩⟩
        exact ⟨a2, dx, v2, rfl, kp _ _ h2 ne, d2.ext xt, u2, m1, m2⟩
  · by_cases q : x = a
    · subst q
      exact ⟨_, upd_same, fun _ z => by cases z⟩
    · obtain ⟨o, e, t⟩ := s.uok.al x hx
      exact ⟨o, kp x o e q, t⟩
  · have q : x ≠ a := fun z => by
      subst z
      rcases s.own i x ⟨eo, .inl ⟨ds, hi⟩⟩ with w | w
      · exact m2 w
      · obtain ⟨ps, z⟩ := w o e
        exact m3 ps z
    exact kp x o (s.ext x o e m1 m2 m3) q
  · by_cases q : i = j
    · subst q
      exact s.nu0 i ds x hi e2
    · rw [List.getElem?_set_ne q] at e1
      exact s.nu0 j xs x e1 e2
  · by_cases q : i = j
    · subst q
      rw [List.getElem?_set_self il] at e1
      cases e1
    · rw [List.getElem?_set_ne q] at e1
      exact s.oim j c fs x e1 e2
theorem ss_app {i : Nat} {ds : List D} {k : D → Tr (Fl W L)} (he : SE g E ε te me) (hk : ∀ d, SS g E (ε.set i (.ow (ds ++ [d]))) u env envL (k d)) (hi : ε[i]? = some (.ow ds) := by rfl) :
    SS g E ε (tSeq (tDrop (tBM g.K "list" rAppend (tVar i) (tCons te tNil))) u) env envL (bd me fun d => if ds.length < sizeLine then k d else .bad) := fun Mt U0 H0 U D σ H b s q => by
  obtain ⟨a, vs, e1, h1, l1, d1, ua, n1, n2, _⟩ := own_mut (vs' := []) (ds' := []) s hi
  refine ⟨.ref a, e1, .inl ⟨rfl, vs, SqL.of h1⟩, ?_⟩
  refine he.sstep s q fun v d H1 b1 dv s1 q1 => ?_
  obtain ⟨a', vs', e2, h2, l2, d2, _, _, _, mt⟩ := own_mut (vs' := []) (ds' := []) s1 hi
  rw [e1] at e2
  cases e2
  by_cases hl : ds.length < sizeLine
  · rw [if_pos hl] at q1
    have hl2 : vs'.length < sizeLine := by rw [d2.length]; exact hl
    obtain ⟨s2, ev⟩ := mt (vs' ++ [v]) (ds ++ [d]) (by rw [List.length_append]; exact hl2) (d2.append (.cons dv .nil))
    exact ⟨a, vs', v, rfl, rfl, h2, hl2, hk d Mt U0 H0 U D σ _ b1 s2 (q1.mono (fun _ _ z => z.ev ev) (fun _ _ _ z => z))⟩
  · rw [if_neg hl] at q1
    exact q1.elim
theorem ss_fz {i : Nat} {ds : List D} {m : Tr (Fl W L)} (hi : ε[i]? = some (.ow ds)) (h : SS g E (ε.set i (.fz (.lst ds))) u env envL m) : SS g E ε u env envL m := fun Mt U0 H0 U D σ H b s q => by
  obtain ⟨a, vs, e1, h1, l1, d1, ua, n1, n2, _⟩ := own_mut (vs' := []) (ds' := []) s hi
  have il : i < ε.length := (List.getElem?_eq_some_iff.mp hi).1
  have sub : ∀ x, (∃ o, H x = some o) → (U x ∧ x ≠ a) → U x := fun x _ z => z.1
  have ow : ∀ j x, OwnAt σ (ε.set i (.fz (.lst ds))) j x → i ≠ j ∧ OwnAt σ ε j x := fun j x z => by
    obtain ⟨z1, z2⟩ := z
    by_cases q : i = j
    · subst q
      exfalso
      rcases z2 with ⟨y, z2⟩ | ⟨y1, y2, z2⟩
      · rw [List.getElem?_set_self il] at z2
        cases z2
      · rw [List.getElem?_set_self il] at z2
        cases z2
    · rw [List.getElem?_set_ne q] at z2
      exact ⟨q, z1, z2⟩
  have apart : ∀ j x, i ≠ j → OwnAt σ ε j x → x ≠ a := fun j x ne z e => by
    subst e
    exact s.rel.apart i j x ne ⟨e1, .inl ⟨ds, hi⟩⟩ z
  have ev : Ev U H (fun x => U x ∧ x ≠ a) H := ⟨fun _ _ e _ _ => e, fun _ _ _ n _ z => n z.1⟩
  refine h Mt U0 H0 (fun x => U x ∧ x ≠ a) D σ H b ⟨⟨by rw [List.length_set]; exact s.rel.len, fun j x e => ?_, fun j k x ne z1 z2 => s.rel.apart j k x ne (ow _ _ z1).2 (ow _ _ z2).2⟩, s.wd, ⟨⟨s.uok.p, n1.symm⟩, ⟨s.uok.c, n2.symm⟩, fun x hx => s.uok.al x hx.1⟩, fun x z => ⟨s.sub x z, fun e => s.nu0 i ds x hi (by rw [e1, e]) z⟩, fun j x z => s.own j x (ow _ _ z).2, s.ext, fun j xs x z1 z2 => ?_, fun j c fs x z1 z2 => ?_⟩ (q.mono (fun _ _ z => z.ev ev) (fun _ _ _ z => z))
  · by_cases q : i = j
    · subst q
      rw [List.getElem?_set_self il] at e
      cases e
      exact ⟨_, e1, _, rfl, .lst h1 (fun z => z.2 rfl) l1 (d1.sub sub)⟩
    · rw [List.getElem?_set_ne q] at e
      obtain ⟨o, e3, e2⟩ := s.rel.at_ j x e
      refine ⟨o, e3, ?_⟩
      cases x with
      | no => trivial
      | fz d =>
        obtain ⟨v, e4, e5⟩ := e2
        exact ⟨v, e4, e5.sub sub⟩
      | ow ds2 =>
        obtain ⟨a2, v2, rfl, h2, l2, d2, u2, m1, m2⟩ := e2
        have ne := apart j a2 q ⟨e3, .inl ⟨ds2, e⟩⟩
        exact ⟨a2, v2, rfl, h2, l2, d2.sub sub, ⟨u2, ne⟩, m1, m2⟩
      | oi c fs =>
        obtain ⟨a2, dx, v2, rfl, h2, d2, u2, m1, m2⟩ := e2
        have ne := apart j a2 q ⟨e3, .inr ⟨c, fs, e⟩⟩
        exact ⟨a2, dx, v2, rfl, h2, d2.sub sub, ⟨u2, ne⟩, m1, m2⟩
  · obtain ⟨q, _, z3⟩ := ow j x ⟨z2, .inl ⟨xs, z1⟩⟩
    rw [List.getElem?_set_ne q] at z1
    exact s.nu0 j xs x z1 z2
  · by_cases q : i = j
    · subst q
      rw [List.getElem?_set_self il] at z1
      cases z1
    · rw [List.getElem?_set_ne q] at z1
      exact s.oim j c fs x z1 z2
end
end Gp
end
section
set_option Elab.async false
set_option linter.all false
set_option maxRecDepth 100000
set_option maxHeartbeats 4000000
namespace Gp
open PySem PySem.Spec PyProof.Rows L2 Gh
section
variable {g : Gw} {Mt U0 U U' : Addr → Prop} {H0 H H' H1 H2 : Hp} {b b1 : Nat} {σ : L2.St} {ε ε' : Env} {E : XK} {W L W' : Type}
variable {env : W → Env} {envL : L → Env} {env' : W' → Env} {u ta tb : TS} {te : TE} {me : Tr D}
def spF (K : PySem.W.Frag) (T : List (Addr × Str)) (F : List D → Tr D) : Sp := fun vs H Q E => ∃ p c U ds b, DenL ⟨K, T, p, c⟩ U H vs ds ∧ Wd ⟨K, T, p, c⟩ H b ∧ UOk ⟨K, T, p, c⟩ U H ∧ Al (okP ⟨K, T, p, c⟩ U H Q) (exP ⟨K, T, p, c⟩ U E H) (F ds) b
def envE : Empty → Env := fun e => nomatch e
theorem rel_start {N : List Str} {vs : List V} {ds : List D} (h : DenL g U H vs ds) : Rel g U H (L2.start N vs) (ds.map Sl.fz ++ List.replicate (N.length - ds.length) Sl.no) := by
  have no : ∀ i a, ¬ OwnAt (L2.start N vs) (ds.map Sl.fz ++ List.replicate (N.length - ds.length) Sl.no) i a := fun i a ⟨_, z⟩ => by
    have : ∀ s : Sl, (ds.map Sl.fz ++ List.replicate (N.length - ds.length) Sl.no)[i]? = some s → (∃ d, s = .fz d) ∨ s = .no := fun s e => by
      have m := List.mem_of_getElem? e
      rcases List.mem_append.mp m with m | m
      · obtain ⟨d, _, e⟩ := List.mem_map.mp m
        exact .inl ⟨d, e.symm⟩
      · exact .inr (List.mem_replicate.mp m).2
    rcases z with ⟨x, z⟩ | ⟨x, y, z⟩
    · rcases this _ z with ⟨d, e⟩ | e <;> cases e
    · rcases this _ z with ⟨d, e⟩ | e <;> cases e
  have hl := h.length
  refine ⟨?_, fun i s e => ?_, fun i j a _ h1 _ => (no i a h1).elim⟩
  · unfold L2.start
    simp only [List.length_append, List.length_map, List.length_replicate, hl]
  · unfold L2.start
    by_cases q : i < ds.length
    · rw [List.getElem?_append_left (by rw [List.length_map]; exact q), List.getElem?_map] at e
      rw [List.getElem?_append_left (by rw [List.length_map, hl]; exact q), List.getElem?_map]
      cases z : ds[i]? with
      | none => rw [z] at e; cases e
      | some d =>
        rw [z] at e
        cases e
        obtain ⟨v, hv, dn⟩ := h.getD z
        rw [hv]
        exact ⟨some v, rfl, v, rfl, dn⟩
    · rw [List.getElem?_append_right (by rw [List.length_map]; omega), List.length_map] at e
      rw [List.getElem?_append_right (by rw [List.length_map, hl]; omega), List.length_map, hl]
      have m := List.mem_of_getElem? e
      obtain ⟨n0, rfl⟩ := List.mem_replicate.mp m
      have i1 := (List.getElem?_eq_some_iff.mp e).1
      rw [List.length_replicate] at i1
      exact ⟨none, by rw [List.getElem?_replicate, if_pos i1], trivial⟩
theorem fn_of {K : PySem.W.Frag} {T : List (Addr × Str)} {N : List Str} {F : List D → Tr D} {vs : List V} {Q : VK} {t : TS} {envU : Unit → Env} (h : spF K T F vs H Q E)
    (hs : ∀ p c ds, (∃ (P : D → Nat → Prop) (X : Str → Fs → Nat → Prop) (b : Nat), Al P X (F ds) b) → ∃ m, F ds = fin m ∧ SS ⟨K, T, p, c⟩ E (ds.map Sl.fz ++ List.replicate (N.length - ds.length) Sl.no) t envU envE m) : t { nx := fun _ H' => Q .non H', rt := Q } (L2.start N vs) H := by
  obtain ⟨p, c, U, ds, b, dn, wd, u, al⟩ := h
  obtain ⟨m, e, ss⟩ := hs p c ds ⟨_, _, _, al⟩
  rw [e] at al
  have nn : ∀ i a, ¬ OwnAt (L2.start N vs) (ds.map Sl.fz ++ List.replicate (N.length - ds.length) Sl.no) i a := fun i a ⟨_, z⟩ => by
    have : ∀ s : Sl, (ds.map Sl.fz ++ List.replicate (N.length - ds.length) Sl.no)[i]? = some s → (∃ d, s = .fz d) ∨ s = .no := fun s e => by
      have m := List.mem_of_getElem? e
      rcases List.mem_append.mp m with m | m
      · obtain ⟨d, _, e⟩ := List.mem_map.mp m
        exact .inl ⟨d, e.symm⟩
      · exact .inr (List.mem_replicate.mp m).2
    rcases z with ⟨x, z⟩ | ⟨x, y, z⟩
    · rcases this _ z with ⟨d, e⟩ | e <;> cases e
    · rcases this _ z with ⟨d, e⟩ | e <;> cases e
  refine ss (fun _ => False) U H U _ _ H b ⟨rel_start dn, wd, u, fun _ z => z, fun i a z => (nn i a z).elim, fun _ _ z _ _ _ => z, fun i ds' a z1 z2 => (nn i a ⟨z2, .inl ⟨ds', z1⟩⟩).elim, fun i c fs a z1 z2 => (nn i a ⟨z2, .inr ⟨c, fs, z1⟩⟩).elim⟩ ((al_bd.mp al).mono (fun f b1 h1 => ?_) (fun c fs b1 h1 => ?_))
  · cases f with
    | nx w => exact fun U' σ' H' e s => h1 .non H' .non s.wd fun a o z1 z2 z3 => s.ext a o z1 z2 (fun z => z) z3
    | rt d => exact fun v H' dn w f => h1 v H' dn w fun a o z1 z2 z3 => f a o z1 z2 (fun z => z) z3
    | bk e => exact nomatch e
    | ct e => exact nomatch e
  · exact fun dd fvs H' z1 z2 z3 z4 z5 => h1 dd fvs H' z1 z2 z3 z4 fun a o y1 y2 y3 => z5 a o y1 y2 (fun z => z) y3
theorem le_no : ∀ (ε : Env) {n : Nat}, ε.length = n → Le (List.replicate n Sl.no) ε
  | [], _, rfl => .nil
  | x :: r, _, rfl => by
    show Le (List.replicate (r.length + 1) Sl.no) (x :: r)
    rw [List.replicate_succ]
    exact .n (le_no r rfl)
theorem fn_of1 {K : PySem.W.Frag} {T : List (Addr × Str)} {N : List Str} {F : D → Tr D} {vs : List V} {Q : VK} {t : TS} {envU : Unit → Env} {m : D → Tr (Fl Unit Empty)} (h : spF K T (ul1 F) vs H Q E) (hF : ∀ x, F x = fin (m x)) (hs : ∀ p c x, SS ⟨K, T, p, c⟩ E ([x].map Sl.fz ++ List.replicate (N.length - 1) Sl.no) t envU envE (m x)) : t { nx := fun _ H' => Q .non H', rt := Q } (L2.start N vs) H :=
  fn_of h fun p c ds ⟨_, _, _, al⟩ => by
    obtain ⟨x, rfl, _⟩ := al_ul1 al
    exact ⟨m x, hF x, hs p c x⟩
theorem fn_of2 {K : PySem.W.Frag} {T : List (Addr × Str)} {N : List Str} {F : D → D → Tr D} {vs : List V} {Q : VK} {t : TS} {envU : Unit → Env} {m : D → D → Tr (Fl Unit Empty)} (h : spF K T (ul2 F) vs H Q E) (hF : ∀ x y, F x y = fin (m x y)) (hs : ∀ p c x y, SS ⟨K, T, p, c⟩ E ([x, y].map Sl.fz ++ List.replicate (N.length - 2) Sl.no) t envU envE (m x y)) : t { nx := fun _ H' => Q .non H', rt := Q } (L2.start N vs) H :=
  fn_of h fun p c ds ⟨_, _, _, al⟩ => by
    obtain ⟨x, y, rfl, _⟩ := al_ul2 al
    exact ⟨m x y, hF x y, hs p c x y⟩
theorem fn_of3 {K : PySem.W.Frag} {T : List (Addr × Str)} {N : List Str} {F : D → D → D → Tr D} {vs : List V} {Q : VK} {t : TS} {envU : Unit → Env} {m : D → D → D → Tr (Fl Unit Empty)} (h : spF K T (ul3 F) vs H Q E) (hF : ∀ x y z, F x y z = fin (m x y z)) (hs : ∀ p c x y z, SS ⟨K, T, p, c⟩ E ([x, y, z].map Sl.fz ++ List.replicate (N.length - 3) Sl.no) t envU envE (m x y z)) : t { nx := fun _ H' => Q .non H', rt := Q } (L2.start N vs) H :=
  fn_of h fun p c ds ⟨_, _, _, al⟩ => by
    obtain ⟨x, y, z, rfl, _⟩ := al_ul3 al
    exact ⟨m x y z, hF x y z, hs p c x y z⟩
theorem spF_len {K : PySem.W.Frag} {T : List (Addr × Str)} {F : List D → Tr D} {n : Nat} (hn : ∀ (P : D → Nat → Prop) (X : Str → Fs → Nat → Prop) ds b, Al P X (F ds) b → ds.length = n) {vs : List V} {Q : VK} (h : spF K T F vs H Q E) : vs.length = n := by
  obtain ⟨p, c, U, ds, b, dn, wd, u, al⟩ := h
  rw [dn.length]
  exact hn _ _ _ _ al
theorem len1 {F : D → Tr D} (P : D → Nat → Prop) (X : Str → Fs → Nat → Prop) (ds : List D) (b : Nat) (h : Al P X (ul1 F ds) b) : ds.length = 1 := by obtain ⟨_, rfl, _⟩ := al_ul1 h; rfl
theorem len2 {F : D → D → Tr D} (P : D → Nat → Prop) (X : Str → Fs → Nat → Prop) (ds : List D) (b : Nat) (h : Al P X (ul2 F ds) b) : ds.length = 2 := by obtain ⟨_, _, rfl, _⟩ := al_ul2 h; rfl
theorem len3 {F : D → D → D → Tr D} (P : D → Nat → Prop) (X : Str → Fs → Nat → Prop) (ds : List D) (b : Nat) (h : Al P X (ul3 F ds) b) : ds.length = 3 := by obtain ⟨_, _, _, rfl, _⟩ := al_ul3 h; rfl
theorem srl_sp0 {F : List D → Tr D} : SRL g E (rSp (spF g.K g.T F) [] E) F := fun U H b xs dxs Q dn wd u q =>
  ⟨g.p, g.c, U, dxs, b, by rw [List.append_nil]; exact dn, wd, u, q⟩
theorem al_isO {α : Type} {P : α → Nat → Prop} {X : Str → Fs → Nat → Prop} {c : Str} {o : D} {k : Fs → Tr α} (h : Al P X (isO c o k) b) : ∃ fs, o = .obj c fs ∧ Al P X (k fs) b := by
  unfold isO at h
  split at h
  · split at h
    · rename_i e
      subst e
      exact ⟨_, rfl, h⟩
    · exact h.elim
  · exact h.elim
theorem den_obj {v : V} {c : Str} {fs : Fs} (h : Den g U H v (.obj c fs)) : ∃ a dx fvs, v = .ref a ∧ H a = some (.ins (gd c g.K) dx fvs) ∧ ¬ U a ∧ DenF g U H fvs fs := by
  cases h with
  | obj h n k => exact ⟨_, _, _, rfl, h, n, k⟩
theorem se_mt {c m : Str} {r : List V → Hp → VK → Prop} {f : List D → Tr D} {ta : TE} {ma : Tr D} {t : TA} {mt : Tr (List D)} (hr : SRL g E r f) (ha : SE g E ε ta ma) (ht : SA g E ε t mt) :
    SE g E ε (tMt (gd c g.K) m r ta t) (bd ma fun o => isO c o fun fs => if fs.lookup m = none then bd mt fun ds => f (o :: ds) else .bad) := fun U σ H b Q R W u q =>
  ha.step R W u q fun v d H1 b1 d1 w1 f1 R1 u1 q1 => by
    obtain ⟨fs, rfl, q2⟩ := al_isO q1
    obtain ⟨a, dx, fvs, rfl, ea, na, df⟩ := den_obj d1
    by_cases hl : fs.lookup m = none
    · rw [if_pos hl] at q2
      refine ⟨a, dx, fvs, rfl, ea, df.look0 hl, ?_⟩
      refine ht.step R1 w1 u1 q2 fun vs ds H2 b2 d2 w2 f2 R2 u2 q3 => ?_
      exact hr U H2 b2 _ _ Q (.cons (d1.fr u1 f2) d2) w2 u2 (q3.mono (fun _ _ h => h.fr (f1.trans f2)) (fun _ _ _ h => h))
    · rw [if_neg hl] at q2
      exact q2.elim
theorem se_pr {c : Str} {F : List D → Tr D} {ta : TE} {ma : Tr D} (ha : SE g EF ε ta ma) : SE g EF ε (tPr (gd c g.K) (spF g.K g.T F) [] EF ta) (bd ma fun o => isO c o fun _ => F [o]) := fun U σ H b Q R W u q =>
  ha.step R W u q fun v d H1 b1 d1 w1 f1 R1 u1 q1 => by
    obtain ⟨fs, rfl, q2⟩ := al_isO q1
    obtain ⟨a, dx, fvs, rfl, ea, na, df⟩ := den_obj d1
    exact ⟨a, dx, fvs, rfl, ea, g.p, g.c, U, [.obj c fs], b1, .cons d1 .nil, w1, u1, q2.mono (fun _ _ h => h.fr f1) (fun _ _ _ h => h)⟩
def fldD (c f : Str) (o : D) : Tr D := isO c o fun fs => match fs.lookup f with
  | some d => .ok d
  | none => .bad
theorem sr_fld {c f : Str} : SR1 g E (rFld (gd c g.K) f) (fldD c f) := fun U H b x dx Q dn wd u q => by
  obtain ⟨fs, rfl, q2⟩ := al_isO q
  obtain ⟨a, dx, fvs, rfl, ea, na, df⟩ := den_obj dn
  cases e : fs.lookup f with
  | none => rw [e] at q2; exact q2.elim
  | some d =>
    rw [e] at q2
    obtain ⟨v, hv, d1⟩ := df.look e
    exact st_fld ea hv (okP.here q2 wd d1)
def spI (K : PySem.W.Frag) (T : List (Addr × Str)) (cn : Str) (F : Fs → List D → Tr Fs) : Sp := fun vs H Q E => ∃ p c U ds b x dx fvs fs rest, vs = .ref x :: rest ∧ H x = some (.ins (gd cn K) dx fvs) ∧ DenF ⟨K, T, p, c⟩ U H fvs fs ∧ U x ∧ x ≠ p ∧ x ≠ c ∧ DenL ⟨K, T, p, c⟩ U H rest ds ∧
  Wd ⟨K, T, p, c⟩ H b ∧ UOk ⟨K, T, p, c⟩ U H ∧ Al (fun fs' b' => ∀ dx' fvs' H', H' x = some (.ins (gd cn K) dx' fvs') → DenF ⟨K, T, p, c⟩ U H' fvs' fs' → Wd ⟨K, T, p, c⟩ H' b' → FrM ⟨K, T, p, c⟩ (· = x) H H' → Q .non H')
    (fun cn fs b => ∀ dd fvs H', H' dd = some (.xd fvs) → ¬ U dd → DenF ⟨K, T, p, c⟩ U H' fvs fs → Wd ⟨K, T, p, c⟩ H' b → FrM ⟨K, T, p, c⟩ (· = x) H H' → E (.ref (gd cn K)) (some dd) H') (F fs ds) b
theorem srl_mk {cn : Str} {F : Fs → List D → Tr Fs} {dvs : List V} {dds : List D} (hd : ∀ U H, DenL g U H dvs dds) : SRL g E (rMk (gd cn g.K) (spI g.K g.T cn F) dvs E) (fun ds => bd (F [] (ds ++ dds)) fun fs => .ok (.obj cn fs)) := fun U H b xs dxs Q dn wd u q => by
  unfold rMk
  intro x dx nx ndx ne
  have s1 : L2.Same H (upd (upd H dx (.own x)) x (.ins (gd cn g.K) dx [])) := fun a o e => by
    rw [upd_ne (ne_of_none e nx), upd_ne (ne_of_none e ndx)]
    exact e
  have nU : ¬ U x := u.new nx
  have hp : x ≠ g.p := fun z => nU (z ▸ u.p)
  have hc : x ≠ g.c := fun z => nU (z ▸ u.c)
  have sx : ∀ a, (∃ o, H a = some o) → (U a ∨ a = x) → U a := fun a ⟨o, e⟩ z => z.elim (fun z => z) (fun z => (ne_of_none e nx z).elim)
  have k1 : DenL g (fun a => U a ∨ a = x) (upd (upd H dx (.own x)) x (.ins (gd cn g.K) dx [])) (xs ++ dvs) (dxs ++ dds) := ((dn.append (hd U H)).grow nx).ext (fun a o e _ _ => s1 a o e)
  have k2 : UOk g (fun a => U a ∨ a = x) (upd (upd H dx (.own x)) x (.ins (gd cn g.K) dx [])) := ⟨.inl u.p, .inl u.c, fun a ha => by
    rcases ha with ha | rfl
    · obtain ⟨o, e, t⟩ := u.al a ha
      exact ⟨o, s1 a o e, t⟩
    · exact ⟨_, upd_same, fun _ z => by cases z⟩⟩
  have fr : ∀ {H' : Hp}, FrM g (· = x) (upd (upd H dx (.own x)) x (.ins (gd cn g.K) dx [])) H' → Fr H H' g.p := fun f1 a o e n t => f1 a o (s1 a o e) n (fun z => ne_of_none e nx z) t
  exact ⟨g.p, g.c, fun a => U a ∨ a = x, dxs ++ dds, b, x, dx, [], [], xs ++ dvs, rfl, upd_same, .nil, .inr rfl, hp, hc, k1, wd.same s1, k2,
    (al_bd.mp q).mono (fun fs b1 h1 dx' fvs' H' e1 d1 w1 f1 => ⟨rfl, h1 _ H' (.obj e1 nU (d1.sub fun a _ z => .inl z)) w1 (fr f1)⟩) (fun c fs b1 h1 dd fvs H' e1 n1 d1 w1 f1 => h1 dd fvs H' e1 (fun z => n1 (.inl z)) (d1.sub fun a _ z => .inl z) w1 (fr f1))⟩
theorem srl_mk0 {cn : Str} {F : Fs → List D → Tr Fs} : SRL g E (rMk (gd cn g.K) (spI g.K g.T cn F) [] E) (fun ds => bd (F [] ds) fun fs => .ok (.obj cn fs)) := by
  have h := srl_mk (g := g) (E := E) (cn := cn) (F := F) (dvs := []) (dds := []) (fun _ _ => .nil)
  intro U H b xs dxs Q dn wd u q
  refine h U H b xs dxs Q dn wd u ?_
  show Al _ _ (bd (F [] (dxs ++ [])) _) b
  rw [List.append_nil]
  exact q
def finI (m : Tr (Fl Fs Empty)) : Tr Fs := bd m fun f => match f with
  | .nx fs => .ok fs
  | .rt _ => .bad
  | .bk e => nomatch e
  | .ct e => nomatch e
theorem ini_of {K : PySem.W.Frag} {T : List (Addr × Str)} {N : List Str} {cn : Str} {F : Fs → List D → Tr Fs} {vs : List V} {Q : VK} {t : TS} {envI : Fs → Env} (h : spI K T cn F vs H Q E)
    (hs : ∀ p c fs ds, (∃ (P : Fs → Nat → Prop) (X : Str → Fs → Nat → Prop) (b : Nat), Al P X (F fs ds) b) → ∃ m, F fs ds = finI m ∧ SS ⟨K, T, p, c⟩ E (.oi cn fs :: (ds.map Sl.fz ++ List.replicate (N.length - (ds.length + 1)) Sl.no)) t envI envE m)
    (he : ∀ fs, (envI fs)[0]? = some (.oi cn fs)) : t { nx := fun _ H' => Q .non H', rt := Q } (L2.start N vs) H := by
  obtain ⟨p, c, U, ds, b, x, dx, fvs, fs, rest, rfl, hx, df, ux, np, nc, dn, wd, u, al⟩ := h
  obtain ⟨m, e, ss⟩ := hs p c fs ds ⟨_, _, _, al⟩
  rw [e] at al
  have st0 : L2.start N (.ref x :: rest) = some (.ref x) :: (rest.map some ++ List.replicate (N.length - (rest.length + 1)) none) := rfl
  have r1 : Rel ⟨K, T, p, c⟩ U H (rest.map some ++ List.replicate (N.length - (rest.length + 1)) none) (ds.map Sl.fz ++ List.replicate (N.length - (ds.length + 1)) Sl.no) := by
    have z := rel_start (g := ⟨K, T, p, c⟩) (N := N.drop 1) dn
    unfold L2.start at z
    rw [List.length_drop, Nat.sub_sub, Nat.sub_sub, Nat.add_comm 1, Nat.add_comm 1] at z
    exact z
  have nn : ∀ i a, ¬ OwnAt (rest.map some ++ List.replicate (N.length - (rest.length + 1)) none) (ds.map Sl.fz ++ List.replicate (N.length - (ds.length + 1)) Sl.no) i a := fun i a ⟨_, z⟩ => by
    have : ∀ s : Sl, (ds.map Sl.fz ++ List.replicate (N.length - (ds.length + 1)) Sl.no)[i]? = some s → (∃ d, s = .fz d) ∨ s = .no := fun s e => by
      have m := List.mem_of_getElem? e
      rcases List.mem_append.mp m with m | m
      · obtain ⟨d, _, e⟩ := List.mem_map.mp m
        exact .inl ⟨d, e.symm⟩
      · exact .inr (List.mem_replicate.mp m).2
    rcases z with ⟨x, z⟩ | ⟨x, y, z⟩
    · rcases this _ z with ⟨d, e⟩ | e <;> cases e
    · rcases this _ z with ⟨d, e⟩ | e <;> cases e
  have own : ∀ i a, OwnAt (L2.start N (.ref x :: rest)) (.oi cn fs :: (ds.map Sl.fz ++ List.replicate (N.length - (ds.length + 1)) Sl.no)) i a → i = 0 ∧ a = x := fun i a z => by
    rw [st0] at z
    obtain ⟨z1, z2⟩ := z
    cases i with
    | zero =>
      rw [List.getElem?_cons_zero] at z1
      cases z1
      exact ⟨rfl, rfl⟩
    | succ i =>
      rw [List.getElem?_cons_succ] at z1
      rw [List.getElem?_cons_succ] at z2
      exact (nn i a ⟨z1, z2⟩).elim
  refine ss (· = x) U H U _ _ H b ⟨⟨?_, fun i s e => ?_, fun i j a ne h1 h2 => ?_⟩, wd, u, fun _ z => z, fun i a z => .inl (own i a z).2, fun _ _ z _ _ _ => z, fun i ds' a z1 z2 => ?_, fun i c' fs' a z1 z2 => (own i a ⟨z2, .inr ⟨c', fs', z1⟩⟩).2⟩ ((al_bd.mp al).mono (fun f b1 h1 => ?_) (fun c fs b1 h1 => ?_))
  · rw [st0, List.length_cons, List.length_cons, r1.len]
  · rw [st0]
    cases i with
    | zero =>
      rw [List.getElem?_cons_zero] at e
      cases e
      exact ⟨_, rfl, x, dx, fvs, rfl, hx, df, ux, np, nc⟩
    | succ i =>
      rw [List.getElem?_cons_succ] at e
      rw [List.getElem?_cons_succ]
      exact r1.at_ i s e
  · exact ne ((own _ _ h1).1.trans (own _ _ h2).1.symm)
  · obtain ⟨rfl, _⟩ := own i a ⟨z2, .inl ⟨ds', z1⟩⟩
    cases z1
  · cases f with
    | nx w =>
      intro U' σ' H' ev s
      obtain ⟨o, e1, a, dx', fvs', rfl, ha, da, ua, _, _⟩ := s.rel.at_ 0 _ (he w)
      have ea := s.oim 0 cn w a (he w) e1
      subst ea
      exact h1 dx' fvs' H' ha (da.sub fun z _ y => s.sub z y) s.wd s.ext
    | rt d => exact h1.elim
    | bk e => exact nomatch e
    | ct e => exact nomatch e
  · exact fun dd fvs H' z1 z2 z3 z4 z5 => h1 dd fvs H' z1 z2 z3 z4 z5
end
end Gp
end
section
set_option Elab.async false
set_option linter.all false
set_option maxRecDepth 100000
set_option maxHeartbeats 4000000
namespace Gp
open PySem PySem.Spec PyProof.Rows L2 Gh
section
variable {g : Gw} {U : Addr → Prop} {H H' H1 : Hp} {b : Nat} {E : XK} {Q : VK}
theorem denL_dp {K : PySem.W.Frag} : ∀ {vs : List V} {ds : List D} {es : List PyData}, DenL g U H vs ds → (∀ d ∈ ds, ∀ v e, Den g U H v d → toPy d = some e → Dp g.K H v e) → toPyL ds = some es → DpAll g.K H vs es
  | _, _, _, .nil, _, h => by cases h; exact .nil
  | _, d :: ds, es, .cons a r, ih, h => by
    unfold toPyL at h
    cases e1 : toPy d with
    | none => rw [e1] at h; cases h
    | some e =>
      cases e2 : toPyL ds with
      | none => rw [e1, e2] at h; cases h
      | some es' =>
        rw [e1, e2] at h
        cases h
        exact .cons (ih d List.mem_cons_self _ _ a e1) (denL_dp (K := K) r (fun d hd => ih d (List.mem_cons_of_mem _ hd)) e2)
theorem den_dp : ∀ (d : D) {v : V} {e : PyData}, Den g U H v d → toPy d = some e → Dp g.K H v e
  | .non, _, _, h, z => by cases h; cases z; exact .non
  | .bl b, _, _, h, z => by cases h; cases z; exact .bl b
  | .int i, _, _, h, z => by cases h; cases z; exact .int i
  | .str x, _, _, h, z => by cases h; cases z; exact .str x
  | .tup ds, v, e, h, z => by
    unfold toPy at z
    cases q : toPyL ds with
    | none => rw [q] at z; cases z
    | some es =>
      rw [q] at z
      cases z
      obtain ⟨a, vs, rfl, sq, _, k⟩ := den_tup h
      exact .tup sq (denL_dp (K := g.K) k (fun d hd v e h1 h2 => den_dp d h1 h2) q)
  | .lst ds, v, e, h, z => by
    unfold toPy at z
    cases q : toPyL ds with
    | none => rw [q] at z; cases z
    | some es =>
      rw [q] at z
      cases z
      obtain ⟨a, vs, rfl, hh, _, _, k⟩ := den_lst h
      exact .lst (SqL.of hh) (denL_dp (K := g.K) k (fun d hd v e h1 h2 => den_dp d h1 h2) q)
  | .obj _ _, _, _, _, z => by cases z
  | .err _ _, _, _, _, z => by cases z
  | .pen, _, _, _, z => by cases z
theorem new_lst {vs : List V} {ds : List D} (q : okP g U H Q (.lst ds) b) (w : Wd g H b) (u : UOk g U H) (l : vs.length ≤ sizeLine) (dn : DenL g U H vs ds) : ∀ p, H p = none → Q (.ref p) (upd H p (.lst vs)) := fun p np =>
  q _ _ (.lst upd_same (u.new np) l (dn.ext (fun a o e _ _ => same_new np a o e))) (w.same (same_new np)) (fr_same (same_new np))
theorem new_tup {vs : List V} {ds : List D} (q : okP g U H Q (.tup ds) b) (w : Wd g H b) (u : UOk g U H) (l : vs.length ≤ sizeLine) (dn : DenL g U H vs ds) : ∀ p, H p = none → Q (.ref p) (upd H p (.tup vs)) := fun p np =>
  q _ _ (.tup upd_same (u.new np) l (dn.ext (fun a o e _ _ => same_new np a o e))) (w.same (same_new np)) (fr_same (same_new np))
def iiD (f : Int → Int → D) (x y : D) : Tr D := match x, y with
  | .int i, .int j => .ok (f i j)
  | _, _ => .bad
def iicD (c : Int → Int → Prop) [∀ i j, Decidable (c i j)] (f : Int → Int → D) (x y : D) : Tr D := match x, y with
  | .int i, .int j => if c i j then .ok (f i j) else .bad
  | _, _ => .bad
theorem al_ii {P : D → Nat → Prop} {X : Str → Fs → Nat → Prop} {f : Int → Int → D} {x y : D} (h : Al P X (iiD f x y) b) : ∃ i j, x = .int i ∧ y = .int j ∧ P (f i j) b := by
  unfold iiD at h
  split at h
  · exact ⟨_, _, rfl, rfl, h⟩
  · exact h.elim
theorem al_iic {P : D → Nat → Prop} {X : Str → Fs → Nat → Prop} {c : Int → Int → Prop} [∀ i j, Decidable (c i j)] {f : Int → Int → D} {x y : D} (h : Al P X (iicD c f x y) b) : ∃ i j, x = .int i ∧ y = .int j ∧ c i j ∧ P (f i j) b := by
  unfold iicD at h
  split at h
  · split at h
    · exact ⟨_, _, rfl, rfl, by assumption, h⟩
    · exact h.elim
  · exact h.elim
theorem sr_ii {f : Int → Int → D} {f' : Int → Int → V} (hf : ∀ i j U H, Den g U H (f' i j) (f i j)) : SR2 g E (rI0 f') (iiD f) := fun U H b x y dx dy Q d1 d2 w u q => by
  obtain ⟨i, j, rfl, rfl, q1⟩ := al_ii q
  cases den_int d1
  cases den_int d2
  exact ⟨i, j, rfl, rfl, okP.here q1 w (hf i j U H)⟩
theorem sr_iic {c : Int → Int → Prop} [∀ i j, Decidable (c i j)] {c' : Int → Int → Prop} {f : Int → Int → D} {f' : Int → Int → V} (hc : ∀ i j, c i j → c' i j) (hf : ∀ i j U H, Den g U H (f' i j) (f i j)) : SR2 g E (rI c' f') (iicD c f) := fun U H b x y dx dy Q d1 d2 w u q => by
  obtain ⟨i, j, rfl, rfl, hij, q1⟩ := al_iic q
  cases den_int d1
  cases den_int d2
  exact ⟨i, j, rfl, rfl, hc i j hij, okP.here q1 w (hf i j U H)⟩
def ltD : D → D → Tr D := iiD fun i j => .bl (decide (i < j))
def leD : D → D → Tr D := iiD fun i j => .bl (decide (i ≤ j))
def gtD : D → D → Tr D := iiD fun i j => .bl (decide (j < i))
def geD : D → D → Tr D := iiD fun i j => .bl (decide (j ≤ i))
def subD : D → D → Tr D := iiD fun i j => .int (i - j)
def modD : D → D → Tr D := iicD (fun _ j => 0 < j) fun i j => .int (i % j)
def divD : D → D → Tr D := iicD (fun _ j => 0 < j ∧ j < 10 ^ 100) fun i j => .int (i / j)
theorem sr_lt : SR2 g E (rI0 fun i j => .bl (decide (i < j))) ltD := sr_ii fun _ _ _ _ => .bl _
theorem sr_le : SR2 g E (rI0 fun i j => .bl (decide (i ≤ j))) leD := sr_ii fun _ _ _ _ => .bl _
theorem sr_gt : SR2 g E (rI0 fun i j => .bl (decide (j < i))) gtD := sr_ii fun _ _ _ _ => .bl _
theorem sr_ge : SR2 g E (rI0 fun i j => .bl (decide (j ≤ i))) geD := sr_ii fun _ _ _ _ => .bl _
theorem sr_sub : SR2 g E (rI0 fun i j => .int (i - j)) subD := sr_ii fun _ _ _ _ => .int _
theorem sr_mod : SR2 g E (rI (fun _ j => 0 < j) fun i j => .int (i % j)) modD := sr_iic (fun _ _ h => h) fun _ _ _ _ => .int _
theorem sr_div : SR2 g E (rI CDivW fun i j => .int (i / j)) divD := sr_iic (fun _ _ h => ⟨h.1, log_of h.1 h.2⟩) fun _ _ _ _ => .int _
def negD (x : D) : Tr D := match x with
  | .int i => .ok (.int (-i))
  | _ => .bad
theorem sr_neg : SR1 g E (rU fun i => .int (-i)) negD := fun U H b x dx Q d1 w u q => by
  cases dx with
  | int i =>
    cases den_int d1
    exact ⟨i, rfl, okP.here q w (.int _)⟩
  | _ => exact q.elim
def addD (x y : D) : Tr D := match x, y with
  | .int i, .int j => .ok (.int (i + j))
  | .str a, .str b => if a.length + b.length ≤ sizeLine then .ok (.str (a ++ b)) else .bad
  | .lst a, .lst b => if a.length + b.length ≤ sizeLine then .ok (.lst (a ++ b)) else .bad
  | .tup a, .tup b => if a.length + b.length ≤ sizeLine then .ok (.tup (a ++ b)) else .bad
  | _, _ => .bad
def rAddA (K : PySem.W.Frag) : R2 := fun x y H Q => rI0 (fun i j => .int (i + j)) x y H Q ∨ (∃ i j, x = .str i ∧ y = .str j ∧ i.length + j.length ≤ sizeLine ∧ Q (.str (i ++ j)) H) ∨ rCat x y H Q ∨ rCatA K x y H Q
theorem op_addA {X : Cx} {K : PySem.W.Frag} (h : X.K = K) : OpR X (binaryOp .Add) (rAddA K) := h ▸ op_add.or (op_add_str.or (op_cat.or op_catA))
theorem str_app_len (a b : Str) : (a ++ b).length = a.length + b.length := by
  show (a.cps ++ b.cps).size = _
  rw [Array.size_append]
  rfl
theorem sr_add : SR2 g E (rAddA g.K) addD := fun U H b x y dx dy Q d1 d2 w u q => by
  unfold addD at q
  split at q
  · rename_i i j
    cases den_int d1
    cases den_int d2
    exact .inl ⟨i, j, rfl, rfl, okP.here q w (.int _)⟩
  · rename_i a c
    split at q
    · rename_i h
      obtain ⟨rfl, l1⟩ := den_str d1
      obtain ⟨rfl, l2⟩ := den_str d2
      exact .inr (.inl ⟨a, c, rfl, rfl, h, okP.here q w (.str _ (by rw [str_app_len]; exact h))⟩)
    · exact q.elim
  · rename_i a c
    split at q
    · rename_i h
      obtain ⟨p1, v1, rfl, h1, n1, l1, k1⟩ := den_lst d1
      obtain ⟨p2, v2, rfl, h2, n2, l2, k2⟩ := den_lst d2
      have hl : v1.length + v2.length ≤ sizeLine := by rw [k1.length, k2.length]; exact h
      exact .inr (.inr (.inl ⟨p1, p2, v1, v2, rfl, rfl, h1, h2, hl, new_lst q w u (by rw [List.length_append]; exact hl) (k1.append k2)⟩))
    · exact q.elim
  · rename_i a c
    split at q
    · rename_i h
      obtain ⟨p1, v1, rfl, h1, l1, k1⟩ := den_tup d1
      obtain ⟨p2, v2, rfl, h2, l2, k2⟩ := den_tup d2
      have hl : v1.length + v2.length ≤ sizeLine := by rw [k1.length, k2.length]; exact h
      refine .inr (.inr (.inr ⟨p1, p2, v1, v2, rfl, rfl, h1, h2, hl, fun e => ?_, fun _ e => ?_, fun _ _ => new_tup q w u (by rw [List.length_append]; exact hl) (k1.append k2)⟩))
      · subst e
        cases k1
        exact okP.here q w d2
      · subst e
        cases k2
        rw [List.append_nil] at q
        exact okP.here q w d1
    · exact q.elim
  · exact q.elim
def eqS : D → D → Option Bool
  | .non, .non => some true | .non, .int _ => some false | .int _, .non => some false | .non, .bl _ => some false | .bl _, .non => some false | .non, .str _ => some false | .str _, .non => some false
  | .int i, .int j => some (decide (i = j)) | .bl a, .bl c => some (decide (a = c)) | .str a, .str c => some (decide (a = c))
  | .int _, .str _ => some false | .str _, .int _ => some false | .bl _, .str _ => some false | .str _, .bl _ => some false
  | _, _ => none
def eqB (x y : D) : Tr Bool := match eqS x y with
  | some b => .ok b
  | none => match toPy x, toPy y with
    | some a, some c => if SeqAt.shaped a = true ∧ SeqAt.shaped c = true then .ok (PyData.eqv a c) else .bad
    | _, _ => .bad
def eqD (x y : D) : Tr D := bd (eqB x y) fun k => .ok (.bl k)
def neD (x y : D) : Tr D := bd (eqB x y) fun k => .ok (.bl (!k))
def rEqA (K : PySem.W.Frag) : R2 := fun x y H Q => rEq x y H Q ∨ rEqD K x y H Q
def rNeA (K : PySem.W.Frag) : R2 := fun x y H Q => rNe x y H Q ∨ rNeD K x y H Q
theorem op_eqA {X : Cx} {K : PySem.W.Frag} (h : X.K = K) (hu : X.A.units + 64 < cLine) : OpR X (compareOp .Eq) (rEqA K) := h ▸ op_eq.or (op_eqD hu)
theorem op_neA {X : Cx} {K : PySem.W.Frag} (h : X.K = K) (hu : X.A.units + 64 < cLine) : OpR X (compareOp .NotEq) (rNeA K) := h ▸ op_ne.or (op_neD hu)
theorem eqS_scal {x y : D} {v w : V} {k : Bool} (h : eqS x y = some k) (d1 : Den g U H v x) (d2 : Den g U H w y) : scal v w = true ∧ decide (v = w) = k := by
  cases x <;> cases y <;> first
    | (cases h; done)
    | (cases d1; cases d2; cases h; exact ⟨rfl, by simp⟩)
theorem al_eqB {P : Bool → Nat → Prop} {X : Str → Fs → Nat → Prop} {x y : D} (h : Al P X (eqB x y) b) : (∃ k, eqS x y = some k ∧ P k b) ∨ ∃ a c, toPy x = some a ∧ toPy y = some c ∧ SeqAt.shaped a = true ∧ SeqAt.shaped c = true ∧ P (PyData.eqv a c) b := by
  unfold eqB at h
  split at h
  · exact .inl ⟨_, by assumption, h⟩
  · split at h
    · split at h
      · rename_i e1 e2 z
        exact .inr ⟨_, _, e1, e2, z.1, z.2, h⟩
      · exact h.elim
    · exact h.elim
theorem sr_eq : SR2 g E (rEqA g.K) eqD := fun U H b x y dx dy Q d1 d2 w u q => by
  rcases al_eqB (al_bd.mp q) with ⟨k, e, q1⟩ | ⟨a, c, e1, e2, s1, s2, q1⟩
  · obtain ⟨h1, h2⟩ := eqS_scal e d1 d2
    refine .inl ⟨h1, ?_⟩
    rw [h2]
    exact okP.here q1 w (.bl _)
  · exact .inr ⟨a, c, den_dp dx d1 e1, den_dp dy d2 e2, s1, s2, okP.here q1 w (.bl _)⟩
theorem sr_ne : SR2 g E (rNeA g.K) neD := fun U H b x y dx dy Q d1 d2 w u q => by
  rcases al_eqB (al_bd.mp q) with ⟨k, e, q1⟩ | ⟨a, c, e1, e2, s1, s2, q1⟩
  · obtain ⟨h1, h2⟩ := eqS_scal e d1 d2
    refine .inl ⟨h1, ?_⟩
    rw [h2]
    exact okP.here q1 w (.bl _)
  · exact .inr ⟨a, c, den_dp dx d1 e1, den_dp dy d2 e2, s1, s2, okP.here q1 w (.bl _)⟩
def isN (x : D) : Bool := match x with
  | .non => true
  | _ => false
theorem den_non {v : V} {d : D} (h : Den g U H v d) : decide (v = .non) = isN d := by
  cases h <;> simp [isN]
theorem sr_isN : SR2 g E rIsN (fun x y => match y with | .non => .ok (.bl (isN x)) | _ => .bad) := fun U H b x y dx dy Q d1 d2 w u q => by
  cases dy with
  | non =>
    cases d2
    refine st_isN ?_
    rw [den_non d1]
    exact okP.here q w (.bl _)
  | _ => exact q.elim
def ixD (x y : D) : Tr D := match x, y with
  | .lst ds, .int i => match atI ds i with | some d => .ok d | none => .bad
  | .tup ds, .int i => match atI ds i with | some d => .ok d | none => .bad
  | .str z, .int i => match atI z.cps.toList i with | some c => .ok (.str ⟨#[c]⟩) | none => .bad
  | _, _ => .bad
theorem ix_seqK {X : Cx} {K : PySem.W.Frag} (h : X.K = K) : IxR X (rIx K) := h ▸ ix_seq
theorem denL_at {vs : List V} {ds : List D} {i : Int} {d : D} (h : DenL g U H vs ds) (e : atI ds i = some d) : ∃ v, atI vs i = some v ∧ Den g U H v d := by
  unfold atI at e ⊢
  rw [h.length]
  cases q : ixN ds.length i with
  | none => rw [q] at e; cases e
  | some j =>
    rw [q] at e
    exact h.getD e
theorem sr_ix : SR2 g E (rIx g.K) ixD := fun U H b x y dx dy Q d1 d2 w u q => by
  unfold ixD at q
  split at q
  · rename_i ds i
    split at q
    · rename_i d e
      obtain ⟨p, vs, rfl, h, n, l, k⟩ := den_lst d1
      cases den_int d2
      obtain ⟨v, hv, dv⟩ := denL_at k e
      exact .inl ⟨p, vs, i, v, rfl, rfl, SqL.of h, hv, okP.here q w dv⟩
    · exact q.elim
  · rename_i ds i
    split at q
    · rename_i d e
      obtain ⟨p, vs, rfl, h, l, k⟩ := den_tup d1
      cases den_int d2
      obtain ⟨v, hv, dv⟩ := denL_at k e
      exact .inr (.inl ⟨p, vs, i, v, rfl, rfl, h, hv, okP.here q w dv⟩)
    · exact q.elim
  · rename_i z i
    split at q
    · rename_i c e
      obtain ⟨rfl, l⟩ := den_str d1
      cases den_int d2
      exact .inr (.inr ⟨z, i, c, rfl, rfl, l, e, okP.here q w den1⟩)
    · exact q.elim
  · exact q.elim
def lenD (x : D) : Tr D := match x with
  | .lst ds => .ok (.int ds.length)
  | .tup ds => .ok (.int ds.length)
  | .str z => .ok (.int z.length)
  | _ => .bad
theorem srl_len : SRL g E (rLn g.K) (ul1 lenD) := fun U H b xs dxs Q dn w u q => by
  obtain ⟨x, rfl, q1⟩ := al_ul1 q
  obtain ⟨v, rfl, d1⟩ := denL_1 dn
  cases x with
  | lst ds =>
    obtain ⟨p, vs, rfl, h, n, l, k⟩ := den_lst d1
    refine st_lenL h ?_
    rw [k.length]
    exact okP.here q1 w (.int _)
  | tup ds =>
    obtain ⟨p, vs, rfl, h, l, k⟩ := den_tup d1
    unfold rLn
    exact ⟨_, _, rfl, .inr ⟨vs, h, rfl⟩, by rw [k.length]; exact okP.here q1 w (.int _)⟩
  | str z =>
    obtain ⟨rfl, l⟩ := den_str d1
    exact st_lenS l (okP.here q1 w (.int _))
  | _ => exact q1.elim
def intD (x : D) : Tr D := match x with
  | .int i => .ok (.int i)
  | .bl k => .ok (.int (if k = true then 1 else 0))
  | _ => .bad
theorem srl_int : SRL g E rInt (ul1 intD) := fun U H b xs dxs Q dn w u q => by
  obtain ⟨x, rfl, q1⟩ := al_ul1 q
  obtain ⟨v, rfl, d1⟩ := denL_1 dn
  cases x with
  | int i => cases d1; exact st_int (okP.here q1 w (.int _))
  | bl k => cases d1; exact st_intB (okP.here q1 w (.int _))
  | _ => exact q1.elim
def absD (x : D) : Tr D := match x with
  | .int i => .ok (.int (if i < 0 then -i else i))
  | _ => .bad
end
end Gp
end
section
set_option Elab.async false
set_option linter.all false
set_option maxRecDepth 100000
set_option maxHeartbeats 4000000
namespace Gp
open PySem PySem.Spec PyProof.Rows L2 Gh
section
variable {g : Gw} {Mt U0 U U' : Addr → Prop} {H0 H H' H1 H2 : Hp} {b b1 : Nat} {σ : L2.St} {ε ε' : Env} {E : XK} {Q : VK} {W L W' : Type}
variable {env : W → Env} {envL : L → Env} {env' : W' → Env} {u ta tb : TS} {te : TE} {me : Tr D}
def flatD : D → Bool
  | .non => true
  | .bl _ => true
  | .int _ => true
  | .str _ => true
  | _ => false
def eqF : D → D → Bool
  | .non, .non => true
  | .bl a, .bl b => a == b
  | .bl a, .int b => (if a then 1 else 0) == b
  | .int a, .bl b => a == (if b then 1 else 0)
  | .int a, .int b => a == b
  | .str a, .str b => a == b
  | _, _ => false
theorem flat_den {v : V} {d : D} (h : Den g U H v d) (f : flatD d = true) : flatV v = true := by
  cases h <;> first
    | rfl
    | cases f
theorem eqF_den {v w : V} {d e : D} (h : Den g U H v d) (k : Den g U H w e) : eqF d e = eqV v w := by
  cases h <;> cases k <;> rfl
def inD (x : D) (ds : List D) : Bool := ds.any fun y => eqF y x
theorem inD_den {v : V} {d : D} (h : Den g U H v d) : ∀ {vs : List V} {ds : List D}, DenL g U H vs ds → inD d ds = inV v vs
  | _, _, .nil => rfl
  | _, _, .cons a r => by
    have := inD_den h r
    unfold inD inV at this ⊢
    rw [List.any_cons, List.any_cons, eqF_den a h, this]
theorem flats_den : ∀ {vs : List V} {ds : List D}, DenL g U H vs ds → ds.all flatD = true → vs.all flatV = true
  | _, _, .nil, _ => rfl
  | _, _, .cons a r, f => by
    rw [List.all_cons, Bool.and_eq_true] at f ⊢
    exact ⟨flat_den a f.1, flats_den r f.2⟩
def inB (x y : D) : Tr Bool := match y with
  | .lst ds => if flatD x = true ∧ ds.all flatD = true then .ok (inD x ds) else .bad
  | .tup ds => if flatD x = true ∧ ds.all flatD = true then .ok (inD x ds) else .bad
  | .str j => match x with
    | .str i => .ok (!(Builtin.Str.occurrences j i 0 j.length 1).isEmpty)
    | _ => .bad
  | _ => .bad
def notinD (x y : D) : Tr D := bd (inB x y) fun k => .ok (.bl (!k))
def rNotInA (K : PySem.W.Frag) : R2 := fun x y H Q => rIn K true x y H Q ∨ ∃ i j, x = .str i ∧ y = .str j ∧ Q (.bl (!(!(Builtin.Str.occurrences j i 0 j.length 1).isEmpty))) H
theorem op_notinA {X : Cx} {K : PySem.W.Frag} (h : X.K = K) : OpR X (compareOp .NotIn) (rNotInA K) := h ▸ op_notIn_seq.or op_notin_str
theorem al_inB {P : Bool → Nat → Prop} {Z : Str → Fs → Nat → Prop} {x y : D} {v w : V} (d1 : Den g U H v x) (d2 : Den g U H w y) (h : Al P Z (inB x y) b) :
    (∃ p vs, w = .ref p ∧ (SqL g.K H p vs ∨ SqT g.K H p vs) ∧ flatV v = true ∧ vs.all flatV = true ∧ P (inV v vs) b) ∨ ∃ i j, v = .str i ∧ w = .str j ∧ P (!(Builtin.Str.occurrences j i 0 j.length 1).isEmpty) b := by
  unfold inB at h
  split at h
  · split at h
    · rename_i z
      obtain ⟨p, vs, rfl, hh, _, _, k⟩ := den_lst d2
      rw [inD_den d1 k] at h
      exact .inl ⟨p, vs, rfl, .inl (SqL.of hh), flat_den d1 z.1, flats_den k z.2, h⟩
    · exact h.elim
  · split at h
    · rename_i z
      obtain ⟨p, vs, rfl, hh, _, k⟩ := den_tup d2
      rw [inD_den d1 k] at h
      exact .inl ⟨p, vs, rfl, .inr hh, flat_den d1 z.1, flats_den k z.2, h⟩
    · exact h.elim
  · split at h
    · obtain ⟨rfl, _⟩ := den_str d1
      obtain ⟨rfl, _⟩ := den_str d2
      exact .inr ⟨_, _, rfl, rfl, h⟩
    · exact h.elim
  · exact h.elim
theorem sr_notin : SR2 g E (rNotInA g.K) notinD := fun U H b x y dx dy Q d1 d2 w u q => by
  rcases al_inB d1 d2 (al_bd.mp q) with ⟨p, vs, rfl, h1, h2, h3, h4⟩ | ⟨i, j, rfl, rfl, h⟩
  · exact .inl ⟨p, vs, rfl, h1, h2, h3, okP.here h4 w (.bl _)⟩
  · exact .inr ⟨i, j, rfl, rfl, okP.here h w (.bl _)⟩
def SO (g : Gw) (E : XK) (ε : Env) (t : TO) (m : Tr (Option Int)) : Prop := ∀ U σ H b (Q : Option Int → Hp → Prop), Rel g U H σ ε → Wd g H b → UOk g U H → Al (fun o b' => ∀ H', Wd g H' b' → Fr H H' g.p → Q o H') (exP g U E H) m b → t σ H Q
theorem SO.step {α : Type} {t : TO} {m : Tr (Option Int)} {k : Option Int → Tr α} {P : α → Nat → Prop} {Q : Option Int → Hp → Prop} (ha : SO g E ε t m) (R : Rel g U H σ ε) (W : Wd g H b) (u : UOk g U H) (h : Al P (exP g U E H) (bd m k) b)
    (hk : ∀ d H1 b1, Wd g H1 b1 → Fr H H1 g.p → Rel g U H1 σ ε → UOk g U H1 → Al P (exP g U E H1) (k d) b1 → Q d H1) : t σ H Q :=
  ha U σ H b Q R W u ((al_bd.mp h).mono (fun d b1 h1 H1 w1 f1 => hk d H1 b1 w1 f1 (R.fr u f1) (u.fr f1 w1) (al_frX f1 h1)) (fun _ _ _ h => h))
def rgOk (a b : Int) : Prop := -(2 ^ 62) ≤ a ∧ a < 2 ^ 62 ∧ -(2 ^ 62) ≤ b ∧ b < 2 ^ 62 ∧ b - a ≤ 16777216
instance (a b : Int) : Decidable (rgOk a b) := by unfold rgOk; infer_instance
def IsT (g : Gw) (u : Value) (f : D → Option Bool) : Prop := ∀ U H v d k, Den g U H v d → f d = some k → (∃ t, TyX g.K H v t ∧ PySem.W.kitOne g.K t u = some k) ∨ ∃ a C dd fvs, v = .ref a ∧ H a = some (exk a C dd) ∧ H dd = some (.xd fvs) ∧ ErrT g.K C ∧ PySem.W.kitOne g.K (.ref C) u = some k
def opt {α : Type} (o : Option α) : Tr α := match o with
  | some a => .ok a
  | none => .bad
theorem se_isi {cv : V} {u : Value} {f : D → Option Bool} (hc : ClsV cv u) (hT : IsT g u f) (he : SE g E ε te me) : SE g E ε (tCB (rIsiZ g.K) (tCons te (tCons (tC cv) tNil))) (bd me fun d => bd (opt (f d)) fun k => .ok (.bl k)) := fun U σ H b Q R W uo q =>
  he.step R W uo q fun v d H1 b1 d1 w1 f1 R1 u1 q1 => by
    cases e : f d with
    | none => rw [e] at q1; exact q1.elim
    | some k =>
      rw [e] at q1
      have q2 := okP.here (okP.fr f1 q1) w1 (.bl k)
      rcases hT U H1 v d k d1 e with ⟨t, h1, h2⟩ | ⟨a, C, dd, fvs, rfl, h1, h2, h3, h4⟩
      · exact .inl ⟨v, cv, t, u, k, rfl, hc, h1, h2, q2⟩
      · exact .inr ⟨a, C, dd, fvs, cv, u, k, rfl, hc, h1, h2, h3, h4, q2⟩
def kdN : D → Option String
  | .non => some "NoneType"
  | .bl _ => some "bool"
  | .int _ => some "int"
  | .str _ => some "str"
  | .lst _ => some "list"
  | .tup _ => some "tuple"
  | .dct => some "dict"
  | .dic _ => some "dict"
  | _ => none
theorem kd_ty {v : V} {d : D} {n : String} (h : Den g U H v d) (e : kdN d = some n) : TyX g.K H v (.type n) := by
  cases h with
  | non => cases e; exact .base .non
  | bl b => cases e; exact .base (.bl b)
  | int i => cases e; exact .base (.int i)
  | str x _ => cases e; exact .base (.str x)
  | tup h _ _ _ => cases e; exact .base (.tup h)
  | tupW h _ _ =>
    cases e
    rcases h (fun _ => none) with (z | ⟨o, z⟩) | ⟨o, its, n, z1, z2, _⟩
    · cases z
    · cases z
    · exact .kTuple z1 z2
  | lst h _ _ _ => cases e; exact .base (.lst h)
  | obj _ _ _ => cases e
  | err _ _ _ _ _ => cases e
  | pen => cases e
  | cls _ => cases e
  | dct h _ => cases e; exact .base (.dK h)
  | dic h _ _ _ => cases e; exact .base (.dK h)
  | dit _ _ _ _ => cases e
def isF (kb : String → Option Bool) (tab etab : List (Str × Bool)) (d : D) : Option Bool := match d with
  | .obj c _ => tab.lookup c
  | .err c _ => etab.lookup c
  | d => (kdN d).bind kb
theorem isT_of {u : Value} {kb : String → Option Bool} {tab etab : List (Str × Bool)} (h1 : ∀ n k, kb n = some k → PySem.W.kitOne g.K (.type n) u = some k) (h2 : ∀ c k, tab.lookup c = some k → Cls g.K (gd c g.K) ∧ InsT g.K (gd c g.K) ∧ PySem.W.kitOne g.K (.ref (gd c g.K)) u = some k)
    (h3 : ∀ c k, etab.lookup c = some k → ErrT g.K (gd c g.K) ∧ PySem.W.kitOne g.K (.ref (gd c g.K)) u = some k) : IsT g u (isF kb tab etab) := fun U H v d k dn e => by
  have base : ∀ d, Den g U H v d → (kdN d).bind kb = some k → ∃ t, TyX g.K H v t ∧ PySem.W.kitOne g.K t u = some k := fun d dn e => by
    cases q : kdN d with
    | none => rw [q] at e; cases e
    | some n =>
      rw [q] at e
      exact ⟨_, kd_ty dn q, h1 n k e⟩
  cases d with
  | obj c fs =>
    obtain ⟨a, dx, fvs, rfl, ea, _, _⟩ := den_obj dn
    obtain ⟨z1, z2, z3⟩ := h2 c k e
    exact .inl ⟨_, z2.ty z1 ea, z3⟩
  | err c fs =>
    cases dn with
    | err ha _ hd _ _ =>
      obtain ⟨z1, z2⟩ := h3 c k e
      exact .inr ⟨_, _, _, _, rfl, ha, hd, z1, z2⟩
  | non => exact .inl (base _ dn e)
  | bl b => exact .inl (base _ dn e)
  | int i => exact .inl (base _ dn e)
  | str x => exact .inl (base _ dn e)
  | lst ds => exact .inl (base _ dn e)
  | tup ds => exact .inl (base _ dn e)
  | pen => exact .inl (base _ dn e)
  | cls c => exact .inl (base _ dn e)
  | dct => exact .inl (base _ dn e)
  | dic ps => exact .inl (base _ dn e)
  | dit ps => exact .inl (base _ dn e)
theorem den_shw {v : V} {d : D} {x : Str} (h : Den g U H v d) (e : shwD d = some x) : Shw g.K H v x := by
  have cmp : ∀ {a : Addr}, v = .ref a → (match toPy d with
    | some e => if e.showable = true ∧ e.hasDict = false ∧ e.depth ≤ 100 ∧ e.shown.length ≤ sizeLine then some e.shown else none
    | none => none) = some x → Shw g.K H v x := fun {a} ev e => by
    subst ev
    split at e
    · split at e
      · rename_i q z
        cases e
        exact .dp (den_dp d h q) z.1 z.2.1 z.2.2.1 z.2.2.2
      · cases e
    · cases e
  cases d with
  | non => cases h; cases e; exact .non
  | bl b => cases h; cases e; exact .bl b
  | int i =>
    cases h
    unfold shwD at e
    dsimp only at e
    split at e
    · cases e; exact .int i (by assumption)
    · cases e
  | str y =>
    cases h
    unfold shwD at e
    dsimp only at e
    split at e
    · cases e; exact .str y (by assumption)
    · cases e
  | tup ds =>
    obtain ⟨a, _, rfl, _⟩ := den_tup h
    exact cmp rfl e
  | lst ds =>
    obtain ⟨a, _, rfl, _⟩ := den_lst h
    exact cmp rfl e
  | obj c fs => cases e
  | dic ps => cases e
  | dit ps => cases e
  | err c fs => cases e
  | pen => cases e
  | cls c => cases e
  | dct => cases e
theorem srl_repr : SRL g E (rShow g.K) (ul1 reprD) := fun U H b xs dxs Q dn w u q => by
  obtain ⟨x, rfl, q1⟩ := al_ul1 q
  obtain ⟨v, rfl, d1⟩ := denL_1 dn
  unfold reprD at q1
  split at q1
  · rename_i z e
    split at q1
    · exact rShow_of (den_shw d1 e) (okP.here q1 w (.str _ (by assumption)))
    · exact q1.elim
  · exact q1.elim
theorem ss_setf {c f : Str} {fs : Fs} {k : D → Tr (Fl W L)} (he : SE g E ε te me) (hk : ∀ d, SS g E (ε.set 0 (.oi c (putD f d fs))) u env envL (k d)) (hi : ε[0]? = some (.oi c fs) := by rfl) :
    SS g E ε (tSeq (sF (gd c g.K) (tVar 0) te f) u) env envL (bd me fun d => if fs.length < 900 then k d else .bad) := fun Mt U0 H0 U Ds σ H b s q => by
  refine st_sF ?_
  refine he.sstep s q fun y d H1 b1 dy s1 q1 => ?_
  by_cases hl : fs.length < 900
  · rw [if_pos hl] at q1
    obtain ⟨o, eo, a, dx, fvs, rfl, ha, df, ua, n1, n2⟩ := s1.rel.at_ 0 _ hi
    refine ⟨.ref a, eo, st_setF ha (by rw [df.length]; omega) fun H2 m2 => ?_⟩
    have kp := m2.keep
    have xt : ExtU U H1 H2 := fun x o e ne _ => kp x o e (fun z => ne (z ▸ ua))
    have il : 0 < ε.length := (List.getElem?_eq_some_iff.mp hi).1
    have ow : ∀ j x, OwnAt σ (ε.set 0 (.oi c (putD f d fs))) j x → OwnAt σ ε j x := fun j x z => by
      obtain ⟨z1, z2⟩ := z
      by_cases q : 0 = j
      · subst q
        exact ⟨z1, .inr ⟨c, fs, hi⟩⟩
      · rw [List.getElem?_set_ne q] at z2
        exact ⟨z1, z2⟩
    have apart : ∀ j x, 0 ≠ j → OwnAt σ ε j x → x ≠ a := fun j x ne z e => by
      subst e
      exact s1.rel.apart 0 j x ne ⟨eo, .inr ⟨c, fs, hi⟩⟩ z
    have hmt := s1.oim 0 c fs a hi eo
    have ev : Ev U H1 U H2 := ⟨xt, fun _ _ _ n _ => n⟩
    refine hk d Mt U0 H0 U Ds σ H2 b1 ⟨⟨by rw [List.length_set]; exact s1.rel.len, fun j x e => ?_, fun j k x ne z1 z2 => s1.rel.apart j k x ne (ow _ _ z1) (ow _ _ z2)⟩, ⟨s1.wd.pen.keep kp n1 n2, tabs_muI m2 ha s1.wd.tabs⟩, ⟨s1.uok.p, s1.uok.c, fun x hx => ?_⟩, s1.sub, fun j x z => s1.own j x (ow _ _ z), fun x o e m1 m2 m3 => ?_, fun j xs x e1 e2 => ?_, fun j c' fs' x e1 e2 => ?_⟩ (q1.mono (fun _ _ z => z.ev ev) (fun _ _ _ z => z))
    · by_cases q : 0 = j
      · subst q
        rw [List.getElem?_set_self il] at e
        cases e
        exact ⟨_, eo, a, dx, _, rfl, m2.at_, (df.put dy).ext xt, ua, n1, n2⟩
      · rw [List.getElem?_set_ne q] at e
        obtain ⟨o, e1, e2⟩ := s1.rel.at_ j x e
        refine ⟨o, e1, ?_⟩
        cases x with
        | no => trivial
        | fz d =>
          obtain ⟨v, e3, e4⟩ := e2
          exact ⟨v, e3, e4.ext xt⟩
        | ow ds2 =>
          obtain ⟨a2, v2, rfl, h2, l2, d2, u2, m1, m2⟩ := e2
          have ne := apart j a2 q ⟨e1, .inl ⟨ds2, e⟩⟩
          exact ⟨a2, v2, rfl, kp _ _ h2 ne, l2, d2.ext xt, u2, m1, m2⟩
        | oi c fs =>
          obtain ⟨a2, dx, v2, rfl, h2, d2, u2, m1, m2⟩ := e2
          have ne := apart j a2 q ⟨e1, .inr ⟨c, fs, e⟩⟩
          exact ⟨a2, dx, v2, rfl, kp _ _ h2 ne, d2.ext xt, u2, m1, m2⟩
    · by_cases q : x = a
      · subst q
        exact ⟨_, m2.at_, fun _ z => by cases z⟩
      · obtain ⟨o, e, t⟩ := s1.uok.al x hx
        exact ⟨o, kp x o e q, t⟩
    · exact kp x o (s1.ext x o e m1 m2 m3) (fun z => m2 (z ▸ hmt))
    · by_cases q : 0 = j
      · subst q
        rw [List.getElem?_set_self il] at e1
        cases e1
      · rw [List.getElem?_set_ne q] at e1
        exact s1.nu0 j xs x e1 e2
    · by_cases q : 0 = j
      · subst q
        exact s1.oim 0 c fs x hi e2
      · rw [List.getElem?_set_ne q] at e1
        exact s1.oim j c' fs' x e1 e2
  · rw [if_neg hl] at q1
    exact q1.elim
theorem ss_raise1 {c f : Str} (he : SE g E ε te me) : SS g E ε (tSeq (fun _ σ H => tMkO (gd c g.K) (spErr1 (gd c g.K) f) [] (tCons te tNil) σ H (fun cls d H' => E cls d H')) u) env envL (bd me fun d => .ex c [(f, d)]) := fun Mt U0 H0 U Ds σ H b s q => by
  show te σ H _
  refine he.sstep s q fun v d H1 b1 dv s1 q1 => ?_
  refine mk_err1 fun dd H2 sm nd hd => ?_
  have q2 : exS g Mt U0 H0 E c [(f, d)] b1 := q1
  exact q2 dd _ H2 hd (fun z => s1.uok.new nd (s1.sub _ z)) (.cons ((dv.ext (fun a o e _ _ => sm a o e)).sub fun a _ z => s1.sub a z) .nil) (s1.wd.same sm) (s1.ext.trans (fr_same sm))
end
end Gp
end
section
set_option Elab.async false
set_option linter.all false
set_option maxRecDepth 100000
set_option maxHeartbeats 4000000
namespace Gp
open PySem PySem.Spec PyProof.Rows L2 Gh
section
variable {g : Gw} {Mt U0 U U' : Addr → Prop} {H0 H H' H1 H2 : Hp} {b b1 : Nat} {σ : L2.St} {ε ε' : Env} {E : XK} {Q : VK} {W L W' : Type}
variable {env : W → Env} {envL : L → Env} {env' : W' → Env} {u ta tb : TS} {te : TE} {me : Tr D}
theorem se_powK {a c r : Int} (h1 : 0 ≤ c ∧ c ≤ 1000) (h2 : -(2 ^ 60) < a ∧ a < 2 ^ 60) (h3 : a ^ c.toNat = r) : SE g E ε (tOp (rPowK r) (tC (.int a)) (tC (.int c))) (.ok (.int r)) := fun U σ H b Q R W u q =>
  st_powK ⟨h1.1, by omega, by omega⟩ h3 (okP.here q W (.int _))
theorem passA {X : Cx} {E : XK} : Passes CX0 X E := fun _ _ _ _ _ _ _ h => h.elim
theorem PE.or {X : Cx} {e : Expr} {t1 t2 : TE} (a : PE X e t1) (c : PE X e t2) : PE X e (fun σ H Q => t1 σ H Q ∨ t2 σ H Q) := ⟨fun pins s σ H Q I h => h.elim (a.run pins s σ H Q I) (c.run pins s σ H Q I)⟩
theorem spI_len {K : PySem.W.Frag} {T : List (Addr × Str)} {cn : Str} {F : Fs → List D → Tr Fs} {n : Nat} (hn : ∀ fs (P : Fs → Nat → Prop) (X : Str → Fs → Nat → Prop) ds b, Al P X (F fs ds) b → ds.length = n) {vs : List V} (h : spI K T cn F vs H Q E) : vs.length = n + 1 := by
  obtain ⟨p, c, U, ds, b, x, dx, fvs, fs, rest, rfl, hx, df, ux, np, nc, dn, wd, u, al⟩ := h
  rw [List.length_cons, dn.length, hn _ _ _ _ _ al]
theorem lenI2 {F : Fs → D → D → Tr Fs} (fs : Fs) (P : Fs → Nat → Prop) (X : Str → Fs → Nat → Prop) (ds : List D) (b : Nat) (h : Al P X (ul2 (F fs) ds) b) : ds.length = 2 := by obtain ⟨_, _, rfl, _⟩ := al_ul2 h; rfl
section
variable {K : PySem.W.Frag} {T : List (Addr × Str)} {N : List Str} {cn : Str} {vs : List V} {t : TS} {envI : Fs → Env}
theorem ini_of2 {F : Fs → D → D → Tr Fs} {m : Fs → D → D → Tr (Fl Fs Empty)} (h : spI K T cn (fun fs => ul2 (F fs)) vs H Q E) (hF : ∀ fs x y, F fs x y = finI (m fs x y)) (hs : ∀ p c fs x y, SS ⟨K, T, p, c⟩ E (.oi cn fs :: ([x, y].map Sl.fz ++ List.replicate (N.length - (2 + 1)) Sl.no)) t envI envE (m fs x y)) (he : ∀ fs, (envI fs)[0]? = some (.oi cn fs) := by intro _; rfl) : t { nx := fun _ H' => Q .non H', rt := Q } (L2.start N vs) H :=
  ini_of h (fun p c fs ds ⟨_, _, _, al⟩ => by
    obtain ⟨x, y, rfl, _⟩ := al_ul2 al
    exact ⟨m fs x y, hF fs x y, hs p c fs x y⟩) he
end
def spLaw (K : PySem.W.Frag) (T : List (Addr × Str)) : Sp := fun vs H Q _ => ∃ (a : Addr) (ns : List Int), vs = [.ref a] ∧ SqL K H a (ns.map V.int) ∧ ns.length ≤ 63 ∧ LamX.Tabs T H ∧ ∀ H', Q (.bl true) H'
theorem spLaw_len {K : PySem.W.Frag} {T : List (Addr × Str)} {vs : List V} (h : spLaw K T vs H Q E) : vs.length = 1 := by
  obtain ⟨a, ns, rfl, _⟩ := h
  rfl
theorem law_of {K : PySem.W.Frag} {T : List (Addr × Str)} {N : List Str} {i n : Nat} {F : Tr D} {m : Tr (Fl Unit Empty)} {vs : List V} {t : TS} {envU : Unit → Env} (yes : Yes F) (h : spLaw K T vs H Q E) (hN : N.length = n + 1) (hi : i < n + 1) (h0 : i ≠ 0) (hF : F = fin m)
    (hs : ∀ p c, SS ⟨K, T, p, c⟩ EF ((List.replicate (n + 1) Sl.no).set i (.fz .pen)) t envU envE m) : tSeq (tAsg (tCl (rSp (spPn K) [] E) (tCons (tVar 0) tNil)) (gName i)) t { nx := fun _ H' => Q .non H', rt := Q } (L2.start N vs) H := by
  obtain ⟨a, ns, rfl, hS, hl, hT, q⟩ := h
  have st0 : L2.start N [V.ref a] = some (.ref a) :: List.replicate n none := by
    unfold L2.start
    rw [List.length_singleton, hN]
    rfl
  rw [st0]
  refine ⟨.ref a, rfl, ?_⟩
  refine ⟨a, ns, rfl, hS, hl, fun p c H1 np pn s => ?_⟩
  obtain ⟨ns', i', z', h1, h2, _⟩ := id pn
  have wd : Wd ⟨K, T, p, c⟩ H1 1000000 := ⟨pn, hT.ext s⟩
  have u : UOk ⟨K, T, p, c⟩ (fun x => x = p ∨ x = c) H1 := ⟨.inl rfl, .inr rfl, fun x hx => by
    rcases hx with rfl | rfl
    · exact ⟨_, h1, fun _ z => by cases z⟩
    · exact ⟨_, h2, fun _ z => by cases z⟩⟩
  have own : ∀ j x, ¬ OwnAt ((some (V.ref a) :: List.replicate n none).set i (some (.ref p))) ((List.replicate (n + 1) Sl.no).set i (.fz .pen)) j x := fun j x z => by
    obtain ⟨_, z2⟩ := ownAt_set z
    rcases z2.2 with ⟨ds, e⟩ | ⟨c, fs, e⟩
    · cases (List.mem_replicate.mp (List.mem_of_getElem? e)).2
    · cases (List.mem_replicate.mp (List.mem_of_getElem? e)).2
  have rl0 : Rel ⟨K, T, p, c⟩ (fun x => x = p ∨ x = c) H1 (some (V.ref a) :: List.replicate n none) (List.replicate (n + 1) Sl.no) := by
    refine ⟨by rw [List.length_cons, List.length_replicate, List.length_replicate], fun j s e => ?_, fun j k x ne z1 z2 => ?_⟩
    · have hj := (List.getElem?_eq_some_iff.mp e).1
      rw [List.length_replicate] at hj
      obtain ⟨_, rfl⟩ := List.mem_replicate.mp (List.mem_of_getElem? e)
      have hl2 : j < (some (V.ref a) :: List.replicate n (none : Option V)).length := by rw [List.length_cons, List.length_replicate]; exact hj
      exact ⟨_, List.getElem?_eq_getElem hl2, trivial⟩
    · rcases z1.2 with ⟨ds, e⟩ | ⟨c, fs, e⟩
      · cases (List.mem_replicate.mp (List.mem_of_getElem? e)).2
      · cases (List.mem_replicate.mp (List.mem_of_getElem? e)).2
  have rl := rl0.set i (v := .ref p) (d := .pen) .pen
  have yes' : Al (fun d _ => d = .bl true) (fun _ _ _ => False) (fin m) 1000000 := hF ▸ yes
  refine hs p c (fun _ => False) (fun x => x = p ∨ x = c) H1 (fun x => x = p ∨ x = c) _ _ H1 1000000 ⟨rl, wd, u, fun _ z => z, fun j x z => (own j x z).elim, fun _ _ z _ _ _ => z, fun j ds x z1 z2 => (own j x ⟨z2, .inl ⟨ds, z1⟩⟩).elim, fun j cc fs x z1 z2 => (own j x ⟨z2, .inr ⟨cc, fs, z1⟩⟩).elim⟩ ((al_bd.mp yes').mono (fun f b h => ?_) (fun _ _ _ z => z.elim))
  cases f with
  | nx w => cases (show D.non = .bl true from h)
  | rt d =>
    have h' : d = .bl true := h
    subst h'
    intro v H2 dn _ _
    cases dn
    exact q H2
  | bk e => exact nomatch e
  | ct e => exact nomatch e
def binOI (c : Str) (F : List D → Tr D) (x y : D) : Tr D := isO c x fun _ => match y with
  | .int i => F [x, .int i]
  | _ => .bad
theorem sr_binI {c : Str} {r : List V → Hp → VK → Prop} {F : List D → Tr D} (hr : SRL g E r F) : SR2 g E (rBinI (gd c g.K) r) (binOI c F) := fun U H b x y dx dy Q d1 d2 w u q => by
  obtain ⟨fs, rfl, q1⟩ := al_isO q
  obtain ⟨a, da, fa, rfl, ea, _, _⟩ := den_obj d1
  cases dy with
  | int i =>
    cases den_int d2
    unfold rBinI
    exact ⟨a, da, fa, i, rfl, rfl, ea, hr U H b _ _ Q (.cons d1 (.cons d2 .nil)) w u q1⟩
  | _ => exact q1.elim
def cmpO (c : Str) (F : List D → Tr D) (x y : D) : Tr D := isO c x fun _ => isO c y fun _ => F [x, y]
theorem sr_cmp {c : Str} {r : List V → Hp → VK → Prop} {F : List D → Tr D} (nf : PySem.W.notFirst g.K (gd c g.K) (.ref (gd c g.K)) = true) (hr : SRL g E r F) : SR2 g E (rCmp g.K (gd c g.K) r) (cmpO c F) := fun U H b x y dx dy Q d1 d2 w u q => by
  obtain ⟨fs, rfl, q1⟩ := al_isO q
  obtain ⟨gs, rfl, q2⟩ := al_isO q1
  obtain ⟨a, da, fa, rfl, ea, _, _⟩ := den_obj d1
  obtain ⟨a2, da2, fa2, rfl, ea2, _, _⟩ := den_obj d2
  unfold rCmp
  exact ⟨a, da, fa, a2, _, da2, fa2, rfl, rfl, ea, ea2, nf, hr U H b _ _ Q (.cons d1 (.cons d2 .nil)) w u q2⟩
def EqR (g : Gw) (c : Str) (f : D → Bool) : Prop := ∀ U H v d, Den g U H v d → f d = true → ∃ tb, TyX g.K H v tb ∧ PySem.W.notFirst g.K (gd c g.K) tb = true
theorem sr_eqO {c : Str} {f : D → Bool} {r : List V → Hp → VK → Prop} {F : List D → Tr D} (hf : EqR g c f) (hr : SRL g E r F) : SR2 g E (rEqO g.K (gd c g.K) r) (eqO c f F) := fun U H b x y dx dy Q d1 d2 w u q => by
  obtain ⟨fs, rfl, q1⟩ := al_isO q
  obtain ⟨a, da, fa, rfl, ea, _, _⟩ := den_obj d1
  by_cases h : f dy = true
  · rw [if_pos h] at q1
    obtain ⟨tb, h1, h2⟩ := hf U H y dy d2 h
    exact st_eqO ea h1 h2 (hr U H b _ _ Q (.cons d1 (.cons d2 .nil)) w u q1)
  · rw [if_neg h] at q1
    exact q1.elim
def neO (c : Str) (f : D → Bool) (F : List D → Tr D) (x y : D) : Tr D := isO c x fun _ => if f y = true then bd (bd (F [x, y]) asB) fun k => .ok (.bl (!k)) else .bad
theorem sr_neO {c : Str} {f : D → Bool} {F : List D → Tr D} (hf : EqR g c f) : SR2 g E (rNeO g.K (gd c g.K) (spF g.K g.T F) E) (neO c f F) := fun U H b x y dx dy Q d1 d2 w u q => by
  obtain ⟨fs, rfl, q1⟩ := al_isO q
  obtain ⟨a, da, fa, rfl, ea, _, _⟩ := den_obj d1
  by_cases h : f dy = true
  · rw [if_pos h, bd_bd] at q1
    obtain ⟨tb, h1, h2⟩ := hf U H y dy d2 h
    refine st_neO ea h1 h2 ⟨g.p, g.c, U, _, b, .cons d1 (.cons d2 .nil), w, u, (al_bd.mp q1).mono (fun d b1 h1 v H1 dv w1 f1 => ?_) (fun _ _ _ z => z)⟩
    obtain ⟨k, rfl, q2⟩ := al_asBk h1
    exact ⟨k, den_bl dv, q2 _ H1 (.bl _) w1 f1⟩
  · rw [if_neg h] at q1
    exact q1.elim
def asS (d : D) : Tr D := match d with
  | .str x => .ok (.str x)
  | _ => .bad
def strO (c : Str) (F : List D → Tr D) (x : D) : Tr D := isO c x fun _ => bd (F [x]) asS
theorem srl_strO {c : Str} {F : List D → Tr D} : SRL g E (rStrO (gd c g.K) (spF g.K g.T F) E) (ul1 (strO c F)) := fun U H b xs dxs Q dn w u q => by
  obtain ⟨x, rfl, q1⟩ := al_ul1 q
  obtain ⟨v, rfl, d1⟩ := denL_1 dn
  obtain ⟨fs, rfl, q2⟩ := al_isO q1
  obtain ⟨a, da, fa, rfl, ea, _, _⟩ := den_obj d1
  refine st_strO ea ⟨g.p, g.c, U, _, b, .cons d1 .nil, w, u, (al_bd.mp q2).mono (fun d b1 h1 v H1 dv w1 f1 => ?_) (fun _ _ _ z => z)⟩
  cases d with
  | str z =>
    obtain ⟨rfl, l⟩ := den_str dv
    exact ⟨z, rfl, h1 _ H1 dv w1 f1⟩
  | _ => exact h1.elim
theorem se_callI {c : Str} {F : List D → Tr D} {tf : TE} {mf : Tr D} {t : TA} {m : Tr (List D)} (hf : SE g E ε tf mf) (ha : SA g E ε t m) : SE g E ε (tCallI (gd c g.K) (spF g.K g.T F) E tf t) (bd mf fun o => isO c o fun _ => bd m fun ds => F (o :: ds)) := fun U σ H b Q R W u q =>
  hf.step R W u q fun v d H1 b1 d1 w1 f1 R1 u1 q1 => by
    obtain ⟨fs, rfl, q3⟩ := al_isO q1
    obtain ⟨a, dx, fvs, rfl, ea, _, _⟩ := den_obj d1
    refine ⟨a, rfl, ha.step R1 w1 u1 q3 fun vs ds H2 b2 d2 w2 f2 R2 u2 q2 => ?_⟩
    have d3 := d1.fr u1 f2
    obtain ⟨a', dx, fvs, e, ea, _, _⟩ := den_obj d3
    cases e
    exact ⟨⟨dx, fvs, ea⟩, g.p, g.c, U, _, b2, .cons d3 d2, w2, u2, q2.mono (fun _ _ h => h.fr (f1.trans f2)) (fun _ _ _ h => h)⟩
theorem se_sm {C : Addr} {r : List V → Hp → VK → Prop} {f : List D → Tr D} {t : TA} {m : Tr (List D)} (hr : SRL g E r f) (ha : SA g E ε t m) : SE g E ε (tSm C r (tC (.ref C)) t) (bd m f) := fun U σ H b Q R W u q =>
  ⟨rfl, ha.step R W u q fun v d H1 b1 d1 w1 f1 R1 u1 q1 => hr U H1 b1 v d Q d1 w1 u1 (q1.mono (fun _ _ h => h.fr f1) (fun _ _ _ h => h))⟩
end
end Gp
namespace Gp
open PySem PySem.Spec PyProof.Rows L2 Gh
section
variable {g : Gw}
def eqF0 (cs : List Str) (d : D) : Bool := match d with
  | .obj c _ => cs.contains c
  | d => (kdN d).isSome
theorem eqR_of {c : Str} {cs : List Str} (h1 : ∀ n ∈ (["NoneType", "bool", "int", "str", "list", "tuple", "dict"] : List String), PySem.W.notFirst g.K (gd c g.K) (.type n) = true) (h2 : ∀ c' ∈ cs, Cls g.K (gd c' g.K) ∧ InsT g.K (gd c' g.K) ∧ PySem.W.notFirst g.K (gd c g.K) (.ref (gd c' g.K)) = true) : EqR g c (eqF0 cs) := fun U H v d dn e => by
  have base : ∀ d, Den g U H v d → (kdN d).isSome = true → ∃ tb, TyX g.K H v tb ∧ PySem.W.notFirst g.K (gd c g.K) tb = true := fun d dn e => by
    cases q : kdN d with
    | none => rw [q] at e; cases e
    | some n =>
      refine ⟨_, kd_ty dn q, h1 n ?_⟩
      cases d <;> cases q <;> decide
  cases d with
  | obj c' fs =>
    obtain ⟨a, dx, fvs, rfl, ea, _, _⟩ := den_obj dn
    obtain ⟨z1, z2, z3⟩ := h2 c' (by simpa [eqF0] using e)
    exact ⟨_, z2.ty z1 ea, z3⟩
  | err c fs => exact base _ dn e
  | non => exact base _ dn e
  | bl b => exact base _ dn e
  | int i => exact base _ dn e
  | str x => exact base _ dn e
  | lst ds => exact base _ dn e
  | tup ds => exact base _ dn e
  | pen => exact base _ dn e
  | cls c => exact base _ dn e
  | dct => exact base _ dn e
  | dic ps => exact base _ dn e
  | dit ps => exact base _ dn e
end
end Gp
namespace Gp
open PySem PySem.Spec PyProof.Rows L2 Gh
theorem fnOk_weak {P : Program} {w : World} {K : PySem.W.Frag} {mg : Str → Option Value} {base : Heap} {CX : CXT} {k : Nat} {f : Addr} {fd : FuncData} {ps : List Str} {sp sp' : Sp} (F : FnOk P w K mg base CX k f fd ps sp) (h : ∀ vs H Q E, sp' vs H Q E → sp vs H Q E) : FnOk P w K mg base CX k f fd ps sp' :=
  ⟨fun vs H Q E z => F.len vs H Q E (h _ _ _ _ z), fun A o s H a us vs Q E hr e0 hb r z => F.run A o s H a us vs Q E hr e0 hb r (h _ _ _ _ z)⟩
def F_draw (x y : D) : Tr D := match x, y with
  | .pen, .int m => .draw m fun d => .ok (.int d)
  | _, _ => .bad
theorem draw_of {K : PySem.W.Frag} {T : List (Addr × Str)} {vs : List V} {H : Hp} {Q : VK} {E : XK} (h : spF K T (ul2 F_draw) vs H Q E) : spDr vs H Q E := by
  obtain ⟨p, c, U, ds, b, dn, wd, u, al⟩ := h
  obtain ⟨x, y, rfl, al2⟩ := al_ul2 al
  obtain ⟨v, w, rfl, d1, d2⟩ := denL_2 dn
  unfold F_draw at al2
  split at al2
  · rename_i m
    cases d1
    cases d2
    obtain ⟨b', rfl, h0, h1, h2⟩ := al2
    refine ⟨p, c, b', m, rfl, h0, log_of h0 h1, wd.pen, fun d H' d0 d1 pn k => ?_⟩
    exact h2 d d0 d1 (.int d) H' (.int d) ⟨pn, tabs_keepP k wd.pen wd.tabs⟩ (keep_fr k)
  · exact al2.elim
end Gp
end
section
set_option Elab.async false
set_option linter.all false
set_option maxRecDepth 100000
set_option maxHeartbeats 4000000
namespace Gp
open PySem PySem.Spec PyProof.Rows L2 Gh
def tryT {α β : Type} : Tr α → (α → Tr β) → (Str → Fs → Tr β) → Tr β
  | .ok a, k, _ => k a
  | .ex c fs, _, x => x c fs
  | .bad, _, _ => .bad
  | .draw m f, k, x => .draw m fun d => tryT (f d) k x
theorem al_try {α β : Type} {P : β → Nat → Prop} {E : Str → Fs → Nat → Prop} {m : Tr α} {k : α → Tr β} {x : Str → Fs → Tr β} {b : Nat} : Al P E (tryT m k x) b ↔ Al (fun a b1 => Al P E (k a) b1) (fun c fs b1 => Al P E (x c fs) b1) m b := by
  induction m generalizing b with
  | draw m f ih =>
    constructor
    · rintro ⟨b', e, h1, h2, h3⟩
      exact ⟨b', e, h1, h2, fun d d0 d1 => (ih d).mp (h3 d d0 d1)⟩
    · rintro ⟨b', e, h1, h2, h3⟩
      exact ⟨b', e, h1, h2, fun d d0 d1 => (ih d).mpr (h3 d d0 d1)⟩
  | _ => exact Iff.rfl
def THd (K : PySem.W.Frag) (T : List (Addr × Str)) (FH : Tr D → Tr D) : (XK → Hp → VK → Prop) → Hp → VK → Prop := fun tl H Q => ∃ p c U b m, Wd ⟨K, T, p, c⟩ H b ∧ UOk ⟨K, T, p, c⟩ U H ∧
  (∀ (E : XK) H' b' Q', Fr H H' p → Wd ⟨K, T, p, c⟩ H' b' → Al (okP ⟨K, T, p, c⟩ U H' Q') (exP ⟨K, T, p, c⟩ U E H') m b' → tl E H' Q') ∧ Al (okP ⟨K, T, p, c⟩ U H Q) (fun _ _ _ => False) (FH m) b
section
variable {g : Gw} {Mt U0 U U' : Addr → Prop} {H0 H H' H1 H2 : Hp} {b b1 : Nat} {σ : L2.St} {ε ε' : Env} {E : XK} {W L W' : Type}
variable {env : W → Env} {envL : L → Env} {env' : W' → Env} {u ta tb : TS} {te : TE} {me : Tr D}
theorem UOk.extN (u : UOk g U H) (n : LamX.ExtN H H') : UOk g U H' := ⟨u.p, u.c, fun a ha => by
  obtain ⟨o, h, z⟩ := u.al a ha
  exact ⟨o, n a o h z, z⟩⟩
theorem se_lam {FH : Tr D → Tr D} {t : XK → TE} {m : Tr D} (h : ∀ E, SE g E ε (t E) m) : SE g E ε (LamX.tLam g.T (THd g.K g.T FH) t) (nox (FH m)) := fun U σ H b Q R W u q => by
  refine ⟨W.tabs, fun H1 n t1 => ⟨g.p, g.c, U, b, m, ⟨W.pen.extN n, t1⟩, u.extN n, fun E H' b' Q' f w' a' => ?_, ?_⟩⟩
  · have f1 : Fr H H' g.p := (ext_fr n).trans f
    exact h E U σ H' b' Q' (R.fr u f1) w' (u.fr f1 w') a'
  · exact Al.mono (fun _ _ z => okP.fr (ext_fr n) z) (fun _ _ _ z => z) (al_nox (E' := fun _ _ _ => False) q)
theorem rel_err {n i j : Nat} {a dd : Addr} {cl : Str} {fvs : List (Str × V)} {fs : Fs} (hl : σ.length = n) (hi : i < n) (hj : j < n) (hij : i ≠ j) (ha : H a = some (exk a (gd cl g.K) dd)) (na : ¬ U a) (hd : H dd = some (.xd fvs)) (nd : ¬ U dd) (df : DenF g U H fvs fs) :
    Rel g U H (((σ.set i (some (.ref a))).set j (some (.ref a))).set i none) ((List.replicate n Sl.no).set j (.fz (.err cl fs))) := by
  have no : ∀ k x, ¬ OwnAt (((σ.set i (some (.ref a))).set j (some (.ref a))).set i none) ((List.replicate n Sl.no).set j (.fz (.err cl fs))) k x := fun k x ⟨_, z⟩ => by
    have : ∀ s : Sl, ((List.replicate n Sl.no).set j (.fz (.err cl fs)))[k]? = some s → (∃ d, s = .fz d) ∨ s = .no := fun s e => by
      have m := List.mem_of_getElem? e
      rcases List.mem_or_eq_of_mem_set m with m | m
      · exact .inr (List.mem_replicate.mp m).2
      · exact .inl ⟨_, m⟩
    rcases z with ⟨x, z⟩ | ⟨x, y, z⟩
    · rcases this _ z with ⟨d, e⟩ | e <;> cases e
    · rcases this _ z with ⟨d, e⟩ | e <;> cases e
  refine ⟨by simp only [List.length_set, List.length_replicate]; exact hl, fun k s e => ?_, fun _ _ x _ h1 _ => (no _ x h1).elim⟩
  by_cases q : j = k
  · subst q
    rw [List.getElem?_set_self (by rw [List.length_replicate]; exact hj)] at e
    cases e
    refine ⟨some (.ref a), ?_, _, rfl, .err ha na hd nd df⟩
    rw [List.getElem?_set_ne hij, List.getElem?_set_self (by rw [List.length_set, hl]; exact hj)]
  · rw [List.getElem?_set_ne q, List.getElem?_replicate] at e
    split at e
    · rename_i hk
      cases e
      refine ⟨_, List.getElem?_eq_getElem (by simp only [List.length_set]; rw [hl]; exact hk), trivial⟩
    · cases e
theorem fin_al {P : D → Nat → Prop} {X : Str → Fs → Nat → Prop} {m : Tr (Fl Unit Empty)} (h : Al P X (fin m) b) : Al (fun f b => match f with | .nx _ => P .non b | .rt d => P d b | .bk e => nomatch e | .ct e => nomatch e) X m b := by
  refine (al_bd.mp h).mono (fun f b h => ?_) (fun _ _ _ h => h)
  cases f with
  | nx w => exact h
  | rt d => exact h
  | bk e => exact nomatch e
  | ct e => exact nomatch e
theorem run_rest {t : TS} {envU : Unit → Env} {m : Tr (Fl Unit Empty)} {Q : VK} (ss : SS g EF ε t envU envE m) (R : Rel g U H1 σ ε) (no : ∀ i a, ¬ OwnAt σ ε i a) (w : Wd g H1 b) (u : UOk g U H1) (f : Fr H H1 g.p) (al : Al (okP g U H Q) (fun _ _ _ => False) (fin m) b) :
    t { nx := fun _ H' => Q .non H', rt := Q } σ H1 := by
  refine ss (fun _ => False) U H U _ _ H1 b ⟨R, w, u, fun _ z => z, fun i a z => (no i a z).elim, fun a o z1 z2 _ z3 => f a o z1 z2 z3, fun i ds' a z1 z2 => (no i a ⟨z2, .inl ⟨ds', z1⟩⟩).elim, fun i c fs a z1 z2 => (no i a ⟨z2, .inr ⟨c, fs, z1⟩⟩).elim⟩ ((fin_al al).mono (fun f b1 h1 => ?_) (fun c fs b1 h1 => h1.elim))
  cases f with
  | nx w => exact fun U' σ' H' e s => h1 .non H' .non s.wd fun a o z1 z2 z3 => s.ext a o z1 z2 (fun z => z) z3
  | rt d => exact fun v H' dn w f => h1 v H' dn w fun a o z1 z2 z3 => f a o z1 z2 (fun z => z) z3
  | bk e => exact nomatch e
  | ct e => exact nomatch e
theorem no_err {n j : Nat} {d : D} : ∀ i a, ¬ OwnAt σ ((List.replicate n Sl.no).set j (.fz d)) i a := fun k x ⟨_, z⟩ => by
  have : ∀ s : Sl, ((List.replicate n Sl.no).set j (.fz d))[k]? = some s → (∃ d, s = .fz d) ∨ s = .no := fun s e => by
    have m := List.mem_of_getElem? e
    rcases List.mem_or_eq_of_mem_set m with m | m
    · exact .inr (List.mem_replicate.mp m).2
    · exact .inl ⟨_, m⟩
  rcases z with ⟨x, z⟩ | ⟨x, y, z⟩
  · rcases this _ z with ⟨d, e⟩ | e <;> cases e
  · rcases this _ z with ⟨d, e⟩ | e <;> cases e
def ExH (g : Gw) (U : Addr → Prop) (H : Hp) (Q : VK) (x : Str → Fs → Tr D) : XK := fun cls d H' => ∃ cl fs b1 dd fvs, cls = .ref (gd cl g.K) ∧ d = some dd ∧ H' dd = some (.xd fvs) ∧ ¬ U dd ∧ DenF g U H' fvs fs ∧ Wd g H' b1 ∧ Fr H H' g.p ∧ Al (okP g U H Q) (fun _ _ _ => False) (x cl fs) b1
theorem clause {n i j : Nat} {trest : TS} {mrest : D → Tr (Fl Unit Empty)} {envU : Unit → Env} {xh : Str → Bool} {HE : Addr} {Wout : WX} {Q : VK} (hi : i < n) (hj : j < n) (hij : i ≠ j)
    (hx : ∀ cl, xh cl = true → PySem.W.exmOne g.K (.ref (gd cl g.K)) (.ref HE) = some true)
    (hs : ∀ cl fs, SS g EF ((List.replicate n Sl.no).set j (.fz (.err cl fs))) trest envU envE (mrest (.err cl fs))) (u : UOk g U H) :
    ∀ cls d σ' H', ExH g U H Q (fun cl fs => if xh cl = true then nox (fin (mrest (.err cl fs))) else .bad) cls d H' → σ'.length = n → wAsK g.K (.ref HE) i (fun a cls d => tAsg (tVar i) (gName j)) Wout { nx := trest { nx := fun _ H' => Q .non H', rt := Q }, rt := Q } cls d σ' H' := by
  rintro cls d σ' H' ⟨cl, fs, b1, dd, fvs, rfl, rfl, hd, nd, df, wd, f, al⟩ hl
  dsimp only at al
  by_cases hxc : xh cl = true
  · rw [if_pos hxc] at al
    refine ⟨true, hx cl hxc, fun _ => ⟨_, dd, rfl, rfl, fun a na => ?_⟩, fun z => by cases z⟩
    refine ⟨.ref a, List.getElem?_set_self (by rw [hl]; exact hi), fun na' => ?_⟩
    have s1 : L2.Same H' (upd H' a (exk a (gd cl g.K) dd)) := same_new na
    have u' := u.fr f wd
    have nU : ¬ U a := u'.new na
    exact run_rest (hs cl fs) (rel_err hl hi hj hij upd_same nU (s1 _ _ hd) nd (df.ext (u'.extU (fr_same s1)))) no_err (wd.same s1) (u'.fr (fr_same s1) (wd.same s1)) (f.trans (fr_same s1)) (al_nox al)
  · rw [if_neg hxc] at al
    exact al.elim
theorem heardA {N : List Str} {f : Addr} {m : Tr D} {n i j : Nat} {trest : TS} {mrest : D → Tr (Fl Unit Empty)} {envU : Unit → Env} {xh : Str → Bool} {HE : Addr} {Wout : WX} {Q : VK} {tR : XK → TE} {kR : D → Tr D} (hn : (L2.start N [V.ref f]).length = n) (hi : i < n) (hj : j < n) (hij : i ≠ j) (hj0 : j ≠ 0)
    (hx : ∀ cl, xh cl = true → PySem.W.exmOne g.K (.ref (gd cl g.K)) (.ref HE) = some true)
    (hs : ∀ cl fs, SS g EF ((List.replicate n Sl.no).set j (.fz (.err cl fs))) trest envU envE (mrest (.err cl fs)))
    (hR : ∀ (E : XK) (σ : L2.St) H' b' Q', σ[0]? = some (some (.ref f)) → Fr H H' g.p → Wd g H' b' → UOk g U H' → Al (okP g U H' Q') (exP g U E H') (bd m kR) b' → tR E σ H' Q')
    (wd : Wd g H b) (u : UOk g U H) (al : Al (okP g U H Q) (fun _ _ _ => False) (tryT (bd m kR) .ok (fun cl fs => if xh cl = true then nox (fin (mrest (.err cl fs))) else .bad)) b) :
    tSeq (tAsg (tC .non) (gName j)) (tSeq (fun D σ H => tTry n (fun E => tRet (tR E)) (wAsK g.K (.ref HE) i (fun a cls d => tAsg (tVar i) (gName j)) Wout D) D σ H) trest) { nx := fun _ H' => Q .non H', rt := Q } (L2.start N [.ref f]) H := by
  refine ⟨ExH g U H Q (fun cl fs => if xh cl = true then nox (fin (mrest (.err cl fs))) else .bad), clause hi hj hij hx hs u, ?_⟩
  refine hR _ _ H b Q ?_ Fr.refl wd u ((al_try.mp al).mono (fun d b1 h => h) (fun cl fs b1 h dd fvs H' e1 e2 e3 e4 e5 => ⟨cl, fs, b1, dd, fvs, rfl, rfl, e1, e2, e3, e4, e5, h⟩))
  rw [List.getElem?_set_ne hj0]
  rfl
theorem act_lst {f c' : Addr} {q : Str} {tl : XK → Hp → VK → Prop} {m : Tr D} (hc : H c' = some (LamX.CodeO c' q)) (cp : c' ≠ g.p)
    (ha : ∀ (E : XK) H' b' Q', Fr H H' g.p → Wd g H' b' → Al (okP g U H' Q') (exP g U E H') m b' → tl E H' Q') :
    ∀ (E : XK) (σ : L2.St) H' b' Q', σ[0]? = some (some (.ref f)) → Fr H H' g.p → Wd g H' b' → UOk g U H' → Al (okP g U H' Q') (exP g U E H') (bd m fun d => .ok (.lst [d])) b' → tLst (tCons (tAct f c' q (tl E)) tNil) σ H' Q' :=
  fun E σ H' b' Q' e fr wd u al => ⟨e, fr _ _ hc cp (fun _ z => LamX.codeO_ne _ z), ha E H' b' _ fr wd ((al_bd.mp al).mono (fun d b1 h v H1 dn w1 f1 => ⟨by show 1 ≤ sizeLine; decide, fun p np => (by
    have s := same_new (o := .lst [v]) np
    have u1 := u.fr f1 w1
    exact h _ _ (.lst upd_same (u1.new np) (by show 1 ≤ sizeLine; decide) (.cons (dn.ext (u1.extU (fr_same s))) .nil)) (w1.same s) (f1.trans (fr_same s)))⟩) (fun _ _ _ h => h))⟩
theorem code_np {p c c' : Addr} {K : PySem.W.Frag} {T : List (Addr × Str)} {q : Str} (w : Wd ⟨K, T, p, c⟩ H b) (hc : H c' = some (LamX.CodeO c' q)) : c' ≠ p := fun z => by
  obtain ⟨ns, i, y, h1, _⟩ := w.pen
  subst z
  rw [hc] at h1
  unfold LamX.CodeO at h1
  cases h1
def xaD (tab : List Str) (f : Str) (o : D) : Tr D := match o with
  | .err c fs => if c ∈ tab then (match fs.lookup f with | some d => .ok d | none => .bad) else .bad
  | _ => .bad
theorem se_xa {tab : List Str} {f : Str} (hT : ∀ c ∈ tab, ErrT g.K (gd c g.K) ∧ PySem.W.findIn g.K (.ref (gd c g.K)) f = some none) (he : SE g E ε te me) : SE g E ε (tXa g.K f te) (bd me (xaD tab f)) := fun U σ H b Q R W u q =>
  he.step R W u q fun v d H1 b1 d1 w1 f1 R1 u1 q1 => by
    cases d1 with
    | err ha na hd nd df =>
      rename_i a dd c fvs fs
      change Al _ _ (if c ∈ tab then (match fs.lookup f with | some d => .ok d | none => .bad) else .bad) b1 at q1
      split at q1
      · rename_i hm
        cases e : fs.lookup f with
        | none => rw [e] at q1; exact q1.elim
        | some d =>
          rw [e] at q1
          obtain ⟨v, hv, d2⟩ := df.look e
          exact ⟨a, _, dd, fvs, v, rfl, ha, (hT c hm).1, (hT c hm).2, hd, hv, q1 _ _ d2 w1 f1⟩
      · exact q1.elim
    | _ => exact q1.elim
end
end Gp
end
section
set_option Elab.async false
set_option linter.all false
set_option maxRecDepth 100000
set_option maxHeartbeats 4000000
namespace Gp
open PySem PySem.Spec PyProof.Rows L2 Gh
section
variable {g : Gw} {Mt U0 U U' : Addr → Prop} {H0 H H' H1 H2 : Hp} {b b1 b2 : Nat} {σ : L2.St} {ε ε' : Env} {E : XK} {W L W' : Type}
variable {env : W → Env} {envL : L → Env} {env' : W' → Env} {u ta tb : TS} {te : TE} {me : Tr D}
def plD : D → Tr D
  | .non => .ok .non
  | .bl b => .ok (.bl b)
  | .int i => .ok (.int i)
  | .str x => .ok (.str x)
  | _ => .bad
end
section
variable {K : PySem.W.Frag} {x qual file : Str} {params : Arguments} {body : List Stmt} {scope : Scope} {dvs : List V} {f B : Addr} {fd : FuncData} {ps : List Str}
theorem SupF.bindsN (F : SupF K x qual params body scope [] f B file fd)
    (h : ∀ (cl : List (Str × Addr)) (kV doc pm : Value) (an : Option Addr) (cdv ct : Value) (us : List Value), us.length = ps.length → bindArgs (PySem.W.fnX x qual params body scope cl .none kV doc pm an cdv ct) ⟨us, []⟩ = pure (ps.zip us)) : Binds K fd ps [] := by
  obtain ⟨oc, od, dV, kV, doc, pm, an, cda, ct, osl, cc, rfl, lk, hcd, hD, _⟩ := F.ex
  rcases hD with ⟨_, rfl⟩ | ⟨e, _⟩
  · exact .all (h _ kV doc pm an _ ct)
  · exact absurd rfl e
end
end Gp
end
section
set_option Elab.async false
set_option linter.all false
set_option maxRecDepth 100000
set_option maxHeartbeats 4000000
namespace Gp
open PySem PySem.Spec PyProof.Rows L2 Gh
section
variable {g : Gw} {Mt U0 U U' : Addr → Prop} {H0 H H' H1 H2 : Hp} {b b1 : Nat} {σ : L2.St} {ε ε' : Env} {W L W' : Type} {yd : List D}
variable {env : W → Env} {envL : L → Env} {env' : W' → Env} {u ta tb : TGn} {te : TE} {me : Tr D}
def gflP (g : Gw) (Mt U0 : Addr → Prop) (H0 : Hp) (U : Addr → Prop) (H : Hp) (D : GEnds) (env : W → Env) (envL : L → Env) : List Gp.D × Fl W L → Nat → Prop
  | (zs, .nx w), b => ∀ U' σ' H' ys', Ev U H U' H' → Stt g Mt U0 H0 U' σ' H' b (env w) → DenL g U' H' ys' zs → D.nx ys' σ' H'
  | (_, .rt _), _ => False
  | (zs, .bk w), b => ∀ U' σ' H' ys', Ev U H U' H' → Stt g Mt U0 H0 U' σ' H' b (envL w) → DenL g U' H' ys' zs → D.bk ys' σ' H'
  | (zs, .ct w), b => ∀ U' σ' H' ys', Ev U H U' H' → Stt g Mt U0 H0 U' σ' H' b (envL w) → DenL g U' H' ys' zs → D.ct ys' σ' H'
theorem gflP.ev {U1 : Addr → Prop} {H1 : Hp} {D : GEnds} {env : W → Env} {envL : L → Env} (e : Ev U H U1 H1) : ∀ {f : List Gp.D × Fl W L}, gflP g Mt U0 H0 U H D env envL f b → gflP g Mt U0 H0 U1 H1 D env envL f b
  | (_, .nx w), h => fun U' σ' H' ys' e1 => h U' σ' H' ys' (e.trans e1)
  | (_, .rt d), h => h
  | (_, .bk w), h => fun U' σ' H' ys' e1 => h U' σ' H' ys' (e.trans e1)
  | (_, .ct w), h => fun U' σ' H' ys' e1 => h U' σ' H' ys' (e.trans e1)
def SG (g : Gw) (ε : Env) (t : TGn) (env : W → Env) (envL : L → Env) (m : List D → Tr (List D × Fl W L)) : Prop := ∀ Mt U0 H0 U D ys yd σ H b, Stt g Mt U0 H0 U σ H b ε → DenL g U H ys yd → Al (gflP g Mt U0 H0 U H D env envL) (fun _ _ _ => False) (m yd) b → t D ys σ H
def bdG (m : Tr (List D × Fl W' L)) (k : W' → List D → Tr (List D × Fl W L)) : Tr (List D × Fl W L) := bd m fun r => match r with
  | (zs, .nx w) => k w zs
  | (zs, .rt d) => .ok (zs, .rt d)
  | (zs, .bk l) => .ok (zs, .bk l)
  | (zs, .ct l) => .ok (zs, .ct l)
theorem SG.seq {m : List D → Tr (List D × Fl W' L)} {k : W' → List D → Tr (List D × Fl W L)} (h1 : SG g ε ta env' envL m) (h2 : ∀ w, SG g (env' w) u env envL (k w)) : SG g ε (tGThen ta u) env envL (fun yd => bdG (m yd) k) := fun Mt U0 H0 U D ys yd σ H b s dn q => by
  refine h1 Mt U0 H0 U { D with nx := fun ys' σ' H' => u D ys' σ' H' } ys yd σ H b s dn ((al_bd.mp q).mono (fun r b1 h => ?_) (fun _ _ _ z => z))
  obtain ⟨zs, f⟩ := r
  cases f with
  | nx w => exact fun U1 σ1 H1 ys1 e1 s1 d1 => h2 w Mt U0 H0 U1 D ys1 zs σ1 H1 b1 s1 d1 (Al.mono (fun _ _ z => z.ev e1) (fun _ _ _ z => z) h)
  | rt d => exact h.elim
  | bk l => exact h
  | ct l => exact h
end
section
variable {P : Program} {w : World} {K : PySem.W.Frag} {mg : Str → Option Value} {base : Heap}
end
end Gp
end
section
set_option Elab.async false
set_option linter.all false
set_option maxRecDepth 100000
set_option maxHeartbeats 4000000
namespace GQ
open PySem PySem.SeqAt
open AutoSeq1 (wpAny_loadPart')
open MeetsSeq MeetsSeq2 MeetsSeq3 SeqRoads2
section
variable {prog : Program} {w : World} {A : Around} {R : Result → Shared → Prop}
end
section
variable {prog : Program} {w : World} {A : Around} {E : Value → Shared → Prop} {s : Shared}
end
end GQ
namespace Gp
open PySem PySem.Spec PyProof.Rows L2 Gh
section
variable {X : Cx} {n : Nat} {Go : Hp → Prop} {Dq : V → V → Bool → Prop}
def EqB (X : Cx) (n : Nat) (Go : Hp → Prop) (Dq : V → V → Bool → Prop) : Prop :=
  ∀ (A : Around) (pins : List (Addr × Obj)) (s : Shared) (σ : L2.St) (H : Hp) (x y : V) (u v : Value) (k : Bool), L2.Sub X n A → L2.Inv X pins σ H s → RelV x u → RelV y v → Go H → Dq x y k →
    wpAny (model X.prog X.w) A (eqBool u v) (fun r s' => r = k ∧ ∃ H', L2.Inv X pins σ H' s' ∧ Go H') X.xe s
inductive OutQ (Dq : V → V → Bool → Prop) : List V → List V → Bool → Prop
  | nil : OutQ Dq [] [] true
  | l {y : V} {ys : List V} : OutQ Dq [] (y :: ys) false
  | r {x : V} {xs : List V} : OutQ Dq (x :: xs) [] false
  | t {x y : V} {xs ys : List V} {k : Bool} : Dq x y true → OutQ Dq xs ys k → OutQ Dq (x :: xs) (y :: ys) k
  | f {x y : V} {xs ys : List V} : Dq x y false → OutQ Dq (x :: xs) (y :: ys) false
theorem eqB_ins {CX : CXT} {C C' f : Addr} {fd : FuncData} {ps : List Str} {sp : L2.Sp} {E : XK} (F : FnOk X.prog X.w X.K X.mg X.base CX n f fd ps sp)
    (hs : PySem.W.findIn X.K (.ref C) "__eq__" = some (some (.ref f))) (hf : PySem.W.isFn X.K (.ref f) = true) (hb : Binds X.K fd ps []) (hx : Passes CX X E) (nf : PySem.W.notFirst X.K C (.ref C') = true)
    {A : Around} {pins : List (Addr × Obj)} {s : Shared} {σ : L2.St} {H : Hp} {a b dx dy : Addr} {fs gs : List (Str × V)} {k : Bool} (sb : L2.Sub X n A) (I : L2.Inv X pins σ H s) (hG : Go H)
    (ha : H a = some (.ins C dx fs)) (hb' : H b = some (.ins C' dy gs)) (hab : a = b → k = true) (hsp : sp [.ref a, .ref b] H (fun v H' => v = .bl k ∧ Go H') E) :
    wpAny (model X.prog X.w) A (eqBool (.ref a) (.ref b)) (fun r s' => r = k ∧ ∃ H', L2.Inv X pins σ H' s' ∧ Go H') X.xe s := by
  by_cases e : a = b
  · rw [hab e]
    subst e
    exact SeqAt.EqAt.same (A := A) (s := s) (.ref a) X.prog X.w X.xe _ ⟨rfl, H, I, hG⟩
  refine GQ.eqBool_refG e (wpAny_mono (Q := fun r s' => r = .bool k ∧ ∃ H', L2.Inv X pins σ H' s' ∧ Go H') ?_ (fun r s' q => ⟨k, q.1, rfl, q.2⟩) fun _ _ x => x)
  obtain ⟨mA, J, _⟩ := ins_get I.hok ha
  obtain ⟨mB, J', _⟩ := ins_get I.hok hb'
  obtain ⟨od, J, _⟩ := J.look
  obtain ⟨od', J', _⟩ := J'.look
  obtain ⟨m, hF⟩ := I.fr
  refine PySem.W.cmp_K (op := .Eq) (tb := .ref C') sb.room.units0 hF I.ok.mod.kin J J'.type nf hs hf ?_
  have e0 : Env0 X.prog X.w X.K X.mg X.base A X.stack s H := by
    have e := I.env0
    exact ⟨by rw [sb.fr]; exact e.frames, e.mod, e.bs, e.bsz, e.funs, e.frf, e.hok, e.bare⟩
  have hl := F.len _ _ _ _ hsp
  have r2 : Vals [V.ref a, V.ref b] [Value.ref a, Value.ref b] := .cons rfl (.cons rfl .nil)
  refine wpAny_call (codeAny_mono (F.run A X.stack s H ⟨[.ref a, .ref b], []⟩ [.ref a, .ref b] [.ref a, .ref b] _ E sb.room e0 (by
    have := hb s [.ref a, .ref b] I.kIn (by simpa using hl)
    simpa using this) r2 hsp) fun r s' hq => ?_)
  cases r with
  | error e => exact hx pins σ H s e s' I hq
  | ok fl =>
    cases fl with
    | ret w =>
      obtain ⟨z, H', I', rz, ez, ex⟩ := I.after hq
      subst ez
      cases rz
      exact ⟨rfl, H', I', ex⟩
    | next => exact False.elim hq
    | brk => exact False.elim hq
    | cont => exact False.elim hq
def DqO (K : PySem.W.Frag) (owns : List (Addr × L2.Sp)) (Go : Hp → Prop) (E : XK) : V → V → Bool → Prop := fun x y k => ∃ (a b C C' : Addr) (sp : L2.Sp), x = .ref a ∧ y = .ref b ∧ (C, sp) ∈ owns ∧ PySem.W.notFirst K C (.ref C') = true ∧
  (∀ (X : Cx) (pins : List (Addr × Obj)) (σ : L2.St) (s : Shared) (H : Hp), X.K = K → L2.Inv X pins σ H s → Go H → a = b → k = true) ∧
  ∀ H, Go H → (∃ dx fs, H a = some (.ins C dx fs)) ∧ (∃ dy gs, H b = some (.ins C' dy gs)) ∧ sp [.ref a, .ref b] H (fun v H' => v = .bl k ∧ Go H') E
def OwnQ (X : Cx) (CX : CXT) (n : Nat) (p : Addr × L2.Sp) : Prop := ∃ (f : Addr) (fd : FuncData) (ps : List Str) (k : Nat), k ≤ n ∧ FnOk X.prog X.w X.K X.mg X.base CX k f fd ps p.2 ∧ PySem.W.findIn X.K (.ref p.1) "__eq__" = some (some (.ref f)) ∧ PySem.W.isFn X.K (.ref f) = true ∧ Binds X.K fd ps []
theorem ownQ_of {CX : CXT} {k : Nat} {C f : Addr} {sp : L2.Sp} (hm : Meth X.K C "__eq__" f) (F : PromO X.prog X.w X.K X.mg X.base CX k f [] sp) (hk : k ≤ n) : OwnQ X CX n (C, sp) := by
  obtain ⟨fd, ps, ds, G, b, v⟩ := F
  cases v
  exact ⟨f, fd, ps, k, hk, G, hm.at_, hm.fn, b⟩
end
mutual
def differ : D → D → Bool
  | .bl a, .bl b => a != b
  | .int i, .int j => i != j
  | .str x, .str y => x != y
  | .tup ds, .tup es => differL ds es
  | .lst ds, .lst es => differL ds es
  | .obj _ fs, .obj _ gs => differF fs gs
  | _, _ => false
def differL : List D → List D → Bool
  | [], [] => false
  | d :: ds, e :: es => differ d e || differL ds es
  | _, _ => true
def differF : List (Str × D) → List (Str × D) → Bool
  | [], [] => false
  | (n, d) :: ds, (m, e) :: es => n != m || (differ d e || differF ds es)
  | _, _ => true
end
section
variable {g : Gw} {U : Addr → Prop} {H : Hp}
mutual
theorem den_same (ti : ∀ a xs ys, SqT g.K H a xs → SqT g.K H a ys → xs = ys) : ∀ {v : V} {d : D}, Den g U H v d → ∀ {e : D}, Den g U H v e → differ d e = false
  | _, _, .non, _, k => by simp [differ]
  | _, _, .bl b, _, k => by cases k; simp [differ]
  | _, _, .int i, _, k => by cases k; simp [differ]
  | _, _, .str x h, _, k => by cases k; simp [differ]
  | _, _, .tup h n l r, _, k => by
    cases k with
    | tup h' n' l' r' =>
      cases ti _ _ _ (SqT.of h) (SqT.of h')
      simp only [differ]
      exact denL_same ti r r'
    | tupW h' l' r' =>
      cases ti _ _ _ (SqT.of h) (h' H)
      simp only [differ]
      exact denL_same ti r r'
    | _ => simp [differ]
  | _, _, .tupW h l r, _, k => by
    cases k with
    | tup h' n' l' r' =>
      cases ti _ _ _ (h H) (SqT.of h')
      simp only [differ]
      exact denL_same ti r r'
    | tupW h' l' r' =>
      cases ti _ _ _ (h H) (h' H)
      simp only [differ]
      exact denL_same ti r r'
    | _ => simp [differ]
  | _, _, .lst h n l r, _, k => by
    cases k with
    | lst h' n' l' r' =>
      cases h.symm.trans h'
      simp only [differ]
      exact denL_same ti r r'
    | _ => simp [differ]
  | _, _, .obj h n r, _, k => by
    cases k with
    | obj h' n' r' =>
      have z := h.symm.trans h'
      simp only [Option.some.injEq, HO.ins.injEq] at z
      obtain ⟨_, _, z3⟩ := z
      subst z3
      simp only [differ]
      exact denF_same ti r r'
    | _ => simp [differ]
  | _, _, .err .., _, k => by simp [differ]
  | _, _, .pen, _, k => by simp [differ]
  | _, _, .cls c, _, k => by simp [differ]
  | _, _, .dct _ _, _, k => by simp [differ]
  | _, _, .dic .., _, k => by simp [differ]
  | _, _, .dit .., _, k => by simp [differ]
theorem denL_same (ti : ∀ a xs ys, SqT g.K H a xs → SqT g.K H a ys → xs = ys) : ∀ {vs : List V} {ds : List D}, DenL g U H vs ds → ∀ {es : List D}, DenL g U H vs es → differL ds es = false
  | _, _, .nil, _, k => by cases k; simp [differL]
  | _, _, .cons a r, _, k => by
    cases k with
    | cons a' r' =>
      simp only [differL]
      rw [den_same ti a a', denL_same ti r r']
      rfl
theorem denF_same (ti : ∀ a xs ys, SqT g.K H a xs → SqT g.K H a ys → xs = ys) : ∀ {vs : List (Str × V)} {ds : List (Str × D)}, DenF g U H vs ds → ∀ {es : List (Str × D)}, DenF g U H vs es → differF ds es = false
  | _, _, .nil, _, k => by cases k; simp [differF]
  | _, _, .cons a r, _, k => by
    cases k with
    | cons a' r' =>
      simp only [differF]
      rw [den_same ti a a', denF_same ti r r']
      simp
end
end
abbrev EqTab := List (Str × (List D → Tr D))
def itE (es : EqTab) (x y : D) : Option Bool := match x, y with
  | .obj c _, .obj c' _ => match es.lookup c, es.lookup c' with
    | some F, some _ => match F [x, y] with
      | .ok (.bl true) => some true
      | .ok (.bl false) => if differ x y = true then some false else none
      | _ => none
    | _, _ => none
  | _, _ => none
def eqLs (es : EqTab) : List D → List D → Tr Bool
  | [], [] => .ok true
  | d :: ds, e :: fs => match itE es d e with
    | some true => eqLs es ds fs
    | some false => .ok false
    | none => .bad
  | _, _ => .ok false
theorem look_mem {es : EqTab} {c : Str} {F : List D → Tr D} (h : es.lookup c = some F) : (c, F) ∈ es := by
  induction es with
  | nil => cases h
  | cons p es ih =>
    obtain ⟨c', F'⟩ := p
    rw [List.lookup_cons] at h
    by_cases e : c = c'
    · subst e
      simp only [BEq.rfl] at h
      cases h
      exact List.mem_cons_self
    · have e' : (c == c') = false := by simpa using e
      rw [e'] at h
      exact List.mem_cons_of_mem _ (ih h)
theorem itE_some {es : EqTab} {d e : D} {k : Bool} (h : itE es d e = some k) : ∃ c fs c' gs F F', d = .obj c fs ∧ e = .obj c' gs ∧ (c, F) ∈ es ∧ (c', F') ∈ es ∧ F [d, e] = .ok (.bl k) ∧ (k = false → differ d e = true) := by
  unfold itE at h
  split at h
  · rename_i c fs c' gs
    split at h
    · rename_i F F' h1 h2
      split at h
      · rename_i z
        cases h
        exact ⟨c, fs, c', gs, F, F', rfl, rfl, look_mem h1, look_mem h2, z, fun y => nomatch y⟩
      · rename_i z
        split at h
        · rename_i y
          cases h
          exact ⟨c, fs, c', gs, F, F', rfl, rfl, look_mem h1, look_mem h2, z, fun _ => y⟩
        · cases h
      · cases h
    · cases h
  · cases h
theorem eqLs_ok {es : EqTab} : ∀ (ds fs : List D), (∃ k, eqLs es ds fs = .ok k) ∨ eqLs es ds fs = .bad
  | [], [] => .inl ⟨_, rfl⟩
  | [], _ :: _ => .inl ⟨_, rfl⟩
  | _ :: _, [] => .inl ⟨_, rfl⟩
  | d :: ds, e :: fs => by
    unfold eqLs
    split
    · exact eqLs_ok ds fs
    · exact .inl ⟨_, rfl⟩
    · exact .inr rfl
section
variable {g : Gw} {U : Addr → Prop} {H : Hp} {E : XK} {b : Nat}
def GoT (g : Gw) (H0 : Hp) (b : Nat) : Hp → Prop := fun H => Wd g H b ∧ Fr H0 H g.p
theorem dq_item {es : EqTab} (nf : ∀ p ∈ es, ∀ p' ∈ es, PySem.W.notFirst g.K (gd p.1 g.K) (.ref (gd p'.1 g.K)) = true) {d e : D} {x y : V} {k : Bool} (h : itE es d e = some k) (d1 : Den g U H x d) (d2 : Den g U H y e) (u : UOk g U H) :
    DqO g.K (es.map fun p => (gd p.1 g.K, spF g.K g.T p.2)) (GoT g H b) E x y k := by
  obtain ⟨c, fs, c', gs, F, F', rfl, rfl, m1, m2, eF, hd⟩ := itE_some h
  obtain ⟨a, da, fa, rfl, ea, na, _⟩ := den_obj d1
  obtain ⟨a2, da2, fa2, rfl, ea2, na2, _⟩ := den_obj d2
  refine ⟨a, a2, gd c g.K, gd c' g.K, spF g.K g.T F, rfl, rfl, List.mem_map.mpr ⟨_, m1, rfl⟩, nf _ m1 _ m2, fun X pins σ s H' hK I hG hab => ?_, fun H' hG => ?_⟩
  · subst hab
    have z1 := d1.ext (u.extU hG.2)
    have z2 := d2.ext (u.extU hG.2)
    have z := den_same (fun a xs ys h1 h2 => I.tuple_inj (hK ▸ h1) (hK ▸ h2)) z1 z2
    cases k with
    | true => rfl
    | false => rw [hd rfl] at z; cases z
  · have z1 := d1.ext (u.extU hG.2)
    have z2 := d2.ext (u.extU hG.2)
    obtain ⟨b1, db, fb, eb, eb1, _, _⟩ := den_obj z1
    obtain ⟨b2, db2, fb2, eb2, eb3, _, _⟩ := den_obj z2
    cases eb
    cases eb2
    refine ⟨⟨_, _, eb1⟩, ⟨_, _, eb3⟩, g.p, g.c, U, [.obj c fs, .obj c' gs], b, .cons z1 (.cons z2 .nil), hG.1, u.fr hG.2 hG.1, ?_⟩
    rw [eF]
    intro v H2 dv w2 f2
    cases dv
    exact ⟨rfl, w2, hG.2.trans f2⟩
theorem dq_all {es : EqTab} (nf : ∀ p ∈ es, ∀ p' ∈ es, PySem.W.notFirst g.K (gd p.1 g.K) (.ref (gd p'.1 g.K)) = true) (u : UOk g U H) : ∀ {xs : List V} {ds : List D} {ys : List V} {fs : List D} {k : Bool}, DenL g U H xs ds → DenL g U H ys fs → eqLs es ds fs = .ok k →
    OutQ (DqO g.K (es.map fun p => (gd p.1 g.K, spF g.K g.T p.2)) (GoT g H b) E) xs ys k
  | _, _, _, _, _, .nil, .nil, h => by
    unfold eqLs at h
    cases h
    exact .nil
  | _, _, _, _, _, .nil, .cons _ _, h => by
    unfold eqLs at h
    cases h
    exact .l
  | _, _, _, _, _, .cons _ _, .nil, h => by
    unfold eqLs at h
    cases h
    exact .r
  | _, _, _, _, _, .cons a r, .cons a' r', h => by
    unfold eqLs at h
    split at h
    · rename_i z
      exact .t (dq_item nf z a a' u) (dq_all nf u r r' h)
    · rename_i z
      cases h
      exact .f (dq_item nf z a a' u)
    · cases h
end
end Gp
end
section
set_option Elab.async false
set_option linter.all false
set_option maxRecDepth 100000
set_option maxHeartbeats 4000000
namespace Gp
open PySem PySem.Spec PyProof.Rows L2 Gh
section
variable {g : Gw} {Mt U0 U U' : Addr → Prop} {H0 H H' H1 H2 : Hp} {b b1 : Nat} {σ : L2.St} {ε ε' : Env} {E : XK} {W L W' : Type}
variable {env : W → Env} {envL : L → Env} {env' : W' → Env} {u ta tb : TS} {te ti : TE} {me mi : Tr D}
theorem Pnd.set {A : Addr} {ds : List D} (p : Pnd g Mt U0 H0 U σ H ε A ds) (i : Nat) (v : V) (d : D) : Pnd g Mt U0 H0 U (σ.set i (some v)) H (ε.set i (.fz d)) A ds :=
  ⟨p.at_, p.u, p.np, p.nc, p.n0, fun j h => p.no j (ownAt_set h).2, p.mt⟩
def SQ (g : Gw) (E : XK) (ε : Env) (n : Nat) (t : TA) (m : Tr (List D)) : Prop := ∀ Mt U0 H0 U σ H b Q, Stt g Mt U0 H0 U σ H b ε →
  Al (fun ds b' => ∀ vs U' H', QR g Mt U0 H0 U' σ H' ε n vs ds → Ev U H U' H' → Stt g Mt U0 H0 U' σ H' b' ε → Q vs H') (exS g Mt U0 H0 E) m b → t σ H Q
theorem SQ.sstep {n : Nat} {t : TA} {m : Tr (List D)} {k : List D → Tr (Fl W L)} {Ds : Ends} {Q : List V → Hp → Prop} (he : SQ g E ε n t m) (s : Stt g Mt U0 H0 U σ H b ε) (h : Al (flP g Mt U0 H0 U H Ds env envL) (exS g Mt U0 H0 E) (bd m k) b)
    (hk : ∀ vs ds U' H1 b1, QR g Mt U0 H0 U' σ H1 ε n vs ds → Stt g Mt U0 H0 U' σ H1 b1 ε → Al (flP g Mt U0 H0 U' H1 Ds env envL) (exS g Mt U0 H0 E) (k ds) b1 → Q vs H1) : t σ H Q :=
  he Mt U0 H0 U σ H b Q s ((al_bd.mp h).mono (fun ds b1 h1 vs U' H' qr ev s1 => hk vs ds U' H' b1 qr s1 (h1.mono (fun _ _ z => z.ev ev) (fun _ _ _ z => z))) (fun _ _ _ h => h))
end
end Gp
end
section
set_option Elab.async false
set_option linter.all false
set_option maxRecDepth 100000
set_option maxHeartbeats 4000000
namespace Gp
open PySem PySem.Spec PyProof.Rows L2 Gh
abbrev TSF : Type := Addr → Value → Option Addr → TS
section
variable {X : Cx} {body : List Stmt} {h₀ : ExceptHandler} {hds : List ExceptHandler} {l : List (Value × Option Nat × TSF)} {pos : Pos} {tb : WX → TS} {Wout : WX}
end
end Gp
end
section
set_option Elab.async false
set_option linter.all false
set_option maxRecDepth 100000
set_option maxHeartbeats 4000000
namespace Gp
open PySem PySem.Spec PyProof.Rows L2 Gh
def ItH.te (a : Addr) (cls : Value) (d : Option Addr) (C : Addr) (i : Nat) : ItH → TE
  | .s x => tC (.str x)
  | .n k => tC (.int k)
  | .f x => tXf a cls d C x (tVar i)
section
variable {g : Gw} {U : Addr → Prop} {H H' : Hp} {b : Nat} {σ : L2.St} {ε : Env}
theorem Fz.set {j : Nat} {d : D} (h : Fz ε) : Fz (ε.set j (.fz d)) := fun s m => by
  rcases List.mem_or_eq_of_mem_set m with m | m
  · exact h s m
  · exact .inl ⟨_, m⟩
end
def HrdP (K : PySem.W.Frag) (d : Df) (ps : List Str) : Prop := ∃ fd, FnA K d fd ∧ L2.Binds K fd ps []
def qlOf (d : Df) (K : PySem.W.Frag) : Str := (envOfC d.qual (defScope d.st) 0 (d.adr K) .none).qual ++ "<lambda>"
structure LamD (base : Heap) (mg : Str → Option Value) (K : PySem.W.Frag) (Tb : List (Addr × Str)) (d : Df) (pn : He.Defn) : Prop where
  tb : LamX.TabB base mg (He.cT K pn).1 (He.cT K pn).2
  mem : ((He.cT K pn).2, qlOf d K) ∈ Tb
  hu : ∀ p ∈ Tb, p.1 = (He.cT K pn).2 → p.2 = qlOf d K
end Gp
end
section
set_option Elab.async false
set_option linter.all false
set_option maxRecDepth 100000
set_option maxHeartbeats 4000000
namespace GQ
open PySem PySem.SeqAt
open AutoSeq1 (wpAny_loadPart')
open MeetsSeq MeetsSeq2 MeetsSeq3 SeqRoads2
def TwoL (l b : Addr) (N : Nat) (P : Array Value → Array Value → Prop) (s : Shared) : Prop :=
  ∃ (items items2 : Array Value) (n n2 : Nat) (dd dd2 : Option Addr) (sl sl2 : Array (Option Value)), s.heap.get? l = some { cls := .type "list", dict := dd, data := .seq items n, slots := sl } ∧
    s.heap.get? b = some { cls := .type "list", dict := dd2, data := .seq items2 n2, slots := sl2 } ∧ items.size = N ∧ items2.size = N ∧ P items items2
section
variable {prog : Program} {w : World} {A : Around} {R : Result → Shared → Prop}
theorem loop_neB (l b : Addr) (N : Nat) (I : Nat → Shared → Prop) (J : Shared → Prop)
    (hI : ∀ i s, I i s → TwoL l b N (fun items items2 => ∀ (h1 : i < items.size) (h2 : i < items2.size), wpAny (model prog w) A.in1 (eqBool items[i] items2[i]) (fun r s' => if r = true then I (i + 1) s' else J s') (fun e s' => R (.error e) s') s) s)
    (hJ : ∀ s, J s → TwoL l b N (fun _ _ => True) s) (fin : ∀ s, I N s → R (.ok (.ret (.bool false))) s) (ff : ∀ s, J s → R (.ok (.ret (.bool true))) s) (k : Nat) :
    ∀ i : Nat, N - i = k → i ≤ N → ∀ s, I i s →
      wpAny (model prog w) A.in1 (Builtin.«list.__eq__.loop» ⟨[.ref l, .ref b, rawInt i, rawInt 3], []⟩) (FinOf prog w A R) (fun e s' => R (.error e) s') s := by
  induction k with
  | zero =>
    intro i hk hi s h
    obtain ⟨items, items2, n, n2, dd, dd2, sl, sl2, hl1, hb1, hs1, hs2, _⟩ := hI _ _ h
    have hi' : i = N := by omega
    have hR : R (.ok (.ret (.bool false))) s := fin s (hi' ▸ h)
    obtain ⟨hp, g, d, tk, os⟩ := s
    wp_walk using wpAny_loadPart' hl1, wpAny_loadPart' hb1
    have hi1 : items[((i : Nat) : Int).toNat]? = none := by simp; omega
    have hi2 : items2[((i : Nat) : Int).toNat]? = none := by simp; omega
    rw [hi1, hi2]
    wp_walk using wpAny_loadPart' hl1, wpAny_loadPart' hb1
    show R (.ok (.ret (.bool (items.size != items2.size)))) _
    rw [hs1, hs2]
    simpa using hR
  | succ k ih =>
    intro i hk hi s h
    obtain ⟨items, items2, n, n2, dd, dd2, sl, sl2, hl1, hb1, hs1, hs2, turn⟩ := hI _ _ h
    have hlt : i < items.size := by omega
    have hlt2 : i < items2.size := by omega
    have ht := turn hlt hlt2
    obtain ⟨hp, g, d, tk, os⟩ := s
    wp_walk using wpAny_loadPart' hl1, wpAny_loadPart' hb1
    have hi1 : items[((i : Nat) : Int).toNat]? = some items[i] := by simp [hlt]
    have hi2 : items2[((i : Nat) : Int).toNat]? = some items2[i] := by simp [hlt2]
    have hc : ((i : Int) + 1) = ((i + 1 : Nat) : Int) := by omega
    rw [hi1, hi2]
    refine wpAny_bind (wpAny_mono ht (fun r s2 h2 => ?_) fun _ _ x => x)
    cases r with
    | true =>
      have h3 : I (i + 1) s2 := h2
      have hrec := ih (i + 1) (by omega) (by omega) s2 h3
      obtain ⟨hp2, g2, d2, tk2, os2⟩ := s2
      wp_walk
      rw [hc]
      exact ⟨plainId_quiet plain_eq_loop _, codeAny_builtin entry_eq_loop (by
        rw [Around.under_plainId plain_eq_loop _]
        exact hrec)⟩
    | false =>
      have h3 : J s2 := h2
      obtain ⟨items', items2', n', n2', dd', dd2', sl', sl2', hl1', hb1', hs1', hs2', _⟩ := hJ _ h3
      have hR := ff _ h3
      have hlt' : i < items'.size := by omega
      have hlt2' : i < items2'.size := by omega
      have hi1' : items'[((i : Nat) : Int).toNat]? = some items'[i] := by simp [hlt']
      have hi2' : items2'[((i : Nat) : Int).toNat]? = some items2'[i] := by simp [hlt2']
      obtain ⟨hp2, g2, d2, tk2, os2⟩ := s2
      wp_walk using wpAny_loadPart' hl1', wpAny_loadPart' hb1'
      rw [hi1', hi2']
      wp_walk
      exact hR
theorem list_neB (l b : Addr) (N : Nat) (I : Nat → Shared → Prop) (J : Shared → Prop)
    (hI : ∀ i s, I i s → TwoL l b N (fun items items2 => ∀ (h1 : i < items.size) (h2 : i < items2.size), wpAny (model prog w) A.in1 (eqBool items[i] items2[i]) (fun r s' => if r = true then I (i + 1) s' else J s') (fun e s' => R (.error e) s') s) s)
    (hJ : ∀ s, J s → TwoL l b N (fun _ _ => True) s) (fin : ∀ s, I N s → R (.ok (.ret (.bool false))) s) (ff : ∀ s, J s → R (.ok (.ret (.bool true))) s) {s : Shared} (h : I 0 s) :
    wpAny (model prog w) A.in1 (Builtin.«list.__ne__» ⟨[.ref l, .ref b], []⟩) (FinOf prog w A R) (fun e s' => R (.error e) s') s := by
  obtain ⟨items, items2, n, n2, dd, dd2, sl, sl2, hl1, hb1, hs1, hs2, _⟩ := hI _ _ h
  have hrec := loop_neB (A := A) (R := R) l b N I J hI hJ fin ff _ 0 rfl (Nat.zero_le _) s h
  obtain ⟨hp, g, d, tk, os⟩ := s
  have f3 := AutoSeq1.sub_list_list
  have hne : ¬ (items.size != items2.size) = true := by simp [hs1, hs2]
  wp_walk using wpAny_loadPart' hl1, wpAny_loadPart' hb1
  exact ⟨plainId_quiet plain_eq_loop _, codeAny_builtin entry_eq_loop (by
    rw [Around.under_plainId plain_eq_loop _]
    exact hrec)⟩
end
section
variable {prog : Program} {w : World} {A : Around} {E : Value → Shared → Prop} {s : Shared}
theorem rc_lstN {l b : Addr} {N : Nat} {Q : Value → Shared → Prop} (hu : A.units < cLine) (I : Nat → Shared → Prop) (J : Shared → Prop)
    (hI : ∀ i s, I i s → TwoL l b N (fun items items2 => ∀ (h1 : i < items.size) (h2 : i < items2.size), wpAny (model prog w) A.in1 (eqBool items[i] items2[i]) (fun r s' => if r = true then I (i + 1) s' else J s') E s) s)
    (hJ : ∀ s, J s → TwoL l b N (fun _ _ => True) s) (fin : ∀ s, I N s → Q (.bool false) s) (ff : ∀ s, J s → Q (.bool true) s) (h : I 0 s) : wpAny (model prog w) A (richCompare .NotEq (.ref l) (.ref b)) Q E s := by
  obtain ⟨items, items2, n, n2, dd, dd2, sl, sl2, hl1, hb1, _⟩ := hI _ _ h
  refine wpAny_richCompare_same_room (op := .NotEq) ⟨_, hl1, rfl⟩ ⟨_, hb1, rfl⟩ F.slot_list_ne (call_here F.slot_list_ne ⟨_, hl1, rfl⟩ F.entry_list_ne (F.args_list_ne_2 _ _) ?_) hu
  exact list_neB (R := wants (fun v s' => v ≠ .notImplemented ∧ Q v s') E) l b N I J hI hJ (fun s' q => ⟨(fun x => nomatch x), fin s' q⟩) (fun s' q => ⟨(fun x => nomatch x), ff s' q⟩) h
end
end GQ
namespace Gp
open PySem PySem.Spec PyProof.Rows L2 Gh
section
variable {X : Cx} {n : Nat} {Go : Hp → Prop} {Dq : V → V → Bool → Prop}
theorem rcN_lst (h : EqB X n Go Dq) {A : Around} (sb : L2.Sub X (n + 1) A) {pins : List (Addr × Obj)} {s : Shared} {σ : L2.St} {H : Hp} {a b : Addr} {xs ys : List V} {k : Bool} (I : L2.Inv X pins σ H s) (hG : Go H)
    (ha : ∀ H, Go H → SqL X.K H a xs) (hb : ∀ H, Go H → SqL X.K H b ys) (hl : xs.length = ys.length) (o : OutQ Dq xs ys k) :
    wpAny (model X.prog X.w) A (richCompare .NotEq (.ref a) (.ref b)) (fun r s' => r = .bool (!k) ∧ ∃ H', L2.Inv X pins σ H' s' ∧ Go H') X.xe s := by
  refine GQ.rc_lstN (N := xs.length) sb.room.units0 (fun i s' => i ≤ xs.length ∧ (∃ H', L2.Inv X pins σ H' s' ∧ Go H') ∧ OutQ Dq (xs.drop i) (ys.drop i) k) (fun s' => (∃ H', L2.Inv X pins σ H' s' ∧ Go H') ∧ k = false) (fun i s' q => ?_) (fun s' q => ?_) (fun s' q => ?_) (fun s' q => ?_) ⟨Nat.zero_le _, ⟨H, I, hG⟩, o⟩
  · obtain ⟨hi, ⟨H1, I1, g1⟩, o1⟩ := q
    obtain ⟨its, r, ⟨⟨cl, dd, da, sl⟩, m, e, e1, e2, e3⟩, z⟩ := I1.list (ha H1 g1)
    obtain ⟨its2, r2, ⟨⟨cl2, dd2, da2, sl2⟩, m2, f, f1, f2, f3⟩, z2⟩ := I1.list (hb H1 g1)
    simp only at e1 e2 e3 f1 f2 f3
    subst e1 e2 e3 f1 f2 f3
    have lx : xs.length = its.toArray.size := by rw [List.size_toArray]; exact r.length
    have ly : ys.length = its2.toArray.size := by rw [List.size_toArray]; exact r2.length
    refine ⟨its.toArray, its2.toArray, m, m2, _, _, sl, sl2, e, f, lx.symm, by omega, fun h1 h2 => ?_⟩
    have k1 : i < xs.length := by omega
    have k2 : i < ys.length := by omega
    rw [List.drop_eq_getElem_cons k1, List.drop_eq_getElem_cons k2] at o1
    have q1 : its[i]? = some its.toArray[i] := by
      have h1' : i < its.length := by simpa using h1
      rw [List.getElem?_eq_getElem h1'] <;> simp
    have q2 : its2[i]? = some its2.toArray[i] := by
      have h2' : i < its2.length := by simpa using h2
      rw [List.getElem?_eq_getElem h2'] <;> simp
    obtain ⟨u, hu, ru⟩ := r.get (List.getElem?_eq_getElem k1)
    obtain ⟨v, hv, rv⟩ := r2.get (List.getElem?_eq_getElem k2)
    rw [q1] at hu
    rw [q2] at hv
    rw [Option.some.inj hu, Option.some.inj hv]
    cases o1 with
    | t d o2 =>
      refine wpAny_mono (h A.in1 pins s' σ H1 _ _ u v true sb.in1 I1 ru rv g1 d) (fun r s2 q => ?_) fun _ _ x => x
      obtain ⟨hr, H2, I2, g2⟩ := q
      subst hr
      exact ⟨k1, ⟨H2, I2, g2⟩, o2⟩
    | f d =>
      refine wpAny_mono (h A.in1 pins s' σ H1 _ _ u v false sb.in1 I1 ru rv g1 d) (fun r s2 q => ?_) fun _ _ x => x
      obtain ⟨hr, H2, I2, g2⟩ := q
      subst hr
      exact ⟨⟨H2, I2, g2⟩, rfl⟩
  · obtain ⟨⟨H1, I1, g1⟩, _⟩ := q
    obtain ⟨its, r, ⟨⟨cl, dd, da, sl⟩, m, e, e1, e2, e3⟩, z⟩ := I1.list (ha H1 g1)
    obtain ⟨its2, r2, ⟨⟨cl2, dd2, da2, sl2⟩, m2, f, f1, f2, f3⟩, z2⟩ := I1.list (hb H1 g1)
    simp only at e1 e2 e3 f1 f2 f3
    subst e1 e2 e3 f1 f2 f3
    have lx : xs.length = its.toArray.size := by rw [List.size_toArray]; exact r.length
    have ly : ys.length = its2.toArray.size := by rw [List.size_toArray]; exact r2.length
    exact ⟨its.toArray, its2.toArray, m, m2, _, _, sl, sl2, e, f, lx.symm, by omega, trivial⟩
  · obtain ⟨_, hI, o1⟩ := q
    refine ⟨?_, hI⟩
    rw [List.drop_length] at o1
    have : ys.drop xs.length = [] := by rw [hl, List.drop_length]
    rw [this] at o1
    cases o1
    rfl
  · obtain ⟨hI, rfl⟩ := q
    exact ⟨rfl, hI⟩
@[irreducible] def rNeL (K : PySem.W.Frag) (owns : List (Addr × L2.Sp)) (E : XK) : R2 := fun x y H Q => ∃ (a b : Addr) (xs ys : List V) (k : Bool) (Go : Hp → Prop), x = .ref a ∧ y = .ref b ∧ xs.length = ys.length ∧ (∀ H, Go H → SqL K H a xs) ∧ (∀ H, Go H → SqL K H b ys) ∧ Go H ∧ OutQ (DqO K owns Go E) xs ys k ∧ ∀ H', Go H' → Q (.bl !k) H'
theorem op_neL {CX : CXT} {K : PySem.W.Frag} {owns : List (Addr × L2.Sp)} {E : XK} (hK : X.K = K) (hr : Room (n + 1) X.A) (hx : Passes CX X E) (ow : ∀ p ∈ owns, OwnQ X CX n p) : OpR X (compareOp .NotEq) (rNeL K owns E) := by
  subst hK
  intro pins s σ H x y v u Q I rx ry hq
  unfold rNeL at hq
  obtain ⟨a, b, xs, ys, k, Go, rfl, rfl, hl, ha, hb, hG, o, q⟩ := hq
  cases rx
  cases ry
  show wpAny (model X.prog X.w) X.A (richCompare .NotEq (.ref a) (.ref b)) (EP X pins σ Q) X.xe s
  have he : EqB X n Go (DqO X.K owns Go E) := fun A pins s σ H x y u v k sb I rx ry hG d => by
    obtain ⟨a, b, C, C', sp, rfl, rfl, hm, nf, hab, hc⟩ := d
    cases rx
    cases ry
    obtain ⟨⟨dx, fs, h1⟩, ⟨dy, gs, h2⟩, hsp⟩ := hc H hG
    obtain ⟨f, fd, ps, kk, hk, F, hs, hf, hb⟩ := ow _ hm
    exact eqB_ins F hs hf hb hx nf (sb.mono hk) I hG h1 h2 (hab X pins σ s H rfl I hG) hsp
  refine wpAny_mono (rcN_lst he ⟨hr, rfl⟩ I hG ha hb hl o) (fun r s' z => ?_) fun _ _ x => x
  obtain ⟨hr', H', I', e⟩ := z
  subst hr'
  exact ⟨.bl (!k), H', I', rfl, q H' e⟩
end
def neLD (es : EqTab) (x y : D) : Tr D := match x, y with
  | .lst ds, .lst fs => if ds.length = fs.length then bd (eqLs es ds fs) fun k => .ok (.bl (!k)) else .bad
  | _, _ => .bad
section
variable {g : Gw} {E : XK}
theorem sr_neL {es : EqTab} (nf : ∀ p ∈ es, ∀ p' ∈ es, PySem.W.notFirst g.K (gd p.1 g.K) (.ref (gd p'.1 g.K)) = true) : SR2 g E (rNeL g.K (es.map fun p => (gd p.1 g.K, spF g.K g.T p.2)) E) (neLD es) := fun U H b x y dx dy Q d1 d2 w u q => by
  unfold neLD at q
  split at q
  · rename_i ds fs
    split at q
    · rename_i hl
      obtain ⟨a, vs, rfl, h1, n1, l1, k1⟩ := den_lst d1
      obtain ⟨a2, vs2, rfl, h2, n2, l2, k2⟩ := den_lst d2
      rcases eqLs_ok (es := es) ds fs with ⟨k, ek⟩ | ek
      · rw [ek] at q
        unfold rNeL
        have e1 := k1.length
        have e2 := k2.length
        refine ⟨a, a2, vs, vs2, k, GoT g H b, rfl, rfl, by omega, fun H' hG => ?_, fun H' hG => ?_, ⟨w, Fr.refl⟩, dq_all nf u k1 k2 ek, fun H' hG => ?_⟩
        · exact SqL.of (hG.2 _ _ h1 (fun e => n1 (e ▸ u.p)) (fun _ z => by cases z))
        · exact SqL.of (hG.2 _ _ h2 (fun e => n2 (e ▸ u.p)) (fun _ z => by cases z))
        · exact q _ _ (.bl _) hG.1 hG.2
      · rw [ek] at q
        exact q.elim
    · exact q.elim
  · exact q.elim
end
end Gp
end
section
set_option Elab.async false
set_option linter.all false
set_option maxRecDepth 100000
set_option maxHeartbeats 4000000
namespace Gp
open PySem PySem.Spec PyProof.Rows L2 Gh
theorem pss_never {X : Cx} {rest : List Stmt} : PSs X rest tNever := ⟨fun _ _ _ _ _ _ h => False.elim h⟩
theorem ss_nev {W L : Type} {g : Gw} {E : XK} {ε : Env} {env : W → Env} {envL : L → Env} : SS g E ε tNever env envL .bad := fun Mt U0 H0 U D σ H b s q => q.elim
end Gp
end
section
set_option Elab.async false
set_option linter.all false
set_option maxRecDepth 100000
set_option maxHeartbeats 4000000
namespace Gz
open PySem
open Sem (wp)
def FsOk (ρ : Map) (fs : List Frame) : Prop := ∀ g kk ll cc pp, Frame.gen g kk ll cc pp ∈ fs → ρ g = none
theorem Held.set {ρ : Map} {G : Array GenState} (h : Held ρ G) {g : Nat} (hg : ρ g = none) {y : GenState} (hy : ∀ k l c p fs cl, y = .suspended k l c p fs cl → FsOk ρ fs) :
    Held ρ (G.setIfInBounds g y) ∧ rest ρ (G.setIfInBounds g y) = (rest ρ G).setIfInBounds g y := by
  refine ⟨⟨fun i x e => ?_, fun i k l c p fs cl e q => ?_⟩, ?_⟩
  · obtain ⟨a, b⟩ := h.at_ i x e
    refine ⟨a, ?_⟩
    rw [Array.getElem?_setIfInBounds_ne (fun z => by rw [z, e] at hg; cases hg)]
    exact b
  · by_cases z : g = i
    · subst z
      rw [Array.getElem?_setIfInBounds_self] at q
      split at q
      · exact hy _ _ _ _ _ _ (Option.some.inj q)
      · cases q
    · rw [Array.getElem?_setIfInBounds_ne z] at q
      exact h.fr i k l c p fs cl e q
  · apply Array.ext_getElem?
    intro i
    rw [rest_get]
    by_cases z : g = i
    · subst z
      rw [Array.getElem?_setIfInBounds_self, Array.getElem?_setIfInBounds_self, rest_size, hg]
      split <;> rfl
    · rw [Array.getElem?_setIfInBounds_ne z, Array.getElem?_setIfInBounds_ne z, rest_get]
end Gz
end
section
set_option Elab.async false
set_option linter.all false
set_option maxRecDepth 100000
set_option maxHeartbeats 4000000
namespace Gz
open PySem PySem.Spec PyProof.Rows L2 GenW Gh
variable {X : Cx}
abbrev TQ (T : Type) := Pro T → QE T → Nat → T → L2.St → Hp → Prop
section
variable {T : Type} {st : Stmt} {rest : List Stmt} {pos : Pos}
def tQThen (t u : TQ T) : TQ T := fun P D n γ σ H => t P { D with nx := fun n' γ' σ' H' => u P D n' γ' σ' H' } n γ σ H
end
end Gz
end
section
set_option Elab.async false
set_option linter.all false
set_option maxRecDepth 100000
set_option maxHeartbeats 4000000
namespace Gz
open PySem PySem.Spec PyProof.Rows L2 GenW Gh
section
variable {X : Cx} {ip : List (Addr × Obj)} {σ : L2.St} {H : Hp} {s : Shared}
end
section
variable {T : Type} {X : Cx} {st : Stmt} {rest : List Stmt}
end
abbrev SpQ := (T : Type) → Pro T → Nat → T → Prop
abbrev SpH := Hp → SpQ
end Gz
end
section
set_option Elab.async false
set_option linter.all false
set_option maxRecDepth 100000
set_option maxHeartbeats 4000000
namespace Gz
open PySem PySem.Spec PyProof.Rows L2 GenW Gh
section
variable {M : Model}
end
section
variable {P : Program} {w : World} {A : Around} {E : Value → Shared → Prop} {s : Shared}
end
abbrev TQG := L2.St → Hp → (SpH → Hp → Prop) → Prop
section
variable {X : Cx} {k : Nat} {f C : Addr} {fd : FuncData} {ps : List Str} {sp : List V → Hp → XK → SpQ} {dvs : List V} {ds : List Value} {x m : Str} {p pos pos' apos : Pos} {o : Expr} {ta : TE}
end
end Gz
end
section
set_option Elab.async false
set_option linter.all false
set_option maxRecDepth 100000
set_option maxHeartbeats 4000000
namespace Gp
open PySem PySem.Spec PyProof.Rows L2 Gh Gz
structure GT (α : Type) where
  out : List D
  res : Tr α
section
variable {W W' L : Type}
def gbF (m : GT (Fl W' L)) (k : W' → GT (Fl W L)) : GT (Fl W L) := match m.res with
  | .ok (.nx w) => ⟨m.out ++ (k w).out, (k w).res⟩
  | .ok (.rt d) => ⟨m.out, .ok (.rt d)⟩
  | .ok (.bk l) => ⟨m.out, .ok (.bk l)⟩
  | .ok (.ct l) => ⟨m.out, .ok (.ct l)⟩
  | _ => ⟨m.out, .bad⟩
end
structure PY (g : Gw) (all : List D) (N : Nat) {T : Type} (P : Pro T) where
  U : T → Addr → Prop
  B : T → Nat
  ok : Prop
  out : ∀ n γ x H1 d, n + 1 ≤ N → all[N - (n + 1)]? = some d → Den g (U γ) H1 x d → Wd g H1 (B γ) → Fr (P.hp γ) H1 g.p → P.out n γ x H1
  lk : ∀ n γ H1 γ', P.lk n γ H1 γ' → 0 < n ∧ Ev (U γ) H1 (U γ') (P.hp γ') ∧ UOk g (U γ') (P.hp γ') ∧ Wd g (P.hp γ') (B γ')
  fin : ∀ n γ H1, ok → n + all.length = N → Wd g H1 (B γ) → Fr (P.hp γ) H1 g.p → P.fin n γ H1
abbrev TQA := (T : Type) → TQ T
abbrev NoM : Addr → Prop := fun _ => False
section
variable {g : Gw} {T : Type} {P : Pro T} {all : List D} {N : Nat} {W W' L : Type}
def gqP (Y : PY g all N P) (D : QE T) (env : W → Env) (envL : L → Env) (n : Nat) (U : Addr → Prop) (H : Hp) : Fl W L → Prop
  | .nx w => ∀ γ' U' σ' H', Ev U H U' H' → Stt g NoM (Y.U γ') (P.hp γ') U' σ' H' (Y.B γ') (env w) → D.nx n γ' σ' H'
  | .rt _ => False
  | .bk w => ∀ γ' U' σ' H', Ev U H U' H' → Stt g NoM (Y.U γ') (P.hp γ') U' σ' H' (Y.B γ') (envL w) → D.bk n γ' σ' H'
  | .ct w => ∀ γ' U' σ' H', Ev U H U' H' → Stt g NoM (Y.U γ') (P.hp γ') U' σ' H' (Y.B γ') (envL w) → D.ct n γ' σ' H'
theorem gqP.ev {Y : PY g all N P} {D : QE T} {env : W → Env} {envL : L → Env} {n : Nat} {U U1 : Addr → Prop} {H H1 : Hp} (e : Ev U H U1 H1) : ∀ {f : Fl W L}, gqP Y D env envL n U H f → gqP Y D env envL n U1 H1 f
  | .nx w, h => fun γ' U' σ' H' e1 => h γ' U' σ' H' (e.trans e1)
  | .rt _, h => h
  | .bk w, h => fun γ' U' σ' H' e1 => h γ' U' σ' H' (e.trans e1)
  | .ct w, h => fun γ' U' σ' H' e1 => h γ' U' σ' H' (e.trans e1)
def okQ {α : Type} (m : Tr α) (R : α → Prop) : Prop := match m with
  | .ok f => R f
  | _ => False
end
def YS {W L : Type} (g : Gw) (ε : Env) (t : TQA) (env : W → Env) (envL : L → Env) (m : GT (Fl W L)) : Prop := ∀ (T : Type) (P : Pro T) (all : List D) (N : Nat) (Y : PY g all N P) (D : QE T) γ U σ H n pre post,
  Stt g NoM (Y.U γ) (P.hp γ) U σ H (Y.B γ) ε → all = pre ++ (m.out ++ post) → n + pre.length = N → m.out.length ≤ n → ((m.out = [] ∨ m.out.length < n) → okQ m.res (gqP Y D env envL (n - m.out.length) U H)) → t T P D n γ σ H
section
variable {g : Gw} {W W' L : Type} {ε : Env} {env : W → Env} {envL : L → Env} {env' : W' → Env} {u ta tb : TQA} {te : TE} {me : Tr D}
theorem gbF_nx {m : GT (Fl W' L)} {k : W' → GT (Fl W L)} {w : W'} (e : m.res = .ok (.nx w)) : gbF m k = ⟨m.out ++ (k w).out, (k w).res⟩ := by unfold gbF; rw [e]
theorem YS.seq {m : GT (Fl W' L)} {k : W' → GT (Fl W L)} (h1 : YS g ε ta env' envL m) (h2 : ∀ w, YS g (env' w) u env envL (k w)) : YS g ε (fun T => tQThen (ta T) (u T)) env envL (gbF m k) := fun T P all N Y D γ U σ H n pre post s ha hn hl q => by
  have run : ∀ (R : List Gp.D), all = pre ++ (m.out ++ R) → m.out.length ≤ n → ((m.out = [] ∨ m.out.length < n) → okQ m.res (gqP Y { D with nx := fun n' γ' σ' H' => u T P D n' γ' σ' H' } env' envL (n - m.out.length) U H)) → tQThen (ta T) (u T) P D n γ σ H :=
    fun R hR hl' hq => h1 T P all N Y _ γ U σ H n pre R s hR hn hl' hq
  cases e : m.res with
  | ok f =>
    cases f with
    | nx w =>
      rw [gbF_nx e] at ha hl q
      have ha' : all = pre ++ (m.out ++ ((k w).out ++ post)) := by rw [ha]; simp [List.append_assoc]
      have hl' : m.out.length + (k w).out.length ≤ n := by rw [← List.length_append]; exact hl
      refine run _ ha' (by omega) fun hc => ?_
      rw [e]
      intro γ' U' σ' H' ev s'
      refine h2 w T P all N Y D γ' U' σ' H' (n - m.out.length) (pre ++ m.out) post s' (by rw [ha']; simp [List.append_assoc]) (by rw [List.length_append]; omega) (by omega) fun hc2 => ?_
      have z := q (by
        rcases hc2 with z | z
        · rw [z, List.append_nil]; exact hc
        · exact .inr (by show (m.out ++ (k w).out).length < n; rw [List.length_append]; omega))
      have e3 : n - (m.out ++ (k w).out).length = n - m.out.length - (k w).out.length := by rw [List.length_append]; omega
      change okQ (k w).res (gqP Y D env envL (n - (m.out ++ (k w).out).length) U H) at z
      rw [e3] at z
      cases e4 : (k w).res with
      | ok f2 => rw [e4] at z; exact gqP.ev ev z
      | ex c fs => rw [e4] at z; exact z.elim
      | bad => rw [e4] at z; exact z.elim
      | draw _ _ => rw [e4] at z; exact z.elim
    | rt d =>
      have e2 : gbF m k = ⟨m.out, .ok (.rt d)⟩ := by unfold gbF; rw [e]
      rw [e2] at ha hl q
      exact run post ha hl fun hc => by rw [e]; exact q hc
    | bk l =>
      have e2 : gbF m k = ⟨m.out, .ok (.bk l)⟩ := by unfold gbF; rw [e]
      rw [e2] at ha hl q
      exact run post ha hl fun hc => by rw [e]; exact q hc
    | ct l =>
      have e2 : gbF m k = ⟨m.out, .ok (.ct l)⟩ := by unfold gbF; rw [e]
      rw [e2] at ha hl q
      exact run post ha hl fun hc => by rw [e]; exact q hc
  | ex c fs =>
    have e2 : gbF m k = ⟨m.out, .bad⟩ := by unfold gbF; rw [e]
    rw [e2] at ha hl q
    exact run post ha hl fun hc => (q hc).elim
  | bad =>
    have e2 : gbF m k = ⟨m.out, .bad⟩ := by unfold gbF; rw [e]
    rw [e2] at ha hl q
    exact run post ha hl fun hc => (q hc).elim
  | draw _ _ =>
    have e2 : gbF m k = ⟨m.out, .bad⟩ := by unfold gbF; rw [e]
    rw [e2] at ha hl q
    exact run post ha hl fun hc => (q hc).elim
end
end Gp
end
section
set_option Elab.async false
set_option linter.all false
set_option maxRecDepth 100000
set_option maxHeartbeats 4000000
namespace Gp
open PySem PySem.Spec PyProof.Rows L2 Gh Gz
def rTupC (K : PySem.W.Frag) (r : Int → Int → Bool) (z : Nat → Nat → Bool) : R2 := fun x y H Q => ∃ (a b : Addr) (ns ms : List Int), x = .ref a ∧ y = .ref b ∧ SqT K H a (ns.map V.int) ∧ SqT K H b (ms.map V.int) ∧
  Q (.bl (Ob.lexAt (fun j => decide (ns.getD j 0 = ms.getD j 0)) (fun j => r (ns.getD j 0) (ms.getD j 0)) (z ns.length ms.length) 0 (min ns.length ms.length))) H
section
variable {X : Cx} {K : PySem.W.Frag}
theorem op_tltC (hK : X.K = K) (hu : X.A.units < cLine) : OpR X (compareOp .Lt) (rTupC K (fun i j => decide (i < j)) fun a b => decide (a < b)) := by
  subst hK
  intro pins s σ H x y v u Q I rx ry h
  obtain ⟨a, b, ns, ms, rfl, rfl, ha, hb, q⟩ := h
  cases rx
  cases ry
  obtain ⟨its, r1, p1, _⟩ := I.tuple ha
  obtain ⟨its2, r2, p2, _⟩ := I.tuple hb
  have i1 : IntsAre its ns := Vals.ints r1
  have i2 : IntsAre its2 ms := Vals.ints r2
  have e1 : its.toArray.size = ns.length := by rw [List.size_toArray]; exact i1.length
  have e2 : its2.toArray.size = ms.length := by rw [List.size_toArray]; exact i2.length
  have at1 : ∀ j (h1 : j < its.toArray.size), ∃ t, its.toArray[j] = .int (ns.getD j 0) t := fun j h1 => PyProof.Rows.IntsAre.int_at i1 _ _ (by simp at h1; simp [h1])
  have at2 : ∀ j (h1 : j < its2.toArray.size), ∃ t, its2.toArray[j] = .int (ms.getD j 0) t := fun j h1 => PyProof.Rows.IntsAre.int_at i2 _ _ (by simp at h1; simp [h1])
  have R := Ob.RcOp.tuples_lt (A := X.A) (s := s) (e := fun j => decide (ns.getD j 0 = ms.getD j 0)) p1 p2 hu (fun j h1 h2 => by
    obtain ⟨t, et⟩ := at1 j h1
    obtain ⟨t', et'⟩ := at2 j h2
    rw [et, et']
    have z : (ns.getD j 0 == ms.getD j 0) = decide (ns.getD j 0 = ms.getD j 0) := by
      by_cases q : ns.getD j 0 = ms.getD j 0
      · rw [decide_eq_true q]; exact beq_iff_eq.mpr q
      · rw [decide_eq_false q]; exact beq_eq_false_iff_ne.mpr q
    rw [← z]
    exact SeqAt.EqAt.int_int _ _ _ _) (fun j h1 h2 _ => by
    obtain ⟨t, et⟩ := at1 j h1
    obtain ⟨t', et'⟩ := at2 j h2
    rw [et, et']
    exact Ob.RcOp.lt_int _ _ _ _)
  rw [e1, e2] at R
  exact R X.prog X.w X.xe (EP X pins σ Q) ⟨.bl _, H, I, rfl, q⟩
theorem op_tleC (hK : X.K = K) (hu : X.A.units < cLine) : OpR X (compareOp .LtE) (rTupC K (fun i j => decide (i ≤ j)) fun a b => decide (a ≤ b)) := by
  subst hK
  intro pins s σ H x y v u Q I rx ry h
  obtain ⟨a, b, ns, ms, rfl, rfl, ha, hb, q⟩ := h
  cases rx
  cases ry
  obtain ⟨its, r1, p1, _⟩ := I.tuple ha
  obtain ⟨its2, r2, p2, _⟩ := I.tuple hb
  have i1 : IntsAre its ns := Vals.ints r1
  have i2 : IntsAre its2 ms := Vals.ints r2
  have e1 : its.toArray.size = ns.length := by rw [List.size_toArray]; exact i1.length
  have e2 : its2.toArray.size = ms.length := by rw [List.size_toArray]; exact i2.length
  have at1 : ∀ j (h1 : j < its.toArray.size), ∃ t, its.toArray[j] = .int (ns.getD j 0) t := fun j h1 => PyProof.Rows.IntsAre.int_at i1 _ _ (by simp at h1; simp [h1])
  have at2 : ∀ j (h1 : j < its2.toArray.size), ∃ t, its2.toArray[j] = .int (ms.getD j 0) t := fun j h1 => PyProof.Rows.IntsAre.int_at i2 _ _ (by simp at h1; simp [h1])
  have R := Ob.RcOp.tuples_le (A := X.A) (s := s) (e := fun j => decide (ns.getD j 0 = ms.getD j 0)) p1 p2 hu (fun j h1 h2 => by
    obtain ⟨t, et⟩ := at1 j h1
    obtain ⟨t', et'⟩ := at2 j h2
    rw [et, et']
    have z : (ns.getD j 0 == ms.getD j 0) = decide (ns.getD j 0 = ms.getD j 0) := by
      by_cases q : ns.getD j 0 = ms.getD j 0
      · rw [decide_eq_true q]; exact beq_iff_eq.mpr q
      · rw [decide_eq_false q]; exact beq_eq_false_iff_ne.mpr q
    rw [← z]
    exact SeqAt.EqAt.int_int _ _ _ _) (fun j h1 h2 _ => by
    obtain ⟨t, et⟩ := at1 j h1
    obtain ⟨t', et'⟩ := at2 j h2
    rw [et, et']
    exact Ob.RcOp.le_int _ _ _ _)
  rw [e1, e2] at R
  exact R X.prog X.w X.xe (EP X pins σ Q) ⟨.bl _, H, I, rfl, q⟩
theorem op_tgtC (hK : X.K = K) (hu : X.A.units < cLine) : OpR X (compareOp .Gt) (rTupC K (fun i j => decide (j < i)) fun a b => decide (a > b)) := by
  subst hK
  intro pins s σ H x y v u Q I rx ry h
  obtain ⟨a, b, ns, ms, rfl, rfl, ha, hb, q⟩ := h
  cases rx
  cases ry
  obtain ⟨its, r1, p1, _⟩ := I.tuple ha
  obtain ⟨its2, r2, p2, _⟩ := I.tuple hb
  have i1 : IntsAre its ns := Vals.ints r1
  have i2 : IntsAre its2 ms := Vals.ints r2
  have e1 : its.toArray.size = ns.length := by rw [List.size_toArray]; exact i1.length
  have e2 : its2.toArray.size = ms.length := by rw [List.size_toArray]; exact i2.length
  have at1 : ∀ j (h1 : j < its.toArray.size), ∃ t, its.toArray[j] = .int (ns.getD j 0) t := fun j h1 => PyProof.Rows.IntsAre.int_at i1 _ _ (by simp at h1; simp [h1])
  have at2 : ∀ j (h1 : j < its2.toArray.size), ∃ t, its2.toArray[j] = .int (ms.getD j 0) t := fun j h1 => PyProof.Rows.IntsAre.int_at i2 _ _ (by simp at h1; simp [h1])
  have R := Ob.RcOp.tuples_gt (A := X.A) (s := s) (e := fun j => decide (ns.getD j 0 = ms.getD j 0)) p1 p2 hu (fun j h1 h2 => by
    obtain ⟨t, et⟩ := at1 j h1
    obtain ⟨t', et'⟩ := at2 j h2
    rw [et, et']
    have z : (ns.getD j 0 == ms.getD j 0) = decide (ns.getD j 0 = ms.getD j 0) := by
      by_cases q : ns.getD j 0 = ms.getD j 0
      · rw [decide_eq_true q]; exact beq_iff_eq.mpr q
      · rw [decide_eq_false q]; exact beq_eq_false_iff_ne.mpr q
    rw [← z]
    exact SeqAt.EqAt.int_int _ _ _ _) (fun j h1 h2 _ => by
    obtain ⟨t, et⟩ := at1 j h1
    obtain ⟨t', et'⟩ := at2 j h2
    rw [et, et']
    exact Ob.RcOp.gt_int _ _ _ _)
  rw [e1, e2] at R
  exact R X.prog X.w X.xe (EP X pins σ Q) ⟨.bl _, H, I, rfl, q⟩
theorem op_tgeC (hK : X.K = K) (hu : X.A.units < cLine) : OpR X (compareOp .GtE) (rTupC K (fun i j => decide (j ≤ i)) fun a b => decide (a ≥ b)) := by
  subst hK
  intro pins s σ H x y v u Q I rx ry h
  obtain ⟨a, b, ns, ms, rfl, rfl, ha, hb, q⟩ := h
  cases rx
  cases ry
  obtain ⟨its, r1, p1, _⟩ := I.tuple ha
  obtain ⟨its2, r2, p2, _⟩ := I.tuple hb
  have i1 : IntsAre its ns := Vals.ints r1
  have i2 : IntsAre its2 ms := Vals.ints r2
  have e1 : its.toArray.size = ns.length := by rw [List.size_toArray]; exact i1.length
  have e2 : its2.toArray.size = ms.length := by rw [List.size_toArray]; exact i2.length
  have at1 : ∀ j (h1 : j < its.toArray.size), ∃ t, its.toArray[j] = .int (ns.getD j 0) t := fun j h1 => PyProof.Rows.IntsAre.int_at i1 _ _ (by simp at h1; simp [h1])
  have at2 : ∀ j (h1 : j < its2.toArray.size), ∃ t, its2.toArray[j] = .int (ms.getD j 0) t := fun j h1 => PyProof.Rows.IntsAre.int_at i2 _ _ (by simp at h1; simp [h1])
  have R := Ob.RcOp.tuples_ge (A := X.A) (s := s) (e := fun j => decide (ns.getD j 0 = ms.getD j 0)) p1 p2 hu (fun j h1 h2 => by
    obtain ⟨t, et⟩ := at1 j h1
    obtain ⟨t', et'⟩ := at2 j h2
    rw [et, et']
    have z : (ns.getD j 0 == ms.getD j 0) = decide (ns.getD j 0 = ms.getD j 0) := by
      by_cases q : ns.getD j 0 = ms.getD j 0
      · rw [decide_eq_true q]; exact beq_iff_eq.mpr q
      · rw [decide_eq_false q]; exact beq_eq_false_iff_ne.mpr q
    rw [← z]
    exact SeqAt.EqAt.int_int _ _ _ _) (fun j h1 h2 _ => by
    obtain ⟨t, et⟩ := at1 j h1
    obtain ⟨t', et'⟩ := at2 j h2
    rw [et, et']
    exact Ob.RcOp.ge_int _ _ _ _)
  rw [e1, e2] at R
  exact R X.prog X.w X.xe (EP X pins σ Q) ⟨.bl _, H, I, rfl, q⟩
end
def cmp2D (r : Int → Int → Bool) (z : Bool) (x y : D) : Tr D := match x, y with
  | .tup [.int a, .int b], .tup [.int c, .int d] => .ok (.bl (if a = c then (if b = d then z else r b d) else r a c))
  | _, _ => .bad
section
variable {g : Gw} {E : XK} {ε : Env}
theorem sr_cmp2 {r : Int → Int → Bool} {z : Nat → Nat → Bool} : SR2 g E (rTupC g.K r z) (cmp2D r (z 2 2)) := fun U H b x y dx dy Q d1 d2 w u q => by
  unfold cmp2D at q
  split at q
  · rename_i a b c d
    obtain ⟨a1, vs, rfl, s1, _, k1⟩ := den_tupE d1
    obtain ⟨a2, ws, rfl, s2, _, k2⟩ := den_tupE d2
    obtain ⟨v1, v2, rfl, n1, n2⟩ := denL_2 k1
    obtain ⟨w1, w2, rfl, m1, m2⟩ := denL_2 k2
    cases den_int n1
    cases den_int n2
    cases den_int m1
    cases den_int m2
    refine ⟨a1, a2, [a, b], [c, d], rfl, rfl, s1 U H Ev.refl, s2 U H Ev.refl, ?_⟩
    have e : Ob.lexAt (fun j => decide ([a, b].getD j 0 = [c, d].getD j 0)) (fun j => r ([a, b].getD j 0) ([c, d].getD j 0)) (z [a, b].length [c, d].length) 0 (min [a, b].length [c, d].length) = (if a = c then (if b = d then z 2 2 else r b d) else r a c) := by
      show Ob.lexAt _ _ _ 0 2 = _
      rw [Ob.lexAt_succ, Ob.lexAt_succ, Ob.lexAt_zero]
      by_cases h1 : a = c
      · by_cases h2 : b = d
        · simp [h1, h2]
        · simp [h1, h2]
      · simp [h1]
    rw [e]
    exact okP.here q w (.bl _)
  · exact q.elim
def fmtD (d : D) : Tr D := match d with
  | .str y => if y.length ≤ sizeLine then .ok (.str y) else .bad
  | .int i => if i.natAbs.log2 < 1920 ∧ (Str.ofString (toString i)).length ≤ sizeLine then .ok (.str (toString i)) else .bad
  | _ => .bad
theorem se_fmt {te : TE} {me : Tr D} (he : SE g E ε te me) : SE g E ε (tFmt te) (bd me fmtD) := fun U σ H b Q R w u q =>
  he.step R w u q fun v d H1 b1 d1 w1 f1 R1 u1 q1 => by
    unfold fmtD at q1
    split at q1
    · split at q1
      · rename_i y hy
        obtain ⟨rfl, _⟩ := den_str d1
        exact .inl ⟨y, rfl, hy, q1 _ H1 (.str _ hy) w1 f1⟩
      · exact q1.elim
    · split at q1
      · rename_i i hi
        cases den_int d1
        exact .inr ⟨i, rfl, hi.1, q1 _ H1 (.str _ hi.2) w1 f1⟩
      · exact q1.elim
    · exact q1.elim
def SJ (g : Gw) (E : XK) (ε : Env) (ts : List TE) (f : Str → Tr D) : Prop := ∀ acc : Str, acc.length ≤ sizeLine → SE g E ε (fun σ H Q => tJs ts acc σ H fun out H1 => Q (.str out) H1) (f acc)
theorem sj_nil : SJ g E ε [] fun acc => .ok (.str acc) := fun acc hl U σ H b Q R w u q => okP.here q w (.str _ hl)
def jnD (f : Str → Tr D) (acc : Str) (d : D) : Tr D := match d with
  | .str y => if (acc ++ y).length ≤ sizeLine then f (acc ++ y) else .bad
  | _ => .bad
theorem sj_cons {t : TE} {ts : List TE} {mt : Tr D} {f : Str → Tr D} (h : SE g E ε t mt) (k : SJ g E ε ts f) : SJ g E ε (t :: ts) fun acc => bd mt (jnD f acc) := fun acc hl U σ H b Q R w u q =>
  h.step R w u q fun v d H1 b1 d1 w1 f1 R1 u1 q1 => by
    unfold jnD at q1
    split at q1
    · split at q1
      · rename_i y hy
        obtain ⟨rfl, _⟩ := den_str d1
        exact ⟨y, rfl, hy, k _ hy U σ H1 b1 Q R1 w1 u1 (q1.mono (fun _ _ h => h.fr f1) (fun _ _ _ h => h))⟩
      · exact q1.elim
    · exact q1.elim
theorem se_joined {ts : List TE} {f : Str → Tr D} (h : SJ g E ε ts f) : SE g E ε (fun σ H Q => tJs ts Str.empty σ H fun out H1 => Q (.str out) H1) (f Str.empty) := h _ (Nat.zero_le _)
end
end Gp
end
section
set_option Elab.async false
set_option linter.all false
set_option maxRecDepth 100000
set_option maxHeartbeats 4000000
namespace Gp
open PySem PySem.Spec PyProof.Rows L2 Gh Gz
section
variable {X : Cx} {CX : CXT} {k : Nat} {f g C : Addr} {E : XK} {m : Str} {apos pos : Pos} {o : Expr} {ta : TE} {tk : TA} {ks : List Str} {kws : List Keyword} {r : List V → List V → Hp → VK → Prop}
def tSmK (C : Addr) (r : List V → List V → Hp → VK → Prop) (ta : TE) (tk : TA) : TE := fun σ H Q => ta σ H fun x H1 => x = .ref C ∧ tk σ H1 fun zs H2 => r [] zs H2 Q
theorem pe_smK0 {p : Addr} {pl : Sem Bool} (he : PE X o ta) (c : StaT X.K C m p g) (R : CallK X (.ref g) ks r) (hkw : PK X kws tk) (hall : (backToKw pos (keywordEach kws X.env)).all (·.1.isSome) = true := by rfl) (hks : (backToKw pos (keywordEach kws X.env)).filterMap (·.1) = ks := by rfl)
    (hpl : ((backTo pos (starEach [] X.env)).any (·.1) || (backToKw pos (keywordEach kws X.env)).any (·.1.isNone)) = false := by rfl)
    (ht : eval (.Call (.Attribute o m apos) [] kws pos) X.env = (do
      let ov ← eval o X.env
      standAt apos.atName
      let (f, first) ← holding [ov] (getMethod ov m pl)
      callWith pos f first (backTo pos (starEach [] X.env)) (backToKw pos (keywordEach kws X.env))) := by rfl) :
    PE X (.Call (.Attribute o m apos) [] kws pos) (tSmK C r ta tk) := by
  refine ⟨fun pins s σ H Q I h => ?_⟩
  refine PySem.W.methodCall_KW (pl := pl) (thn (he.run pins s σ H _ I h) fun u s1 ⟨x, H1, I1, rx, ex, q⟩ => ?_) ht
  subst ex
  obtain rfl : u = Value.ref C := rx
  obtain ⟨mm, fr⟩ := I1.fr
  obtain ⟨rest, hrc⟩ := c.rc
  refine PySem.W.method_of_cls fr I1.ok.mod.kin c.ga (PySem.W.cls_sm fr I1.ok.mod.kin c.ty c.rd c.at_ hrc rfl ?_)
  have I2 := I1.tok (s1.toks + 1)
  refine PySem.W.callWith_KW0 (first := []) (h₀ := X.base) I2.ok.mod.kin c.kp hall (thn (hkw.run pos pins _ σ H1 _ I2 q) fun ws s3 ⟨zs, H3, I3, rz, q3⟩ => ⟨I3.kIn, ?_⟩) hpl
  rw [hks]
  exact R pins s3 σ H3 [] zs [] ws Q I3 .nil rz q3
end
theorem denL_atO {g : Gw} {U : Addr → Prop} {H : Hp} {vs : List V} {ds : List D} (h : DenL g U H vs ds) : ∀ i : Nat, (vs[i]? = none ∧ ds[i]? = none) ∨ ∃ v d, vs[i]? = some v ∧ ds[i]? = some d ∧ Den g U H v d := by
  induction vs generalizing ds with
  | nil => cases h; exact fun i => .inl ⟨rfl, rfl⟩
  | cons v vs ih =>
    cases h with
    | cons a r =>
      intro i
      cases i with
      | zero => exact .inr ⟨_, _, rfl, rfl, a⟩
      | succ i => exact ih r i
theorem denL_picks {g : Gw} {U : Addr → Prop} {H : Hp} (l : List (Nat ⊕ Nat)) {dvs zs : List V} {dds es : List D} (h1 : DenL g U H dvs dds) (h2 : DenL g U H zs es) : DenL g U H (picks l dvs zs) (picks l dds es) := by
  induction l with
  | nil => exact .nil
  | cons z r ih =>
    unfold picks at ih ⊢
    rw [List.filterMap_cons, List.filterMap_cons]
    cases z with
    | inl i =>
      rcases denL_atO h2 i with ⟨e1, e2⟩ | ⟨x, v, e1, e2, rv⟩
      · simp only [e1, e2]; exact ih
      · simp only [e1, e2]; exact .cons rv ih
    | inr j =>
      rcases denL_atO h1 j with ⟨e1, e2⟩ | ⟨x, v, e1, e2, rv⟩
      · simp only [e1, e2]; exact ih
      · simp only [e1, e2]; exact .cons rv ih
section
variable {g : Gw} {E : XK} {ε : Env} {ta : TE} {ma : Tr D} {t tk : TA} {mt mk : Tr (List D)}
def SRK (g : Gw) (E : XK) (r : List V → List V → Hp → VK → Prop) (f : List D → List D → Tr D) : Prop := ∀ U H b vs zs ds es Q, DenL g U H vs ds → DenL g U H zs es → Wd g H b → UOk g U H → Al (okP g U H Q) (exP g U E H) (f ds es) b → r vs zs H Q
def kwD (n m : Nat) (l : List (Nat ⊕ Nat)) (dds : List D) (F : List D → Tr D) (ds es : List D) : Tr D := if ds.length = n ∧ es.length = m then F (ds ++ picks l dds es) else .bad
theorem srk_sp {F : List D → Tr D} {n m : Nat} {l : List (Nat ⊕ Nat)} {dvs : List V} {dds : List D} (hd : ∀ U H, DenL g U H dvs dds) : SRK g E (rSpK n m (fun vs zs => vs ++ picks l dvs zs) (spF g.K g.T F) E) (kwD n m l dds F) := fun U H b vs zs ds es Q dn en wd u q => by
  unfold kwD at q
  split at q
  · rename_i hl
    exact ⟨by rw [dn.length]; exact hl.1, by rw [en.length]; exact hl.2, g.p, g.c, U, _, b, dn.append (denL_picks l (hd U H) en), wd, u, q⟩
  · exact q.elim
theorem se_mtK {c m : Str} {r : List V → List V → Hp → VK → Prop} {f : List D → List D → Tr D} (hr : SRK g E r f) (ha : SE g E ε ta ma) (ht : SA g E ε t mt) (hk : SA g E ε tk mk) :
    SE g E ε (tMtK (gd c g.K) m r ta t tk) (bd ma fun o => isO c o fun fs => if fs.lookup m = none then bd mt fun ds => bd mk fun es => f (o :: ds) es else .bad) := fun U σ H b Q R W u q =>
  ha.step R W u q fun v d H1 b1 d1 w1 f1 R1 u1 q1 => by
    obtain ⟨fs, rfl, q2⟩ := al_isO q1
    obtain ⟨a, dx, fvs, rfl, ea, na, df⟩ := den_obj d1
    split at q2
    · rename_i e
      refine ⟨a, dx, fvs, rfl, ea, df.look0 e, ?_⟩
      refine ht.step R1 w1 u1 q2 fun vs ds H2 b2 dn w2 f2 R2 u2 q3 => ?_
      refine hk.step R2 w2 u2 q3 fun zs es H3 b3 en w3 f3 R3 u3 q4 => ?_
      exact hr U H3 b3 (.ref a :: vs) zs (.obj c fs :: ds) es Q (.cons ((d1.fr u1 f2).fr u2 f3) (dn.fr u2 f3)) en w3 u3 (q4.mono (fun _ _ h => h.fr (f1.trans (f2.trans f3))) (fun _ _ _ h => h))
    · exact q2.elim
theorem se_smK {C : Addr} {r : List V → List V → Hp → VK → Prop} {f : List D → List D → Tr D} (hr : SRK g E r f) (hk : SA g E ε tk mk) : SE g E ε (tSmK C r (tC (.ref C)) tk) (bd mk (f [])) := fun U σ H b Q R W u q =>
  ⟨rfl, hk.step R W u q fun zs es H1 b1 d1 w1 f1 R1 u1 q1 => hr U H1 b1 [] zs [] es Q .nil d1 w1 u1 (q1.mono (fun _ _ h => h.fr f1) (fun _ _ _ h => h))⟩
end
end Gp
end
section
set_option Elab.async false
set_option linter.all false
set_option maxRecDepth 100000
set_option maxHeartbeats 4000000
namespace Gp
open PySem PySem.Spec PyProof.Rows L2 Gh Gz
@[irreducible] def rIsiTE (K : PySem.W.Frag) : List V → Hp → VK → Prop := fun xs H Q => ∃ (a C d tp c1 c2 c3 : Addr) (fs : List (Str × V)) (b : Bool), xs = [.ref a, .ref tp] ∧ H a = some (exk a C d) ∧ H d = some (.xd fs) ∧ ErrT K C ∧ H tp = some (.tup [.ref c1, .ref c2, .ref c3]) ∧
  PySem.W.kitAny K (.ref C) [.ref c1, .ref c2, .ref c3] = some b ∧ Q (.bl b) H
section
variable {X : Cx}
theorem call_isiTE {K : PySem.W.Frag} (hK : X.K = K) : CallR X (.builtin "isinstance") (rIsiTE K) := by
  subst hK
  intro pins s σ H xs us Q I r h
  unfold rIsiTE at h
  obtain ⟨a, C, d, tp, c1, c2, c3, fs, b, rfl, ea, ed, T, hT, e, q⟩ := h
  obtain ⟨u1, u2, rfl, r1, r2⟩ := vals2 r
  obtain rfl : u1 = Value.ref a := r1
  cases (show u2 = Value.ref tp from r2)
  obtain ⟨o, od, mA, J, _⟩ := exk_inst I ea ed
  have hcl : (PySem.W.clsIn X.K C).isSome = true := by
    obtain ⟨cd, hc, _⟩ := PySem.W.any_some T.hd
    rw [hc]
    rfl
  obtain ⟨_, its, rv, o, h1, h2, n, h3⟩ := (show ObjOk X.prog X.w H s.heap tp (.tup [.ref c1, .ref c2, .ref c3]) from I.hok tp _ hT)
  have e3 : its = [.ref c1, .ref c2, .ref c3] := by
    cases rv with
    | cons x1 rv =>
      cases rv with
      | cons x2 rv =>
        cases rv with
        | cons x3 rv =>
          cases rv
          rw [show _ = Value.ref c1 from x1, show _ = Value.ref c2 from x2, show _ = Value.ref c3 from x3]
  subst e3
  obtain ⟨oc, od, dt, sl⟩ := o
  simp only at h2 h3
  subst h2 h3
  exact PySem.W.kia_tup (PySem.W.kitx_exc hcl T.hg T.hk T.hs T.ha T.hn T.htk T.hm) I.kIn J h1 e (fun z => nomatch z) fun tk => ⟨.bl b, H, I.tok tk, rfl, q⟩
end
section
variable {g : Gw} {E : XK} {ε : Env} {te : TE} {me : Tr D}
theorem se_isiTE {c1 c2 c3 : Addr} {etab : List (Str × Bool)} (hT : ∀ c k, etab.lookup c = some k → ErrT g.K (gd c g.K) ∧ PySem.W.kitAny g.K (.ref (gd c g.K)) [.ref c1, .ref c2, .ref c3] = some k) (he : SE g E ε te me) :
    SE g E ε (tCB (rIsiTE g.K) (tCons te (tCons (tTup (tCons (tC (.ref c1)) (tCons (tC (.ref c2)) (tCons (tC (.ref c3)) tNil)))) tNil))) (bd me fun d => bd (opt (isF (fun _ => none) [] etab d)) fun k => .ok (.bl k)) := fun U σ H b Q R W uo q =>
  he.step R W uo q fun v d H1 b1 d1 w1 f1 R1 u1 q1 => by
    refine ⟨by show 3 ≤ sizeLine; decide, fun p np => ?_⟩
    cases d with
    | err c fs =>
      change Al _ _ (bd (opt (etab.lookup c)) _) b1 at q1
      cases e : etab.lookup c with
      | none => rw [e] at q1; exact q1.elim
      | some k =>
        rw [e] at q1
        obtain ⟨h1, h2⟩ := hT c k e
        cases d1 with
        | err ha na hd nd df =>
          have s := same_new (o := .tup [V.ref c1, V.ref c2, V.ref c3]) np
          unfold rIsiTE
          exact ⟨_, _, _, p, c1, c2, c3, _, k, rfl, s _ _ ha, s _ _ hd, h1, upd_same, h2, q1 _ _ (.bl k) (w1.same s) (f1.trans (fr_same s))⟩
    | obj c fs => exact q1.elim
    | _ => first
      | exact q1.elim
      | (unfold isF at q1
         dsimp only at q1
         cases z : kdN _ <;> (rw [z] at q1; exact q1.elim))
end
end Gp
end
section
set_option Elab.async false
set_option linter.all false
set_option maxRecDepth 100000
set_option maxHeartbeats 4000000
namespace Gp
open PySem PySem.Spec PyProof.Rows L2 Gh
theorem obsM_eq {as : List Addr} {ex : List (PySem.W.Frag → Bool)} {fn : List Df} {tf : List He.Defn} {fs : List Ds} {file : Str} {ts : List He.Tab} {g : Addr → Option Obj} {s : Shared} (h : ∀ a, g a = s.heap.get? a) : obsM as ex fn tf fs file ts g = (hookM as ex fn tf fs file ts).obs s := by
  have e : g = s.heap.get? := funext h
  rw [e] <;> rfl
def KdT (K : PySem.W.Frag) (w : World) (a : Addr) (ps : List (Str × Int)) : Prop := ∀ z i, ps.lookup z = some i → KDct K w a z (.int i)
theorem look_mem2 {z : Str} {i : Int} : ∀ {l : List (Str × Int)}, l.lookup z = some i → (z, i) ∈ l
  | [], h => by cases h
  | (b, u) :: r, h => by
    rw [List.lookup_cons] at h
    split at h
    · rename_i q
      cases h
      rw [eq_of_beq q]
      exact List.mem_cons_self
    · exact List.mem_cons_of_mem _ (look_mem2 h)
theorem kdT_of {K : PySem.W.Frag} {w : World} {a : Addr} {ps : List (Str × Int)} (D : ∃ es n, KDict K w a es n) (h : He.valsB K a (kdV ps) = true) : KdT K w a ps := by
  obtain ⟨es, n, d⟩ := D
  intro z i e
  obtain ⟨u, h1, h2⟩ := He.valsB_ok h (q := (z, .int i)) (List.mem_map.mpr ⟨_, look_mem2 e, rfl⟩)
  exact ⟨es, n, u, d.at_, d.lit, h1, h2⟩
def kdD (ps : List (Str × Int)) : D → Tr D
  | .str z => match ps.lookup z with
    | some i => .ok (.int i)
    | none => .bad
  | _ => .bad
section
variable {X : Cx} {a b : Expr} {pos : Pos} {ta tb : TE}
theorem pe_kdget {K : PySem.W.Frag} {w : World} (h : X.K = K) (hw : X.w = w) (ha : PE X a ta) (hb : PE X b tb) (hs : PlainIx b) : PE X (.Subscript a b pos) (tOp (rIxD K w) ta tb) := by
  subst h hw
  exact pe_ix ix_kdict ha hb hs
end
section
variable {g : Gw} {E : XK} {ε : Env} {tk : TE} {mk : Tr D}
theorem se_kdget {w : World} {a : Addr} {ps : List (Str × Int)} (hK : KdT g.K w a ps) (hk : SE g E ε tk mk) : SE g E ε (tOp (rIxD g.K w) (tC (.ref a)) tk) (bd mk (kdD ps)) := fun U σ H b Q R W u q =>
  hk.step R W u q fun x dx H1 b1 d1 w1 f1 R1 u1 q1 => by
    cases d1 with
    | str z hz =>
      cases e : ps.lookup z with
      | none =>
        have y : kdD ps (.str z) = .bad := by
          unfold kdD
          dsimp only
          rw [e]
        rw [y] at q1
        exact q1.elim
      | some i =>
        have y : kdD ps (.str z) = .ok (.int i) := by
          unfold kdD
          dsimp only
          rw [e]
        rw [y] at q1
        exact ⟨a, z, .int i, rfl, rfl, hK z i e, q1 _ _ (.int i) w1 f1⟩
    | _ => exact q1.elim
end
def unL2 {α : Type} (d : D) (k : D → D → Tr α) : Tr α := match d with
  | .lst [x, y] => k x y
  | _ => .bad
section
variable {W L : Type} {g : Gw} {E : XK} {ε : Env} {tb : TS} {env : W → Env} {envL : L → Env}
theorem sx_lst2 {i j : Nat} {d : D} {m : D → D → Tr (Fl W L)} (h : ∀ x y, SS g E ((ε.set i (.fz x)).set j (.fz y)) tb env envL (m x y)) : SX g E ε d (gUnl g.K 2 (gCons (gName i) (gCons (gName j) gNil))) tb env envL (unL2 d m) := fun Mt U0 H0 U D σ H b v s dn q => by
  unfold unL2 at q
  split at q
  · rename_i x y
    obtain ⟨a, vs, rfl, ha, _, _, k⟩ := den_lst dn
    obtain ⟨v1, v2, rfl, e1, e2⟩ := denL_2 k
    exact ⟨a, [v1, v2], rfl, .inl (.inl ha), rfl, v1, [v2], rfl, v2, [], rfl, rfl, h x y Mt U0 H0 U D _ H b ((s.set i e1).set j e2) q⟩
  · exact q.elim
end
end Gp
end
section
set_option Elab.async false
set_option linter.all false
set_option maxRecDepth 100000
set_option maxHeartbeats 0
namespace Lw
open PySem PySem.Spec PyProof.Rows L2 Gh Gp
theorem ob_eq (s : PySem.W.SharedT) : ob s = hk.obs s.abs := Gp.obsM_eq (HandSHeadRun.getT_eq s)
structure Tx (K : PySem.W.Frag) (mg : Str → Option Value) : Prop where
  f_ValueError : mg "ValueError" = none
  f_abs : mg "abs" = none
  f_bool : mg "bool" = none
  f_int : mg "int" = none
  f_isinstance : mg "isinstance" = none
  f_len : mg "len" = none
  f_list : mg "list" = none
  f_range : mg "range" = none
  f_repr : mg "repr" = none
  f_str : mg "str" = none
  g__law_pen : mg "_law_pen" = some (.ref (gd "_law_pen" K))
  k__law_pen : PySem.W.keepIn K (.ref (gd "_law_pen" K)) = true
  g__law_draw : mg "_law_draw" = some (.ref (gd "_law_draw" K))
  k__law_draw : PySem.W.keepIn K (.ref (gd "_law_draw" K)) = true
  g_is_integer : mg "is_integer" = some (.ref (gd "is_integer" K))
  k_is_integer : PySem.W.keepIn K (.ref (gd "is_integer" K)) = true
  g_is_within : mg "is_within" = some (.ref (gd "is_within" K))
  k_is_within : PySem.W.keepIn K (.ref (gd "is_within" K)) = true
  g_is_length : mg "is_length" = some (.ref (gd "is_length" K))
  k_is_length : PySem.W.keepIn K (.ref (gd "is_length" K)) = true
  g_is_rest : mg "is_rest" = some (.ref (gd "is_rest" K))
  k_is_rest : PySem.W.keepIn K (.ref (gd "is_rest" K)) = true
  g_need_length : mg "need_length" = some (.ref (gd "need_length" K))
  k_need_length : PySem.W.keepIn K (.ref (gd "need_length" K)) = true
  g_need_rest : mg "need_rest" = some (.ref (gd "need_rest" K))
  k_need_rest : PySem.W.keepIn K (.ref (gd "need_rest" K)) = true
  g__law_pick : mg "_law_pick" = some (.ref (gd "_law_pick" K))
  k__law_pick : PySem.W.keepIn K (.ref (gd "_law_pick" K)) = true
  g__law_heard : mg "_law_heard" = some (.ref (gd "_law_heard" K))
  k__law_heard : PySem.W.keepIn K (.ref (gd "_law_heard" K)) = true
  g__law_place : mg "_law_place" = some (.ref (gd "_law_place" K))
  k__law_place : PySem.W.keepIn K (.ref (gd "_law_place" K)) = true
  g__law_spot : mg "_law_spot" = some (.ref (gd "_law_spot" K))
  k__law_spot : PySem.W.keepIn K (.ref (gd "_law_spot" K)) = true
  g__law_real : mg "_law_real" = some (.ref (gd "_law_real" K))
  k__law_real : PySem.W.keepIn K (.ref (gd "_law_real" K)) = true
  g__law_length : mg "_law_length" = some (.ref (gd "_law_length" K))
  k__law_length : PySem.W.keepIn K (.ref (gd "_law_length" K)) = true
  g__law_moved_right : mg "_law_moved_right" = some (.ref (gd "_law_moved_right" K))
  k__law_moved_right : PySem.W.keepIn K (.ref (gd "_law_moved_right" K)) = true
  g__law_turned_right : mg "_law_turned_right" = some (.ref (gd "_law_turned_right" K))
  k__law_turned_right : PySem.W.keepIn K (.ref (gd "_law_turned_right" K)) = true
  g__law_order_right : mg "_law_order_right" = some (.ref (gd "_law_order_right" K))
  k__law_order_right : PySem.W.keepIn K (.ref (gd "_law_order_right" K)) = true
  g_BadSpot : mg "BadSpot" = some (.ref (gd "BadSpot" K))
  k_BadSpot : PySem.W.keepIn K (.ref (gd "BadSpot" K)) = true
  g_BadLength : mg "BadLength" = some (.ref (gd "BadLength" K))
  k_BadLength : PySem.W.keepIn K (.ref (gd "BadLength" K)) = true
  g_BadRest : mg "BadRest" = some (.ref (gd "BadRest" K))
  k_BadRest : PySem.W.keepIn K (.ref (gd "BadRest" K)) = true
  g_Spot : mg "Spot" = some (.ref (gd "Spot" K))
  k_Spot : PySem.W.keepIn K (.ref (gd "Spot" K)) = true
  g_BadForm : mg "BadForm" = some (.ref (gd "BadForm" K))
  k_BadForm : PySem.W.keepIn K (.ref (gd "BadForm" K)) = true
  g_BadNumber : mg "BadNumber" = some (.ref (gd "BadNumber" K))
  k_BadNumber : PySem.W.keepIn K (.ref (gd "BadNumber" K)) = true
  g_BadStep : mg "BadStep" = some (.ref (gd "BadStep" K))
  k_BadStep : PySem.W.keepIn K (.ref (gd "BadStep" K)) = true
  g_BadText : mg "BadText" = some (.ref (gd "BadText" K))
  k_BadText : PySem.W.keepIn K (.ref (gd "BadText" K)) = true
  g_HuntError : mg "HuntError" = some (.ref (gd "HuntError" K))
  k_HuntError : PySem.W.keepIn K (.ref (gd "HuntError" K)) = true
  g_Parts : mg "Parts" = some (.ref (gd "Parts" K))
  k_Parts : PySem.W.keepIn K (.ref (gd "Parts" K)) = true
  m_GREATEST_LENGTH : ∃ t, mg "GREATEST_LENGTH" = some (.int 10000000000000000000000000000000000000000 t)
  m_MOST_NUMBER : ∃ t, mg "MOST_NUMBER" = some (.int 400 t)
  n_BadSpot_part : NoAttr K (gd "BadSpot" K) "part"
  er_BadSpot : ErrT K (gd "BadSpot" K)
  ox_BadSpot : OexC K (gd "BadSpot" K)
  in_BadSpot : IniT K (gd "BadSpot" K) (md "BadSpot" "__init__" K)
  xh_BadSpot : PySem.W.exmOne K (.ref (gd "BadSpot" K)) (.ref (gd "HuntError" K)) = some true
  n_BadLength_value : NoAttr K (gd "BadLength" K) "value"
  er_BadLength : ErrT K (gd "BadLength" K)
  ox_BadLength : OexC K (gd "BadLength" K)
  in_BadLength : IniT K (gd "BadLength" K) (md "BadLength" "__init__" K)
  xh_BadLength : PySem.W.exmOne K (.ref (gd "BadLength" K)) (.ref (gd "HuntError" K)) = some true
  n_BadRest_value : NoAttr K (gd "BadRest" K) "value"
  er_BadRest : ErrT K (gd "BadRest" K)
  ox_BadRest : OexC K (gd "BadRest" K)
  in_BadRest : IniT K (gd "BadRest" K) (md "BadRest" "__init__" K)
  xh_BadRest : PySem.W.exmOne K (.ref (gd "BadRest" K)) (.ref (gd "HuntError" K)) = some true
  cl_Spot : Cls K (gd "Spot" K)
  ty_Spot : InsT K (gd "Spot" K)
  n_Spot_own_kind : NoAttr K (gd "Spot" K) "own_kind"
  n_Spot_number : NoAttr K (gd "Spot" K) "number"
  n_Spot_own_rank : NoAttr K (gd "Spot" K) "own_rank"
  mk_Spot : Mk K (gd "Spot" K) (md "Spot" "__init__" K)
  st_Spot_near_front : StaT K (gd "Spot" K) "near_front" (He.ma K (He.ga K "Spot") "near_front") (staG "Spot" "near_front" K)
  st_Spot_near_middle : StaT K (gd "Spot" K) "near_middle" (He.ma K (He.ga K "Spot") "near_middle") (staG "Spot" "near_middle" K)
  st_Spot_near_back : StaT K (gd "Spot" K) "near_back" (He.ma K (He.ga K "Spot") "near_back") (staG "Spot" "near_back" K)
  pr_Spot_kind : PropOf K (gd "Spot" K) "kind" (He.ma K (He.ga K "Spot") "kind") (propG "Spot" "kind" K)
  mt_Spot_place_at_length : Meth K (gd "Spot" K) "place_at_length" (md "Spot" "place_at_length" K)
  mt_Spot___call__ : Meth K (gd "Spot" K) "__call__" (md "Spot" "__call__" K)
  co_Spot : StX.CallO K (gd "Spot" K) (md "Spot" "__call__" K)
  mt_Spot_turned : Meth K (gd "Spot" K) "turned" (md "Spot" "turned" K)
  mt_Spot___add__ : Meth K (gd "Spot" K) "__add__" (md "Spot" "__add__" K)
  op_Spot_Add : OpT K (gd "Spot" K) .Add
  ow_Spot : OwnT K (gd "Spot" K)
  mt_Spot___sub__ : Meth K (gd "Spot" K) "__sub__" (md "Spot" "__sub__" K)
  op_Spot_Sub : OpT K (gd "Spot" K) .Sub
  mt_Spot___eq__ : Meth K (gd "Spot" K) "__eq__" (md "Spot" "__eq__" K)
  mt_Spot___lt__ : Meth K (gd "Spot" K) "__lt__" (md "Spot" "__lt__" K)
  mt_Spot___le__ : Meth K (gd "Spot" K) "__le__" (md "Spot" "__le__" K)
  mt_Spot___gt__ : Meth K (gd "Spot" K) "__gt__" (md "Spot" "__gt__" K)
  mt_Spot___ge__ : Meth K (gd "Spot" K) "__ge__" (md "Spot" "__ge__" K)
  mt_Spot___str__ : Meth K (gd "Spot" K) "__str__" (md "Spot" "__str__" K)
  g_KINDS : mg "KINDS" = some (.ref (gd "KINDS" K))
  tu_KINDS : ∀ H : Hp, SqT K H (gd "KINDS" K) [.str "front", .str "middle", .str "back"]
  g_RANKS : mg "RANKS" = some (.ref (gd "RANKS" K))
  kd_RANKS : He.valsB K (gd "RANKS" K) (kdV [("front", 0), ("middle", 1), ("back", 2)]) = true
  tn__law_moved_right__law_turned_right : (He.cT K ("_law_moved_right", none)).2 ≠ (He.cT K ("_law_turned_right", none)).2
  ki_BadSpot_BadRest : PySem.W.kitOne K (.ref (gd "BadSpot" K)) (.ref (gd "BadRest" K)) = some false
  ki_BadLength_BadRest : PySem.W.kitOne K (.ref (gd "BadLength" K)) (.ref (gd "BadRest" K)) = some false
  ki_BadRest_BadRest : PySem.W.kitOne K (.ref (gd "BadRest" K)) (.ref (gd "BadRest" K)) = some true
  ki_BadSpot_BadLength : PySem.W.kitOne K (.ref (gd "BadSpot" K)) (.ref (gd "BadLength" K)) = some false
  ki_BadLength_BadLength : PySem.W.kitOne K (.ref (gd "BadLength" K)) (.ref (gd "BadLength" K)) = some true
  ki_BadRest_BadLength : PySem.W.kitOne K (.ref (gd "BadRest" K)) (.ref (gd "BadLength" K)) = some false
  ki_BadSpot_BadSpot : PySem.W.kitOne K (.ref (gd "BadSpot" K)) (.ref (gd "BadSpot" K)) = some true
  ki_BadLength_BadSpot : PySem.W.kitOne K (.ref (gd "BadLength" K)) (.ref (gd "BadSpot" K)) = some false
  ki_BadRest_BadSpot : PySem.W.kitOne K (.ref (gd "BadRest" K)) (.ref (gd "BadSpot" K)) = some false
  ki_BadSpot_BadText : PySem.W.kitOne K (.ref (gd "BadSpot" K)) (.ref (gd "BadText" K)) = some false
  ki_BadLength_BadText : PySem.W.kitOne K (.ref (gd "BadLength" K)) (.ref (gd "BadText" K)) = some false
  ki_BadRest_BadText : PySem.W.kitOne K (.ref (gd "BadRest" K)) (.ref (gd "BadText" K)) = some false
  ki_BadSpot_Parts : PySem.W.kitOne K (.ref (gd "BadSpot" K)) (.ref (gd "Parts" K)) = some false
  ki_BadLength_Parts : PySem.W.kitOne K (.ref (gd "BadLength" K)) (.ref (gd "Parts" K)) = some false
  ki_BadRest_Parts : PySem.W.kitOne K (.ref (gd "BadRest" K)) (.ref (gd "Parts" K)) = some false
  ki_BadSpot_BadNumber : PySem.W.kitOne K (.ref (gd "BadSpot" K)) (.ref (gd "BadNumber" K)) = some false
  ki_BadLength_BadNumber : PySem.W.kitOne K (.ref (gd "BadLength" K)) (.ref (gd "BadNumber" K)) = some false
  ki_BadRest_BadNumber : PySem.W.kitOne K (.ref (gd "BadRest" K)) (.ref (gd "BadNumber" K)) = some false
  ki_BadSpot_BadStep : PySem.W.kitOne K (.ref (gd "BadSpot" K)) (.ref (gd "BadStep" K)) = some false
  ki_BadLength_BadStep : PySem.W.kitOne K (.ref (gd "BadLength" K)) (.ref (gd "BadStep" K)) = some false
  ki_BadRest_BadStep : PySem.W.kitOne K (.ref (gd "BadRest" K)) (.ref (gd "BadStep" K)) = some false
  ki_BadSpot_BadForm : PySem.W.kitOne K (.ref (gd "BadSpot" K)) (.ref (gd "BadForm" K)) = some false
  ki_BadLength_BadForm : PySem.W.kitOne K (.ref (gd "BadLength" K)) (.ref (gd "BadForm" K)) = some false
  ki_BadRest_BadForm : PySem.W.kitOne K (.ref (gd "BadRest" K)) (.ref (gd "BadForm" K)) = some false
  ki_BadSpot_ValueError : PySem.W.kitOne K (.ref (gd "BadSpot" K)) (.type "ValueError") = some true
  ki_BadLength_ValueError : PySem.W.kitOne K (.ref (gd "BadLength" K)) (.type "ValueError") = some true
  ki_BadRest_ValueError : PySem.W.kitOne K (.ref (gd "BadRest" K)) (.type "ValueError") = some true
  nf_Spot : NfT K (gd "Spot" K)
  ne_Spot : NeT K (gd "Spot" K)
  nf_Spot_Spot : PySem.W.notFirst K (gd "Spot" K) (.ref (gd "Spot" K)) = true
theorem tx_of {K : PySem.W.Frag} {h : Heap} {mg : Str → Option Value} (X : K.In h) (G : h.Ns mainGlobals mg) (c : Says exs fns K) : Tx K mg :=
  ⟨(He.free_ok X G (c.fact 0 rfl)), (He.free_ok X G (c.fact 1 rfl)), (He.free_ok X G (c.fact 2 rfl)), (He.free_ok X G (c.fact 3 rfl)), (He.free_ok X G (c.fact 4 rfl)), (He.free_ok X G (c.fact 5 rfl)), (He.free_ok X G (c.fact 6 rfl)), (He.free_ok X G (c.fact 7 rfl)), (He.free_ok X G (c.fact 8 rfl)), (He.free_ok X G (c.fact 9 rfl)), (He.glo_ok X G (c.fact 10 rfl)), ((c.fact 11 rfl)), (He.glo_ok X G (c.fact 12 rfl)), ((c.fact 13 rfl)), (He.glo_ok X G (c.fact 14 rfl)), ((c.fact 15 rfl)), (He.glo_ok X G (c.fact 16 rfl)), ((c.fact 17 rfl)), (He.glo_ok X G (c.fact 18 rfl)), ((c.fact 19 rfl)), (He.glo_ok X G (c.fact 20 rfl)), ((c.fact 21 rfl)), (He.glo_ok X G (c.fact 22 rfl)), ((c.fact 23 rfl)), (He.glo_ok X G (c.fact 24 rfl)), ((c.fact 25 rfl)), (He.glo_ok X G (c.fact 26 rfl)), ((c.fact 27 rfl)), (He.glo_ok X G (c.fact 28 rfl)), ((c.fact 29 rfl)), (He.glo_ok X G (c.fact 30 rfl)), ((c.fact 31 rfl)), (He.glo_ok X G (c.fact 32 rfl)), ((c.fact 33 rfl)), (He.glo_ok X G (c.fact 34 rfl)), ((c.fact 35 rfl)), (He.glo_ok X G (c.fact 36 rfl)), ((c.fact 37 rfl)), (He.glo_ok X G (c.fact 38 rfl)), ((c.fact 39 rfl)), (He.glo_ok X G (c.fact 40 rfl)), ((c.fact 41 rfl)), (He.glo_ok X G (c.fact 42 rfl)), ((c.fact 43 rfl)), (He.glo_ok X G (c.fact 44 rfl)), ((c.fact 45 rfl)), (He.glo_ok X G (c.fact 46 rfl)), ((c.fact 47 rfl)), (He.glo_ok X G (c.fact 48 rfl)), ((c.fact 49 rfl)), (He.glo_ok X G (c.fact 50 rfl)), ((c.fact 51 rfl)), (He.glo_ok X G (c.fact 52 rfl)), ((c.fact 53 rfl)), (He.glo_ok X G (c.fact 54 rfl)), ((c.fact 55 rfl)), (He.glo_ok X G (c.fact 56 rfl)), ((c.fact 57 rfl)), (He.glo_ok X G (c.fact 58 rfl)), ((c.fact 59 rfl)), (He.glo_ok X G (c.fact 60 rfl)), ((c.fact 61 rfl)), (He.glo_ok X G (c.fact 62 rfl)), ((c.fact 63 rfl)), (He.int_ok X G (c.fact 64 rfl)), (He.int_ok X G (c.fact 65 rfl)), (He.eqO_ok (c.fact 66 rfl)), (errB_ok (c.fact 67 rfl)), (oexB_ok (c.fact 68 rfl)), (iniB_ok (c.fact 69 rfl)), (of_decide_eq_true (c.fact 70 rfl)), (He.eqO_ok (c.fact 71 rfl)), (errB_ok (c.fact 72 rfl)), (oexB_ok (c.fact 73 rfl)), (iniB_ok (c.fact 74 rfl)), (of_decide_eq_true (c.fact 75 rfl)), (He.eqO_ok (c.fact 76 rfl)), (errB_ok (c.fact 77 rfl)), (oexB_ok (c.fact 78 rfl)), (iniB_ok (c.fact 79 rfl)), (of_decide_eq_true (c.fact 80 rfl)), (He.cls_ok (c.fact 81 rfl)), (insB_ok (c.fact 82 rfl)), (He.eqO_ok (c.fact 83 rfl)), (He.eqO_ok (c.fact 84 rfl)), (He.eqO_ok (c.fact 85 rfl)), (He.mkr_ok (c.fact 86 rfl)), (staB_ok (c.fact 87 rfl)), (staB_ok (c.fact 88 rfl)), (staB_ok (c.fact 89 rfl)), (propB_ok (c.fact 90 rfl)), (He.meth_ok (c.fact 91 rfl)), (He.meth_ok (c.fact 92 rfl)), (coB_ok (c.fact 93 rfl)), (He.meth_ok (c.fact 94 rfl)), (He.meth_ok (c.fact 95 rfl)), (opB_ok (c.fact 96 rfl)), (ownB_ok (c.fact 97 rfl)), (He.meth_ok (c.fact 98 rfl)), (opB_ok (c.fact 99 rfl)), (He.meth_ok (c.fact 100 rfl)), (He.meth_ok (c.fact 101 rfl)), (He.meth_ok (c.fact 102 rfl)), (He.meth_ok (c.fact 103 rfl)), (He.meth_ok (c.fact 104 rfl)), (He.meth_ok (c.fact 105 rfl)), (He.glo_ok X G (c.fact 106 rfl)), (fun H => He.tupB_ok (c.fact 107 rfl) H), (He.glo_ok X G (c.fact 108 rfl)), ((c.fact 109 rfl)), (of_decide_eq_true (c.fact 110 rfl)), (of_decide_eq_true (c.fact 111 rfl)), (of_decide_eq_true (c.fact 112 rfl)), (of_decide_eq_true (c.fact 113 rfl)), (of_decide_eq_true (c.fact 114 rfl)), (of_decide_eq_true (c.fact 115 rfl)), (of_decide_eq_true (c.fact 116 rfl)), (of_decide_eq_true (c.fact 117 rfl)), (of_decide_eq_true (c.fact 118 rfl)), (of_decide_eq_true (c.fact 119 rfl)), (of_decide_eq_true (c.fact 120 rfl)), (of_decide_eq_true (c.fact 121 rfl)), (of_decide_eq_true (c.fact 122 rfl)), (of_decide_eq_true (c.fact 123 rfl)), (of_decide_eq_true (c.fact 124 rfl)), (of_decide_eq_true (c.fact 125 rfl)), (of_decide_eq_true (c.fact 126 rfl)), (of_decide_eq_true (c.fact 127 rfl)), (of_decide_eq_true (c.fact 128 rfl)), (of_decide_eq_true (c.fact 129 rfl)), (of_decide_eq_true (c.fact 130 rfl)), (of_decide_eq_true (c.fact 131 rfl)), (of_decide_eq_true (c.fact 132 rfl)), (of_decide_eq_true (c.fact 133 rfl)), (of_decide_eq_true (c.fact 134 rfl)), (of_decide_eq_true (c.fact 135 rfl)), (of_decide_eq_true (c.fact 136 rfl)), (of_decide_eq_true (c.fact 137 rfl)), (nfB_ok (c.fact 138 rfl)), (neB_ok (c.fact 139 rfl)), ((c.fact 140 rfl))⟩
section
variable {K : PySem.W.Frag} {mg : Str → Option Value} {Tb : List (Addr × Str)} {p c : Addr}
theorem xt_part (T : Tx K mg) : ∀ c ∈ (["BadSpot"] : List Str), ErrT K (gd c K) ∧ PySem.W.findIn K (.ref (gd c K)) "part" = some none := by
  intro c h
  simp only [List.mem_cons, List.mem_nil_iff, or_false] at h
  rcases h with rfl
  · exact ⟨T.er_BadSpot, T.n_BadSpot_part⟩
theorem xt_value (T : Tx K mg) : ∀ c ∈ (["BadLength", "BadRest"] : List Str), ErrT K (gd c K) ∧ PySem.W.findIn K (.ref (gd c K)) "value" = some none := by
  intro c h
  simp only [List.mem_cons, List.mem_nil_iff, or_false] at h
  rcases h with rfl | rfl
  · exact ⟨T.er_BadLength, T.n_BadLength_value⟩
  · exact ⟨T.er_BadRest, T.n_BadRest_value⟩
def isi_int : D → Option Bool := isF (fun n => kitB n "int") [("Spot", false)] []
theorem isT_int (T : Tx K mg) : IsT ⟨K, Tb, p, c⟩ (.type "int") isi_int := isT_of (fun n k h => kit_ty h) (fun c k h => (look_cons h).elim (fun e => by obtain ⟨rfl, rfl⟩ := e; exact ⟨T.cl_Spot, T.ty_Spot, T.ty_Spot.out _ (by decide)⟩) (fun h => nomatch h)) (fun c k h => nomatch h)
def isi_bool : D → Option Bool := isF (fun n => kitB n "bool") [("Spot", false)] []
theorem isT_bool (T : Tx K mg) : IsT ⟨K, Tb, p, c⟩ (.type "bool") isi_bool := isT_of (fun n k h => kit_ty h) (fun c k h => (look_cons h).elim (fun e => by obtain ⟨rfl, rfl⟩ := e; exact ⟨T.cl_Spot, T.ty_Spot, T.ty_Spot.out _ (by decide)⟩) (fun h => nomatch h)) (fun c k h => nomatch h)
def isi_str : D → Option Bool := isF (fun n => kitB n "str") [("Spot", false)] []
theorem isT_str (T : Tx K mg) : IsT ⟨K, Tb, p, c⟩ (.type "str") isi_str := isT_of (fun n k h => kit_ty h) (fun c k h => (look_cons h).elim (fun e => by obtain ⟨rfl, rfl⟩ := e; exact ⟨T.cl_Spot, T.ty_Spot, T.ty_Spot.out _ (by decide)⟩) (fun h => nomatch h)) (fun c k h => nomatch h)
def isi_Spot : D → Option Bool := isF (fun n => if n ∈ (["NoneType", "bool", "int", "str", "list", "tuple", "dict"] : List String) then some false else none) [("Spot", true)] []
theorem isT_Spot (T : Tx K mg) : IsT ⟨K, Tb, p, c⟩ (.ref (gd "Spot" K)) isi_Spot := isT_of (fun n k h => by
  split at h
  · rename_i z
    cases h
    exact T.ty_Spot.no n z
  · cases h) (fun c k h => (look_cons h).elim (fun e => by obtain ⟨rfl, rfl⟩ := e; exact ⟨T.cl_Spot, T.ty_Spot, T.ty_Spot.yes⟩) (fun h => nomatch h)) (fun c k h => nomatch h)
def isi_BadRest : D → Option Bool := isF (fun _ => none) [] [("BadSpot", false), ("BadLength", false), ("BadRest", true)]
theorem isT_BadRest (T : Tx K mg) : IsT ⟨K, Tb, p, c⟩ (.ref (gd "BadRest" K)) isi_BadRest := isT_of (fun n k h => nomatch h) (fun c k h => nomatch h) (fun c k h => (look_cons h).elim (fun e => by obtain ⟨rfl, rfl⟩ := e; exact ⟨T.er_BadSpot, T.ki_BadSpot_BadRest⟩) (fun h => (look_cons h).elim (fun e => by obtain ⟨rfl, rfl⟩ := e; exact ⟨T.er_BadLength, T.ki_BadLength_BadRest⟩) (fun h => (look_cons h).elim (fun e => by obtain ⟨rfl, rfl⟩ := e; exact ⟨T.er_BadRest, T.ki_BadRest_BadRest⟩) (fun h => nomatch h))))
def isi_BadLength : D → Option Bool := isF (fun _ => none) [] [("BadSpot", false), ("BadLength", true), ("BadRest", false)]
theorem isT_BadLength (T : Tx K mg) : IsT ⟨K, Tb, p, c⟩ (.ref (gd "BadLength" K)) isi_BadLength := isT_of (fun n k h => nomatch h) (fun c k h => nomatch h) (fun c k h => (look_cons h).elim (fun e => by obtain ⟨rfl, rfl⟩ := e; exact ⟨T.er_BadSpot, T.ki_BadSpot_BadLength⟩) (fun h => (look_cons h).elim (fun e => by obtain ⟨rfl, rfl⟩ := e; exact ⟨T.er_BadLength, T.ki_BadLength_BadLength⟩) (fun h => (look_cons h).elim (fun e => by obtain ⟨rfl, rfl⟩ := e; exact ⟨T.er_BadRest, T.ki_BadRest_BadLength⟩) (fun h => nomatch h))))
def isi_BadSpot : D → Option Bool := isF (fun _ => none) [] [("BadSpot", true), ("BadLength", false), ("BadRest", false)]
theorem isT_BadSpot (T : Tx K mg) : IsT ⟨K, Tb, p, c⟩ (.ref (gd "BadSpot" K)) isi_BadSpot := isT_of (fun n k h => nomatch h) (fun c k h => nomatch h) (fun c k h => (look_cons h).elim (fun e => by obtain ⟨rfl, rfl⟩ := e; exact ⟨T.er_BadSpot, T.ki_BadSpot_BadSpot⟩) (fun h => (look_cons h).elim (fun e => by obtain ⟨rfl, rfl⟩ := e; exact ⟨T.er_BadLength, T.ki_BadLength_BadSpot⟩) (fun h => (look_cons h).elim (fun e => by obtain ⟨rfl, rfl⟩ := e; exact ⟨T.er_BadRest, T.ki_BadRest_BadSpot⟩) (fun h => nomatch h))))
def isi_BadText : D → Option Bool := isF (fun _ => none) [] [("BadSpot", false), ("BadLength", false), ("BadRest", false)]
theorem isT_BadText (T : Tx K mg) : IsT ⟨K, Tb, p, c⟩ (.ref (gd "BadText" K)) isi_BadText := isT_of (fun n k h => nomatch h) (fun c k h => nomatch h) (fun c k h => (look_cons h).elim (fun e => by obtain ⟨rfl, rfl⟩ := e; exact ⟨T.er_BadSpot, T.ki_BadSpot_BadText⟩) (fun h => (look_cons h).elim (fun e => by obtain ⟨rfl, rfl⟩ := e; exact ⟨T.er_BadLength, T.ki_BadLength_BadText⟩) (fun h => (look_cons h).elim (fun e => by obtain ⟨rfl, rfl⟩ := e; exact ⟨T.er_BadRest, T.ki_BadRest_BadText⟩) (fun h => nomatch h))))
def isi_Parts : D → Option Bool := isF (fun _ => none) [] [("BadSpot", false), ("BadLength", false), ("BadRest", false)]
theorem isT_Parts (T : Tx K mg) : IsT ⟨K, Tb, p, c⟩ (.ref (gd "Parts" K)) isi_Parts := isT_of (fun n k h => nomatch h) (fun c k h => nomatch h) (fun c k h => (look_cons h).elim (fun e => by obtain ⟨rfl, rfl⟩ := e; exact ⟨T.er_BadSpot, T.ki_BadSpot_Parts⟩) (fun h => (look_cons h).elim (fun e => by obtain ⟨rfl, rfl⟩ := e; exact ⟨T.er_BadLength, T.ki_BadLength_Parts⟩) (fun h => (look_cons h).elim (fun e => by obtain ⟨rfl, rfl⟩ := e; exact ⟨T.er_BadRest, T.ki_BadRest_Parts⟩) (fun h => nomatch h))))
def isi_BadNumber_BadStep_BadForm : D → Option Bool := isF (fun _ => none) [] [("BadSpot", false), ("BadLength", false), ("BadRest", false)]
theorem isT_BadNumber_BadStep_BadForm (T : Tx K mg) : ∀ c k, ([("BadSpot", false), ("BadLength", false), ("BadRest", false)] : List (Str × Bool)).lookup c = some k → ErrT K (gd c K) ∧ PySem.W.kitAny K (.ref (gd c K)) [.ref (gd "BadNumber" K), .ref (gd "BadStep" K), .ref (gd "BadForm" K)] = some k := (fun c k h => (look_cons h).elim (fun e => by obtain ⟨rfl, rfl⟩ := e; exact ⟨T.er_BadSpot, kitAny_cons T.ki_BadSpot_BadNumber (fun _ => kitAny_cons T.ki_BadSpot_BadStep (fun _ => kitAny_cons T.ki_BadSpot_BadForm (fun _ => rfl) (fun z => by cases z)) (fun z => by cases z)) (fun z => by cases z)⟩) (fun h => (look_cons h).elim (fun e => by obtain ⟨rfl, rfl⟩ := e; exact ⟨T.er_BadLength, kitAny_cons T.ki_BadLength_BadNumber (fun _ => kitAny_cons T.ki_BadLength_BadStep (fun _ => kitAny_cons T.ki_BadLength_BadForm (fun _ => rfl) (fun z => by cases z)) (fun z => by cases z)) (fun z => by cases z)⟩) (fun h => (look_cons h).elim (fun e => by obtain ⟨rfl, rfl⟩ := e; exact ⟨T.er_BadRest, kitAny_cons T.ki_BadRest_BadNumber (fun _ => kitAny_cons T.ki_BadRest_BadStep (fun _ => kitAny_cons T.ki_BadRest_BadForm (fun _ => rfl) (fun z => by cases z)) (fun z => by cases z)) (fun z => by cases z)⟩) (fun h => nomatch h))))
def isi_ValueError : D → Option Bool := isF (fun _ => none) [] [("BadSpot", true), ("BadLength", true), ("BadRest", true)]
theorem isT_ValueError (T : Tx K mg) : IsT ⟨K, Tb, p, c⟩ (.type "ValueError") isi_ValueError := isT_of (fun n k h => nomatch h) (fun c k h => nomatch h) (fun c k h => (look_cons h).elim (fun e => by obtain ⟨rfl, rfl⟩ := e; exact ⟨T.er_BadSpot, T.ki_BadSpot_ValueError⟩) (fun h => (look_cons h).elim (fun e => by obtain ⟨rfl, rfl⟩ := e; exact ⟨T.er_BadLength, T.ki_BadLength_ValueError⟩) (fun h => (look_cons h).elim (fun e => by obtain ⟨rfl, rfl⟩ := e; exact ⟨T.er_BadRest, T.ki_BadRest_ValueError⟩) (fun h => nomatch h))))
def isi_list : D → Option Bool := isF (fun n => kitB n "list") [("Spot", false)] []
theorem isT_list (T : Tx K mg) : IsT ⟨K, Tb, p, c⟩ (.type "list") isi_list := isT_of (fun n k h => kit_ty h) (fun c k h => (look_cons h).elim (fun e => by obtain ⟨rfl, rfl⟩ := e; exact ⟨T.cl_Spot, T.ty_Spot, T.ty_Spot.out _ (by decide)⟩) (fun h => nomatch h)) (fun c k h => nomatch h)
def eqr_Spot : D → Bool := eqF0 ["Spot"]
theorem eqR_Spot (T : Tx K mg) : EqR ⟨K, Tb, p, c⟩ "Spot" eqr_Spot := eqR_of (fun n hn => T.nf_Spot.ok n hn) (fun c h => by
  simp only [List.mem_cons, List.mem_nil_iff, or_false] at h
  rcases h with rfl
  · exact ⟨T.cl_Spot, T.ty_Spot, T.nf_Spot_Spot⟩)
end
end Lw
end
section
set_option Elab.async false
set_option linter.all false
set_option maxRecDepth 100000
set_option maxHeartbeats 4000000
set_option pp.maxSteps 600
namespace Lw
open PySem PySem.Spec PyProof.Rows L2 Gh
local macro_rules | `(tactic| nofun) => `(tactic| (first | assumption | exact Ne.symm (by assumption) | (apply nw_pen'; (· assumption); (· assumption); (· ac_rfl)) | (apply Ne.symm; apply nw_pen'; (· assumption); (· assumption); (· ac_rfl)) | (apply nw_cell'; (· assumption); (· assumption); (· ac_rfl)) | (apply Ne.symm; apply nw_cell'; (· assumption); (· assumption); (· ac_rfl)) | (apply none_pen'; (· assumption); (· assumption); (· ac_rfl)) | (apply Ne.symm; apply none_pen'; (· assumption); (· assumption); (· ac_rfl)) | (apply none_cell'; (· assumption); (· assumption); (· ac_rfl)) | (apply Ne.symm; apply none_cell'; (· assumption); (· assumption); (· ac_rfl)) | (apply tup_pen'; (· assumption); (· assumption); (· ac_rfl)) | (apply Ne.symm; apply tup_pen'; (· assumption); (· assumption); (· ac_rfl)) | (apply tup_cell'; (· assumption); (· assumption); (· ac_rfl)) | (apply Ne.symm; apply tup_cell'; (· assumption); (· assumption); (· ac_rfl)) | (apply ins_pen'; (· assumption); (· assumption); (· ac_rfl)) | (apply Ne.symm; apply ins_pen'; (· assumption); (· assumption); (· ac_rfl)) | (apply ins_cell'; (· assumption); (· assumption); (· ac_rfl)) | (apply Ne.symm; apply ins_cell'; (· assumption); (· assumption); (· ac_rfl)) | (apply ins_lst; (· assumption); (· infer_instance)) | (apply Ne.symm; apply ins_lst; (· assumption); (· infer_instance)) | (apply ins_tup; (· assumption); (· infer_instance)) | (apply Ne.symm; apply ins_tup; (· assumption); (· infer_instance)) | (apply tup_lst; (· assumption); (· infer_instance)) | (apply Ne.symm; apply tup_lst; (· assumption); (· infer_instance)) | (apply nw_ne; (· assumption); (· infer_instance)) | (apply Ne.symm; apply nw_ne; (· assumption); (· infer_instance)) | (apply none_ne; (· assumption); (· infer_instance)) | (apply Ne.symm; apply none_ne; (· assumption); (· infer_instance))))
local macro_rules | `(tactic| ac_rfl) => `(tactic| ((repeat (first | assumption | (apply Pen.nw; (focus assumption)) | (apply Pen.same; (focus assumption)) | (apply Pen.mu; (focus assumption); (focus nofun); (focus nofun)) | (apply Pen.keep; (focus assumption); (focus nofun); (focus nofun)))); done))
local macro_rules | `(tactic| infer_instance) => `(tactic| ((repeat (first | assumption | (apply Nw.at_; assumption) | (apply Mu.at_; assumption) | (apply Nw.up; (focus assumption)) | (apply same_up; (focus assumption)) | (apply Mu.up; (focus assumption); (focus nofun)) | (apply keep_up; (focus assumption); (focus nofun)) | (apply keep2_up; (focus assumption); (focus nofun); (focus nofun)))); done))
local macro_rules | `(tactic| symm_saturate) => `(tactic| (repeat (first | with_reducible refine st_seq ?_ | with_reducible refine st_asg ?_ | with_reducible refine st_name ?_ | with_reducible refine st_ret ?_ | with_reducible refine st_drop ?_ | with_reducible refine st_ifS ?_ | with_reducible refine st_nx ?_ | with_reducible refine st_brk ?_ | with_reducible refine st_cnt ?_ | with_reducible refine st_c ?_ | with_reducible refine st_op ?_ | with_reducible refine st_un ?_ | with_reducible refine st_rI0 ?_ | with_reducible refine st_cons ?_ | with_reducible refine st_nil ?_ | with_reducible refine st_cl ?_ | with_reducible refine st_cb ?_ | with_reducible refine st_mt ?_ | with_reducible refine st_pr ?_ | with_reducible refine st_test ?_ | with_reducible refine st_ebl ?_ | with_reducible refine st_eint ?_ | with_reducible refine st_par ?_ | with_reducible refine st_par2 ?_ | with_reducible refine st_and ?_ | with_reducible refine st_or ?_ | with_reducible refine st_not ?_ | with_reducible refine st_andV ?_ | with_reducible refine st_orV ?_ | with_reducible refine st_notV ?_ | with_reducible refine st_ifE ?_ | with_reducible refine st_chain ?_ | with_reducible refine st_lst ?_ | with_reducible refine st_tup ?_ | with_reducible refine st_retN ?_ | with_reducible refine st_rU ?_ | with_reducible refine st_rAdd ?_ | with_reducible refine st_rSub ?_ | with_reducible refine st_isN ?_ | with_reducible refine st_notN ?_ | with_reducible refine st_sF ?_ | with_reducible refine st_int ?_ | with_reducible refine st_intB ?_ | with_reducible refine st_abs ?_ | with_reducible refine st_sl ?_ | with_reducible refine st_part ?_ | with_reducible refine st_nopart ?_ | with_reducible refine st_bm ?_ | with_reducible refine st_bm0 ?_ | with_reducible refine st_tyS ?_ | with_reducible refine st_gsub ?_ | with_reducible refine st_gcons ?_ | with_reducible refine st_gnil ?_ | with_reducible refine st_chain3 ?_ | with_reducible refine st_gsl ?_ | with_reducible refine st_clK ?_ | with_reducible refine st_mtK ?_ | with_reducible refine st_lcR1 ?_ | with_reducible refine st_lcR2 ?_ | with_reducible refine st_lcL ?_ | with_reducible refine st_lcT ?_ | with_reducible refine st_yes ?_ | with_reducible refine st_forR1 ?_ | with_reducible refine st_forR2 ?_ | with_reducible refine st_forL ?_ | with_reducible refine st_forT ?_ | with_reducible refine st_forE ?_ | with_reducible refine st_list ?_ | with_reducible refine st_itup ?_ | with_reducible refine st_tB ?_ | ((with_reducible apply st_var); exact rfl) | ((with_reducible apply st_aug); exact rfl) | ((with_reducible apply st_eq); exact rfl) | ((with_reducible apply st_ne); exact rfl) | ((with_reducible apply st_spK); (focus exact rfl); (focus exact rfl)) | ((with_reducible apply st_rI); (first | decide | (refine Or.inl ⟨?_, ?_⟩ <;> omega) | (refine Or.inr ⟨?_, ?_⟩ <;> omega) | (show (0 : Int) < _; omega) | exact ⟨by omega, log_of (by omega) (by omega)⟩ | exact ⟨by decide, by decide, by decide⟩)) | ((with_reducible apply st_powK); (focus exact ⟨by decide, by decide, by decide⟩); (focus decide)) | ((with_reducible apply st_eR1); (focus omega); (focus omega)) | ((with_reducible apply st_eR2); (focus omega)) | ((with_reducible apply st_if1); (first | with_reducible rfl | assumption | exact rfl | decide | (simp only [decide_eq_true_eq, decide_eq_false_iff_not, Bool.not_eq_true', Bool.not_eq_false', Bool.not_true, Bool.not_false, Bool.true_and, Bool.and_true, Bool.false_and, Bool.and_false, V.int.injEq, V.str.injEq, V.bl.injEq, V.ref.injEq, reduceCtorEq, not_true, not_false_eq_true, decide_true, decide_false, Int.not_lt, Int.not_le, ne_eq, List.length_cons, List.length_nil, List.length_map, List.length_append, List.length_set, List.length_take, List.length_drop] <;> omega))) | ((with_reducible apply st_if0); (first | with_reducible rfl | assumption | exact rfl | decide | (simp only [decide_eq_true_eq, decide_eq_false_iff_not, Bool.not_eq_true', Bool.not_eq_false', Bool.not_true, Bool.not_false, Bool.true_and, Bool.and_true, Bool.false_and, Bool.and_false, V.int.injEq, V.str.injEq, V.bl.injEq, V.ref.injEq, reduceCtorEq, not_true, not_false_eq_true, decide_true, decide_false, Int.not_lt, Int.not_le, ne_eq, List.length_cons, List.length_nil, List.length_map, List.length_append, List.length_set, List.length_take, List.length_drop] <;> omega))) | ((with_reducible apply st_lenL); (focus infer_instance)) | ((with_reducible apply st_lenT); (focus infer_instance)) | ((with_reducible apply st_tupT); (focus infer_instance)) | ((with_reducible apply st_tyL); (focus infer_instance)) | ((with_reducible apply st_elist); (focus infer_instance)) | ((with_reducible apply st_eitup); (focus infer_instance)) | ((with_reducible apply st_eE); (focus infer_instance)) | ((with_reducible apply st_epr); (focus infer_instance)) | ((with_reducible apply st_setO); (focus infer_instance)) | ((with_reducible apply st_ixO); (focus infer_instance)) | ((with_reducible apply st_ixLs); (focus assumption); (focus (first | exact rfl | exact atI_nat (by assumption)))) | ((with_reducible apply st_ixTs); (focus assumption); (focus (first | exact rfl | exact atI_nat (by assumption)))) | ((with_reducible apply st_fld); (focus infer_instance); (focus exact rfl)) | ((with_reducible apply st_const); (focus infer_instance); (focus exact rfl)) | ((with_reducible apply st_emt); (focus infer_instance); (focus exact rfl)) | ((with_reducible apply st_ixL); (focus infer_instance); (focus (first | exact rfl | exact atI_nat (by assumption)))) | ((with_reducible apply st_ixT); (focus infer_instance); (focus (first | exact rfl | exact atI_nat (by assumption)))) | ((with_reducible apply st_gtup); (focus infer_instance); (focus (first | exact rfl | exact atI_nat (by assumption)))))))
local macro_rules | `(tactic| subst_eqs) => `(tactic| (repeat (first | with_reducible refine st_seq ?_ | with_reducible refine st_asg ?_ | with_reducible refine st_name ?_ | with_reducible refine st_ret ?_ | with_reducible refine st_drop ?_ | with_reducible refine st_ifS ?_ | with_reducible refine st_nx ?_ | with_reducible refine st_brk ?_ | with_reducible refine st_cnt ?_ | with_reducible refine st_c ?_ | with_reducible refine st_op ?_ | with_reducible refine st_un ?_ | with_reducible refine st_rI0 ?_ | with_reducible refine st_cons ?_ | with_reducible refine st_nil ?_ | with_reducible refine st_cl ?_ | with_reducible refine st_cb ?_ | with_reducible refine st_mt ?_ | with_reducible refine st_pr ?_ | with_reducible refine st_test ?_ | with_reducible refine st_ebl ?_ | with_reducible refine st_eint ?_ | with_reducible refine st_par ?_ | with_reducible refine st_par2 ?_ | with_reducible refine st_and ?_ | with_reducible refine st_or ?_ | with_reducible refine st_not ?_ | with_reducible refine st_andV ?_ | with_reducible refine st_orV ?_ | with_reducible refine st_notV ?_ | with_reducible refine st_ifE ?_ | with_reducible refine st_chain ?_ | with_reducible refine st_lst ?_ | with_reducible refine st_tup ?_ | with_reducible refine st_retN ?_ | with_reducible refine st_rU ?_ | with_reducible refine st_rAdd ?_ | with_reducible refine st_rSub ?_ | with_reducible refine st_isN ?_ | with_reducible refine st_notN ?_ | with_reducible refine st_sF ?_ | with_reducible refine st_int ?_ | with_reducible refine st_intB ?_ | with_reducible refine st_abs ?_ | with_reducible refine st_sl ?_ | with_reducible refine st_part ?_ | with_reducible refine st_nopart ?_ | with_reducible refine st_bm ?_ | with_reducible refine st_bm0 ?_ | with_reducible refine st_tyS ?_ | with_reducible refine st_gsub ?_ | with_reducible refine st_gcons ?_ | with_reducible refine st_gnil ?_ | with_reducible refine st_chain3 ?_ | with_reducible refine st_gsl ?_ | with_reducible refine st_clK ?_ | with_reducible refine st_mtK ?_ | with_reducible refine st_lcR1 ?_ | with_reducible refine st_lcR2 ?_ | with_reducible refine st_lcL ?_ | with_reducible refine st_lcT ?_ | with_reducible refine st_yes ?_ | with_reducible refine st_forR1 ?_ | with_reducible refine st_forR2 ?_ | with_reducible refine st_forL ?_ | with_reducible refine st_forT ?_ | with_reducible refine st_forE ?_ | with_reducible refine st_list ?_ | with_reducible refine st_itup ?_ | with_reducible refine st_tB ?_ | ((with_reducible apply st_var); exact rfl) | ((with_reducible apply st_aug); exact rfl) | ((with_reducible apply st_eq); exact rfl) | ((with_reducible apply st_ne); exact rfl) | ((with_reducible apply st_spK); (focus exact rfl); (focus exact rfl)) | ((with_reducible apply st_rI); (first | decide | (refine Or.inl ⟨?_, ?_⟩ <;> omega) | (refine Or.inr ⟨?_, ?_⟩ <;> omega) | (show (0 : Int) < _; omega) | exact ⟨by omega, log_of (by omega) (by omega)⟩ | exact ⟨by decide, by decide, by decide⟩)) | ((with_reducible apply st_powK); (focus exact ⟨by decide, by decide, by decide⟩); (focus decide)) | ((with_reducible apply st_eR1); (focus omega); (focus omega)) | ((with_reducible apply st_eR2); (focus omega)) | ((with_reducible apply st_if1); (first | with_reducible rfl | assumption | exact rfl | decide | (simp only [decide_eq_true_eq, decide_eq_false_iff_not, Bool.not_eq_true', Bool.not_eq_false', Bool.not_true, Bool.not_false, Bool.true_and, Bool.and_true, Bool.false_and, Bool.and_false, V.int.injEq, V.str.injEq, V.bl.injEq, V.ref.injEq, reduceCtorEq, not_true, not_false_eq_true, decide_true, decide_false, Int.not_lt, Int.not_le, ne_eq, List.length_cons, List.length_nil, List.length_map, List.length_append, List.length_set, List.length_take, List.length_drop] <;> omega))) | ((with_reducible apply st_if0); (first | with_reducible rfl | assumption | exact rfl | decide | (simp only [decide_eq_true_eq, decide_eq_false_iff_not, Bool.not_eq_true', Bool.not_eq_false', Bool.not_true, Bool.not_false, Bool.true_and, Bool.and_true, Bool.false_and, Bool.and_false, V.int.injEq, V.str.injEq, V.bl.injEq, V.ref.injEq, reduceCtorEq, not_true, not_false_eq_true, decide_true, decide_false, Int.not_lt, Int.not_le, ne_eq, List.length_cons, List.length_nil, List.length_map, List.length_append, List.length_set, List.length_take, List.length_drop] <;> omega))) | ((with_reducible apply st_lenL); (focus infer_instance)) | ((with_reducible apply st_lenT); (focus infer_instance)) | ((with_reducible apply st_tupT); (focus infer_instance)) | ((with_reducible apply st_tyL); (focus infer_instance)) | ((with_reducible apply st_elist); (focus infer_instance)) | ((with_reducible apply st_eitup); (focus infer_instance)) | ((with_reducible apply st_eE); (focus infer_instance)) | ((with_reducible apply st_epr); (focus infer_instance)) | ((with_reducible apply st_setO); (focus infer_instance)) | ((with_reducible apply st_ixO); (focus infer_instance)) | ((with_reducible apply st_ixLs); (focus assumption); (focus (first | exact rfl | exact atI_nat (by assumption)))) | ((with_reducible apply st_ixTs); (focus assumption); (focus (first | exact rfl | exact atI_nat (by assumption)))) | ((with_reducible apply st_fld); (focus infer_instance); (focus exact rfl)) | ((with_reducible apply st_const); (focus infer_instance); (focus exact rfl)) | ((with_reducible apply st_emt); (focus infer_instance); (focus exact rfl)) | ((with_reducible apply st_ixL); (focus infer_instance); (focus (first | exact rfl | exact atI_nat (by assumption)))) | ((with_reducible apply st_ixT); (focus infer_instance); (focus (first | exact rfl | exact atI_nat (by assumption)))) | ((with_reducible apply st_gtup); (focus infer_instance); (focus (first | exact rfl | exact atI_nat (by assumption)))) | ((with_reducible apply st_newL); (focus (refine len_ok ?_; simp only [List.length_cons, List.length_nil, List.length_append, List.length_map, List.length_set, List.length_take, List.length_drop]; omega)); intro l Hn nw) | ((with_reducible apply st_newT); (focus (refine len_ok ?_; simp only [List.length_cons, List.length_nil, List.length_append, List.length_map, List.length_set, List.length_take, List.length_drop]; omega)); intro l Hn nw) | ((with_reducible apply st_listL); (focus infer_instance); intro l Hn nw) | ((with_reducible apply st_listT); (focus infer_instance); intro l Hn nw) | ((with_reducible apply st_tupL); (focus infer_instance); intro l Hn nw) | ((with_reducible apply st_slL); (focus infer_instance); intro l Hn nw) | ((with_reducible apply st_cat); (focus infer_instance); (focus infer_instance); (focus (refine len_ok ?_; simp only [List.length_cons, List.length_nil, List.length_append, List.length_map, List.length_set, List.length_take, List.length_drop]; omega)); intro l Hn nw))))
section
variable {P : Program} {w : World} {K : PySem.W.Frag} {mg : Str → Option Value} {base : Heap} {f : Addr} {fd : FuncData} {Tb : List (Addr × Str)}
abbrev N__law_pen : List Str := ["_law_script"]
theorem sc__law_pen : FnScope N__law_pen ["_law_script"] (defScope s__law_pen) := ⟨rfl, rfl, rfl, by decide +kernel, rfl, by decide +kernel, by decide +kernel⟩
theorem ok0__law_pen (F : FnA K d__law_pen fd) (T : Tx K mg) : FnOk P w K mg base CX0 1 (d__law_pen.adr K) fd ["_law_script"] (spPn K) := by
  refine fnO0 F sc__law_pen (fun vs H Q E h => by (repeat (first | (obtain ⟨rfl, _⟩ := h; rfl) | (obtain ⟨_, h⟩ := h)))) (fun cdv A outer s H vs Q E hr h => ?_)
  refine ⟨_, (pss_one (ps_ret (pe_lst (pa_cons (pe_callTy (cr_listOf (K := K) rfl) (by rfl) T.f_list (by decide +kernel) (pa_cons (pe_slice (sl_listK (K := K) rfl) (pv 0) po_none (po_some pe_int)) pa_nil)) (pa_cons pe_int (pa_cons pe_int pa_nil)))))), ?_⟩
  obtain ⟨a, ns, rfl, hS, hl, q⟩ := h
  have ec : cutV (ns.map V.int) none (some 63) = ns.map V.int := cut_all (by rw [List.length_map]; exact hl)
  symm_saturate
  refine st_slLs hS fun c H1 n1 => ?_
  rw [ec] at n1
  symm_saturate
  refine st_listL (by infer_instance) fun e H2 n2 => ?_
  symm_saturate
  refine st_newL (by (refine len_ok ?_; simp only [List.length_cons, List.length_nil, List.length_append, List.length_map, List.length_set, List.length_take, List.length_drop]; omega)) fun p H3 n3 => ?_
  refine q p e _ (n1.same.free (n2.same.free n3.no)) ⟨ns, 0, 0, by infer_instance, by infer_instance, hl, Int.le_refl _, by decide, Int.le_refl _⟩ (n1.same.trans (n2.same.trans n3.same))
abbrev N__law_draw : List Str := ["_law_pen_here", "_law_many", "_law_at", "_law_cell", "_law_mixed", "_law_digit", "_law_great"]
theorem sc__law_draw : FnScope N__law_draw ["_law_pen_here", "_law_many"] (defScope s__law_draw) := ⟨rfl, rfl, rfl, by decide +kernel, rfl, by decide +kernel, by decide +kernel⟩
theorem ok0__law_draw (F : FnA K d__law_draw fd) (T : Tx K mg) : FnOk P w K mg base CX0 1 (d__law_draw.adr K) fd ["_law_pen_here", "_law_many"] spDr := by
  refine fnO0 F sc__law_draw (fun vs H Q E h => by (repeat (first | (obtain ⟨rfl, _⟩ := h; rfl) | (obtain ⟨_, h⟩ := h)))) (fun cdv A outer s H vs Q E hr h => ?_)
  refine ⟨_, (pss_cons (ps_if (pt_cmpR op_gt (pe_ix (ix_listK (K := K) rfl) (pv 0) pe_int (fun _ _ => rfl)) pe_int (nomark _))
      (pss_cons (ps_set (i := 5) sc__law_draw.nd rfl (.inl rfl) (pe_op op_mod (pe_callTy cr_int (by rfl) T.f_int (by decide +kernel) (pa_cons (pe_ix (ix_listK (K := K) rfl) (pv 0) pe_int (fun _ _ => rfl)) pa_nil)) (pv 1)))
      (pss_cons (ps_asg (pe_op op_fdivW (pe_callTy cr_int (by rfl) T.f_int (by decide +kernel) (pa_cons (pe_ix (ix_listK (K := K) rfl) (pv 0) pe_int (fun _ _ => rfl)) pa_nil)) (pv 1)) (pg_sub (pv 0) pe_int set_list))
      (pss_one (ps_ret (pv 5))))) pss_nil)
      (pss_cons (ps_set (i := 2) sc__law_draw.nd rfl (.inl rfl) (pe_ix (ix_listK (K := K) rfl) (pv 0) pe_int (fun _ _ => rfl)))
      (pss_cons (ps_asg (pe_op op_add (pv 2) pe_int) (pg_sub (pv 0) pe_int set_list))
      (pss_cons (ps_set (i := 3) sc__law_draw.nd rfl (.inl rfl) (pe_op op_add (pe_op op_mul pe_int (pv 2)) pe_int))
      (pss_cut (ps_if (pt_cmpR (op_neDK (K := K) rfl hr.units) (pe_ix (ix_listK (K := K) rfl) (pv 0) pe_int (fun _ _ => rfl)) (pe_lst pa_nil) (nomark _))
      (pss_one (ps_set (i := 3) sc__law_draw.nd rfl (.inl rfl) (pe_ix (ix_listK (K := K) rfl) (pe_ix (ix_listK (K := K) rfl) (pv 0) pe_int (fun _ _ => rfl)) (pe_op op_mod (pe_callTy cr_int (by rfl) T.f_int (by decide +kernel) (pa_cons (pv 2) pa_nil)) (pe_callB (cr_len (K := K) rfl) (by rfl) T.f_len (by decide +kernel) (pa_cons (pe_ix (ix_listK (K := K) rfl) (pv 0) pe_int (fun _ _ => rfl)) pa_nil))) (fun _ _ => rfl)))) pss_nil)
      (pss_cut (ps_if (PW.pt (pw_and (pt_cmpR op_lt (pv 2) (pe_callB (cr_len (K := K) rfl) (by rfl) T.f_len (by decide +kernel) (pa_cons (pe_ix (ix_listK (K := K) rfl) (pv 0) pe_int (fun _ _ => rfl)) pa_nil)) (nomark _)) (pw_and1 (pt_cmpR op_ge (pe_callB cr_abs (by rfl) T.f_abs (by decide +kernel) (pa_cons (pv 3) pa_nil)) (pe_op (op_powK 1000000000000000000) pe_int pe_int) (nomark _)))))
      (pss_cons (ps_set (i := 6) sc__law_draw.nd rfl (.inl rfl) (pe_op op_add (pe_op op_mul pe_int (pe_op op_sub (pe_callB cr_abs (by rfl) T.f_abs (by decide +kernel) (pa_cons (pv 3) pa_nil)) (pe_op (op_powK 1000000000000000000) pe_int pe_int))) (pe_callTy cr_int (by rfl) T.f_int (by decide +kernel) (pa_cons (pe_cmpR op_lt (pv 3) pe_int (nomark _)) pa_nil))))
      (pss_cons (ps_asg (pe_op op_fdivW (pe_callTy cr_int (by rfl) T.f_int (by decide +kernel) (pa_cons (pv 6) pa_nil)) (pv 1)) (pg_sub (pv 0) pe_int set_list))
      (pss_one (ps_ret (pe_op op_mod (pe_callTy cr_int (by rfl) T.f_int (by decide +kernel) (pa_cons (pv 6) pa_nil)) (pv 1)))))) pss_nil)
      (pss_cons (ps_set (i := 4) sc__law_draw.nd rfl (.inl rfl) (pe_op op_mod (pe_callTy cr_int (by rfl) T.f_int (by decide +kernel) (pa_cons (pe_op op_pow (pe_op op_add (pe_op op_add (pe_op op_mod (pe_callTy cr_int (by rfl) T.f_int (by decide +kernel) (pa_cons (pv 3) pa_nil)) pe_int) (pe_op op_mul pe_int (pv 2))) pe_int) pe_int) pa_nil)) pe_int))
      (pss_cons (ps_set (i := 4) sc__law_draw.nd rfl (.inl rfl) (pe_op op_mod (pe_callTy cr_int (by rfl) T.f_int (by decide +kernel) (pa_cons (pe_op op_pow (pe_op op_add (pe_op op_add (pe_op op_mul (pv 4) (pe_op op_add (pe_op op_mul pe_int (pv 2)) pe_int)) (pe_op op_mul (pe_op op_mul pe_int (pv 2)) (pv 2))) pe_int) pe_int) pa_nil)) pe_int))
      (pss_one (ps_ret (pe_op op_mod (pe_callTy cr_int (by rfl) T.f_int (by decide +kernel) (pa_cons (pe_op op_fdivW (pv 4) pe_int) pa_nil)) (pv 1)))))))))))), ?_⟩
  obtain ⟨p, c, b, m, rfl, hm, hlog, ⟨ns, i, z, hp, hc, hl, hi, hb, hz⟩, q⟩ := h
  have ncp : c ≠ p := pen_ne hp hc
  have mm := fun x : Int => mod_lt x hm
  have hdiv : ∀ x, CDivW x m := fun _ => ⟨hm, hlog⟩
  symm_saturate
  refine ite2 (fun h1 => ?_) (fun h1 => ?_)
  · symm_saturate
    refine st_rI (hdiv _) ?_
    symm_saturate
    refine st_setL hp rfl fun H1 n1 => ?_
    symm_saturate
    exact q _ _ (mm z).1 (mm z).2 ⟨ns, i, z / m, by infer_instance, by infer_instance, hl, hi, by omega, Int.ediv_nonneg hz (by omega)⟩ n1.keep
  · have z0 : z = 0 := by
      have : ¬ (z > 0) := by simpa using h1
      omega
    subst z0
    symm_saturate
    refine st_setL hp rfl fun H2 n2 => ?_
    have hp2 : H2 p = some (.lst [.ref c, .int (i + 1), .int 0]) := n2.at_
    have hc2 : H2 c = some (.lst (ns.map V.int)) := by infer_instance
    have k2 := n2.keep
    clear n2
    symm_saturate
    refine ⟨fun σ' H' => ∃ cell : Int, σ' = [some (.ref p), some (.int m), some (.int i), some (.int cell), none, none, none] ∧ H' p = some (.lst [.ref c, .int (i + 1), .int 0]) ∧ H' c = some (.lst (ns.map V.int)) ∧ Keep H H' p, ?_, ?_⟩
    · -- if the cells are not empty
      symm_saturate
      refine st_newL (by (refine len_ok ?_; simp only [List.length_cons, List.length_nil, List.length_append, List.length_map, List.length_set, List.length_take, List.length_drop]; omega)) fun e H3 n3 => ?_
      have hp3 : H3 p = some (.lst [.ref c, .int (i + 1), .int 0]) := by infer_instance
      have hc3 : H3 c = some (.lst (ns.map V.int)) := by infer_instance
      have k3 : Keep H H3 p := fun a o h1 h2 => n3.up (k2 _ _ h1 h2)
      refine st_neD (.lst (SqL.of hc3) (dp_ints K _ ns)) (.lst (SqL.of n3.at_) .nil) (PySem.W.ke_shaped_ints ns) (by decide +kernel) ?_
      clear n3
      symm_saturate
      refine ite2 (fun h2 => ?_) (fun h2 => ?_)
      · have hne : 0 < ns.length := by
          rw [eqv_nil] at h2
          cases ns with
          | nil => cases h2
          | cons a r => exact Nat.succ_pos _
        have hlen : (0 : Int) < ((ns.map V.int).length : Int) := by rw [List.length_map]; omega
        have mi := mod_lt i hlen
        obtain ⟨v, ev, _⟩ := atI_int (ns := ns) (i := i % ((ns.map V.int).length : Int)) mi.1 (by have := mi.2; rw [List.length_map] at this ⊢; exact this)
        symm_saturate
        refine st_ixL hc3 ev ?_
        symm_saturate
        exact ⟨v, rfl, hp3, hc3, k3⟩
      · symm_saturate
        exact ⟨_, rfl, hp3, hc3, k3⟩
    · rintro σ' H' ⟨cell, rfl, hp3, hc3, k3⟩
      -- a great cell?
      refine ⟨fun σ1 H1 => σ1 = [some (.ref p), some (.int m), some (.int i), some (.int cell), none, none, none] ∧ H1 = H', ?_, ?_⟩
      · symm_saturate
        refine ite2 (fun _ => ?_) (fun _ => ?_)
        · symm_saturate
          refine ite2 (fun h3 => ?_) (fun _ => ?_)
          · have hab : 1000000000000000000 ≤ (if cell < 0 then -cell else cell) := by simpa using h3
            symm_saturate
            have hgr : 0 ≤ 2 * ((if cell < 0 then -cell else cell) - 1000000000000000000) + (if decide (cell < 0) = true then 1 else 0) := by
              have : (0 : Int) ≤ (if decide (cell < 0) = true then 1 else 0) := by split <;> decide
              omega
            refine st_rI (hdiv _) ?_
            symm_saturate
            refine st_setL hp3 rfl fun H4 n4 => ?_
            symm_saturate
            refine q _ _ (mm _).1 (mm _).2 ⟨ns, i + 1, _, n4.at_, by infer_instance, hl, by omega, by omega, Int.ediv_nonneg hgr (by omega)⟩ (k3.trans n4.keep)
          · symm_saturate
            exact ⟨rfl, rfl⟩
        · symm_saturate
          exact ⟨rfl, rfl⟩
      · rintro σ1 H1 ⟨rfl, rfl⟩
        have hi2 : i ≤ 1000000 := by omega
        -- the first mix
        symm_saturate
        refine st_rI ⟨by decide, by decide, ?_⟩ ?_
        · refine pow_lt ?_ ?_ <;> omega
        have hx := mod_lt ((cell % 2147483549 + 54255 * i + 211) ^ (5 : Int).toNat) (show (0 : Int) < 2147483629 by decide)
        -- the second one
        symm_saturate
        refine st_rI ⟨by decide, by decide, ?_⟩ ?_
        · exact mix_ok hx.1 (Int.lt_trans hx.2 (by decide)) hi hi2 ⟨by decide, by decide⟩ ⟨by decide, by decide⟩ ⟨by decide, by decide⟩
        symm_saturate
        exact q _ _ (mm _).1 (mm _).2 ⟨ns, i + 1, 0, hp3, hc3, hl, by omega, by omega, Int.le_refl _⟩ k3
theorem ok__law_pen (F : FnA K d__law_pen fd) (T : Tx K mg) : FnOk P w K mg base CX0 1 (d__law_pen.adr K) fd ["_law_script"] (spPn K) := ok0__law_pen F T
theorem ok__law_draw (F : FnA K d__law_draw fd) (T : Tx K mg) : FnOk P w K mg base CX0 1 (d__law_draw.adr K) fd ["_law_pen_here", "_law_many"] (Gp.spF K Tb (Gp.ul2 Gp.F_draw)) := Gp.fnOk_weak (ok0__law_draw F T) fun _ _ _ _ => Gp.draw_of
end
end Lw
end
section
set_option Elab.async false
set_option linter.all false
set_option maxRecDepth 100000
set_option maxHeartbeats 4000000
set_option pp.maxSteps 600
namespace Lw
open PySem PySem.Spec PyProof.Rows L2 Gh Gp Gz
section
variable {P : Program} {w : World} {K : PySem.W.Frag} {mg : Str → Option Value} {base : Heap} {f : Addr} {fd : FuncData} {Tb : List (Addr × Str)}
abbrev N_BadSpot___init__ : List Str := ["self", "part"]
theorem sc_BadSpot___init__ : FnScope N_BadSpot___init__ ["self", "part"] (defScope s_BadSpot___init__) := ⟨rfl, rfl, rfl, by decide +kernel, rfl, by decide +kernel, by decide +kernel⟩
theorem ok_BadSpot___init__ (F : FnA K d_BadSpot___init__ fd) (T : Tx K mg) : FnOk P w K mg base CX0 1 (d_BadSpot___init__.adr K) fd ["self", "part"] (spErr1 (gd "BadSpot" K) "part") := by
  refine fnO0 F sc_BadSpot___init__ (fun vs H Q E h => ?_) (fun cdv A outer s H vs Q E hr h => ?_)
  · obtain ⟨a, v, rfl, _⟩ := h
    rfl
  · obtain ⟨a, v, rfl, ha, q⟩ := h
    refine ⟨_, pss_one (ps_ost (pv 0) (pv 1)), ?_⟩
    exact ⟨_, rfl, _, rfl, a, _, rfl, T.ox_BadSpot, T.n_BadSpot_part, .inl ⟨ha, q⟩⟩
abbrev N_BadLength___init__ : List Str := ["self", "value"]
theorem sc_BadLength___init__ : FnScope N_BadLength___init__ ["self", "value"] (defScope s_BadLength___init__) := ⟨rfl, rfl, rfl, by decide +kernel, rfl, by decide +kernel, by decide +kernel⟩
theorem ok_BadLength___init__ (F : FnA K d_BadLength___init__ fd) (T : Tx K mg) : FnOk P w K mg base CX0 1 (d_BadLength___init__.adr K) fd ["self", "value"] (spErr1 (gd "BadLength" K) "value") := by
  refine fnO0 F sc_BadLength___init__ (fun vs H Q E h => ?_) (fun cdv A outer s H vs Q E hr h => ?_)
  · obtain ⟨a, v, rfl, _⟩ := h
    rfl
  · obtain ⟨a, v, rfl, ha, q⟩ := h
    refine ⟨_, pss_one (ps_ost (pv 0) (pv 1)), ?_⟩
    exact ⟨_, rfl, _, rfl, a, _, rfl, T.ox_BadLength, T.n_BadLength_value, .inl ⟨ha, q⟩⟩
abbrev N_BadRest___init__ : List Str := ["self", "value"]
theorem sc_BadRest___init__ : FnScope N_BadRest___init__ ["self", "value"] (defScope s_BadRest___init__) := ⟨rfl, rfl, rfl, by decide +kernel, rfl, by decide +kernel, by decide +kernel⟩
theorem ok_BadRest___init__ (F : FnA K d_BadRest___init__ fd) (T : Tx K mg) : FnOk P w K mg base CX0 1 (d_BadRest___init__.adr K) fd ["self", "value"] (spErr1 (gd "BadRest" K) "value") := by
  refine fnO0 F sc_BadRest___init__ (fun vs H Q E h => ?_) (fun cdv A outer s H vs Q E hr h => ?_)
  · obtain ⟨a, v, rfl, _⟩ := h
    rfl
  · obtain ⟨a, v, rfl, ha, q⟩ := h
    refine ⟨_, pss_one (ps_ost (pv 0) (pv 1)), ?_⟩
    exact ⟨_, rfl, _, rfl, a, _, rfl, T.ox_BadRest, T.n_BadRest_value, .inl ⟨ha, q⟩⟩
abbrev N_is_integer : List Str := ["value"]
theorem sc_is_integer : FnScope N_is_integer ["value"] (defScope s_is_integer) := ⟨rfl, rfl, rfl, by decide +kernel, rfl, by decide +kernel, by decide +kernel⟩
def F_is_integer (value : D) : Tr D :=
  fin (bd (bd (bd (bd (.ok value) fun d => bd (opt (isi_int d)) fun k => .ok (.bl k)) asB) fun k => if k = true then (bd (bd (bd (.ok value) fun d => bd (opt (isi_bool d)) fun k => .ok (.bl k)) asB) fun k => .ok (.bl (!k))) else .ok (.bl false)) fun d => .ok (.rt d))
theorem ok_is_integer (F : FnA K d_is_integer fd) (T : Tx K mg)  : FnOk P w K mg base CX0 1 (d_is_integer.adr K) fd ["value"] (spF K Tb (ul1 F_is_integer)) := by
  refine fnO0 F sc_is_integer (fun vs H Q E h => spF_len len1 h) (fun cdv A outer s H vs Q E hr h => ?_)
  refine ⟨_, (pss_cons (ps_ret (pe_and (pe_callB (call_isiZ (K := K) rfl) (by rfl) T.f_isinstance (by decide +kernel) (pa_cons (pv 0) (pa_cons (pe_bltn (v := .ty "int") (by rfl) T.f_int (by decide +kernel) rfl) pa_nil))) (pe_one (pe_not (pe_callB (call_isiZ (K := K) rfl) (by rfl) T.f_isinstance (by decide +kernel) (pa_cons (pv 0) (pa_cons (pe_bltn (v := .ty "bool") (by rfl) T.f_bool (by decide +kernel) rfl) pa_nil))))))) pss_nil), ?_⟩
  exact fn_of1 (F := F_is_integer) (envU := fun _ => List.replicate 1 .no) h (fun value => rfl) (fun p c value => (ss_ret (se_andV (se_isi (.ty _) (isT_int T) se_var) (se_notV (se_isi (.ty _) (isT_bool T) se_var)))))
abbrev N_is_within : List Str := ["value", "least", "most"]
theorem sc_is_within : FnScope N_is_within ["value", "least", "most"] (defScope s_is_within) := ⟨rfl, rfl, rfl, by decide +kernel, rfl, by decide +kernel, by decide +kernel⟩
def F_is_within (value least most : D) : Tr D :=
  fin (bd (bd (bd (bd (bd (.ok value) fun v1 => (bd (.ok []) fun r2 => .ok (v1 :: r2))) (ul1 F_is_integer)) asB) fun k => if k = true then (bd (.ok least) fun v3 => (bd (.ok value) fun v4 => (bd (bd (leD v3 v4) asB) fun k => if k = true then (bd (.ok most) fun v5 => leD v4 v5) else .ok (.bl false)))) else .ok (.bl false)) fun d => .ok (.rt d))
theorem ok_is_within (F : FnA K d_is_within fd) (T : Tx K mg) (G_is_integer : PromO P w K mg base CX0 1 (gd "is_integer" K) [] (spF K Tb (ul1 F_is_integer))) : FnOk P w K mg base CX0 2 (d_is_within.adr K) fd ["value", "least", "most"] (spF K Tb (ul3 F_is_within)) := by
  refine fnO0 F sc_is_within (fun vs H Q E h => spF_len len3 h) (fun cdv A outer s H vs Q E hr h => ?_)
  refine ⟨_, (pss_cons (ps_ret (pe_and (pe_g (PromO.call G_is_integer (hr.mono (by decide)) (passA (E := E))) (by rfl) T.g_is_integer T.k_is_integer (pa_cons (pv 0) pa_nil)) (pe_one (pe_chain op_le op_le (pv 1) (pv 0) (pv 2))))) pss_nil), ?_⟩
  exact fn_of3 (F := F_is_within) (envU := fun _ => List.replicate 3 .no) h (fun value least most => rfl) (fun p c value least most => (ss_ret (se_andV (se_cl srl_sp0 (sa_cons se_var sa_nil)) (se_chain sr_le sr_le se_var se_var se_var))))
abbrev N_is_length : List Str := ["value"]
theorem sc_is_length : FnScope N_is_length ["value"] (defScope s_is_length) := ⟨rfl, rfl, rfl, by decide +kernel, rfl, by decide +kernel, by decide +kernel⟩
def F_is_length (value : D) : Tr D :=
  fin (bd (bd (bd (.ok value) fun v5 => (bd (bd (.ok (.int 1)) fun v3 => (bd (bd (.ok (.int 10000000000000000000000000000000000000000)) fun v1 => (bd (.ok []) fun r2 => .ok (v1 :: r2))) fun r4 => .ok (v3 :: r4))) fun r6 => .ok (v5 :: r6))) (ul3 F_is_within)) fun d => .ok (.rt d))
theorem ok_is_length (F : FnA K d_is_length fd) (T : Tx K mg) (G_is_within : PromO P w K mg base CX0 2 (gd "is_within" K) [] (spF K Tb (ul3 F_is_within))) : FnOk P w K mg base CX0 3 (d_is_length.adr K) fd ["value"] (spF K Tb (ul1 F_is_length)) := by
  refine fnO0 F sc_is_length (fun vs H Q E h => spF_len len1 h) (fun cdv A outer s H vs Q E hr h => ?_)
  refine ⟨_, (pss_cons (ps_ret (pe_g (PromO.call G_is_within (hr.mono (by decide)) (passA (E := E))) (by rfl) T.g_is_within T.k_is_within (pa_cons (pv 0) (pa_cons pe_int (pa_cons (pe_gi T.m_GREATEST_LENGTH (by rfl)) pa_nil))))) pss_nil), ?_⟩
  exact fn_of1 (F := F_is_length) (envU := fun _ => List.replicate 1 .no) h (fun value => rfl) (fun p c value => (ss_ret (se_cl srl_sp0 (sa_cons se_var (sa_cons se_int (sa_cons se_int sa_nil))))))
abbrev N_is_rest : List Str := ["value"]
theorem sc_is_rest : FnScope N_is_rest ["value"] (defScope s_is_rest) := ⟨rfl, rfl, rfl, by decide +kernel, rfl, by decide +kernel, by decide +kernel⟩
def F_is_rest (value : D) : Tr D :=
  fin (bd (bd (bd (.ok value) fun v5 => (bd (bd (.ok (.int 0)) fun v3 => (bd (bd (.ok (.int 3)) fun v1 => (bd (.ok []) fun r2 => .ok (v1 :: r2))) fun r4 => .ok (v3 :: r4))) fun r6 => .ok (v5 :: r6))) (ul3 F_is_within)) fun d => .ok (.rt d))
theorem ok_is_rest (F : FnA K d_is_rest fd) (T : Tx K mg) (G_is_within : PromO P w K mg base CX0 2 (gd "is_within" K) [] (spF K Tb (ul3 F_is_within))) : FnOk P w K mg base CX0 3 (d_is_rest.adr K) fd ["value"] (spF K Tb (ul1 F_is_rest)) := by
  refine fnO0 F sc_is_rest (fun vs H Q E h => spF_len len1 h) (fun cdv A outer s H vs Q E hr h => ?_)
  refine ⟨_, (pss_cons (ps_ret (pe_g (PromO.call G_is_within (hr.mono (by decide)) (passA (E := E))) (by rfl) T.g_is_within T.k_is_within (pa_cons (pv 0) (pa_cons pe_int (pa_cons pe_int pa_nil))))) pss_nil), ?_⟩
  exact fn_of1 (F := F_is_rest) (envU := fun _ => List.replicate 1 .no) h (fun value => rfl) (fun p c value => (ss_ret (se_cl srl_sp0 (sa_cons se_var (sa_cons se_int (sa_cons se_int sa_nil))))))
abbrev N_need_length : List Str := ["value"]
theorem sc_need_length : FnScope N_need_length ["value"] (defScope s_need_length) := ⟨rfl, rfl, rfl, by decide +kernel, rfl, by decide +kernel, by decide +kernel⟩
def F_need_length (value : D) : Tr D :=
  fin (bdF (W' := Unit) (bd (bd (bd (bd (bd (.ok value) fun v1 => (bd (.ok []) fun r2 => .ok (v1 :: r2))) (ul1 F_is_length)) asB) fun k => .ok (!k)) fun k => if k = true then (bd (.ok value) fun d => .ex "BadLength" [("value", d)]) else (.ok (.nx ()))) fun (w3 : Unit) => (.ok (.nx ())))
theorem ok_need_length (F : FnA K d_need_length fd) (T : Tx K mg) (G_is_length : PromO P w K mg base CX0 3 (gd "is_length" K) [] (spF K Tb (ul1 F_is_length))) (G_BadLength___init__ : PromO P w K mg base CX0 1 (md "BadLength" "__init__" K) [] (spErr1 (gd "BadLength" K) "value")) : FnOk P w K mg base (L2.CX P w) 4 (d_need_length.adr K) fd ["value"] (spF K Tb (ul1 F_need_length)) := by
  refine F.ok sc_need_length (fun vs H Q E h => spF_len len1 h) (fun cdv A outer s H vs Q E hr h => ?_)
  refine ⟨_, (pss_cons (ps_if (pt_not (pt_val (pe_g (PromO.call G_is_length (hr.mono (by decide)) (passA (E := E))) (by rfl) T.g_is_length T.k_is_length (pa_cons (pv 0) pa_nil))))
      (pss_cons (ps_raise rfl (takes_of rfl rfl rfl rfl) (pmk_po T.ox_BadLength T.in_BadLength.iC T.in_BadLength.tI G_BadLength___init__ (hr.mono (by decide)) pass0 T.g_BadLength (pa_cons (pv 0) pa_nil))) pss_nil) pss_nil)
      pss_nil), ?_⟩
  exact fn_of1 (F := F_need_length) (envU := fun _ => List.replicate 1 .no) h (fun value => rfl) (fun p c value => (ss_if (fun (w3 : Unit) => [.fz value]) (sb_not (sb_tb (se_cl srl_sp0 (sa_cons se_var sa_nil)))) (ss_raise1 se_var) (ss_nx (.s .nil)) (fun (w3 : Unit) => (ss_nx (le_no _ rfl)))))
abbrev N_need_rest : List Str := ["value"]
theorem sc_need_rest : FnScope N_need_rest ["value"] (defScope s_need_rest) := ⟨rfl, rfl, rfl, by decide +kernel, rfl, by decide +kernel, by decide +kernel⟩
def F_need_rest (value : D) : Tr D :=
  fin (bdF (W' := Unit) (bd (bd (bd (bd (bd (.ok value) fun v1 => (bd (.ok []) fun r2 => .ok (v1 :: r2))) (ul1 F_is_rest)) asB) fun k => .ok (!k)) fun k => if k = true then (bd (.ok value) fun d => .ex "BadRest" [("value", d)]) else (.ok (.nx ()))) fun (w3 : Unit) => (.ok (.nx ())))
theorem ok_need_rest (F : FnA K d_need_rest fd) (T : Tx K mg) (G_is_rest : PromO P w K mg base CX0 3 (gd "is_rest" K) [] (spF K Tb (ul1 F_is_rest))) (G_BadRest___init__ : PromO P w K mg base CX0 1 (md "BadRest" "__init__" K) [] (spErr1 (gd "BadRest" K) "value")) : FnOk P w K mg base (L2.CX P w) 4 (d_need_rest.adr K) fd ["value"] (spF K Tb (ul1 F_need_rest)) := by
  refine F.ok sc_need_rest (fun vs H Q E h => spF_len len1 h) (fun cdv A outer s H vs Q E hr h => ?_)
  refine ⟨_, (pss_cons (ps_if (pt_not (pt_val (pe_g (PromO.call G_is_rest (hr.mono (by decide)) (passA (E := E))) (by rfl) T.g_is_rest T.k_is_rest (pa_cons (pv 0) pa_nil))))
      (pss_cons (ps_raise rfl (takes_of rfl rfl rfl rfl) (pmk_po T.ox_BadRest T.in_BadRest.iC T.in_BadRest.tI G_BadRest___init__ (hr.mono (by decide)) pass0 T.g_BadRest (pa_cons (pv 0) pa_nil))) pss_nil) pss_nil)
      pss_nil), ?_⟩
  exact fn_of1 (F := F_need_rest) (envU := fun _ => List.replicate 1 .no) h (fun value => rfl) (fun p c value => (ss_if (fun (w3 : Unit) => [.fz value]) (sb_not (sb_tb (se_cl srl_sp0 (sa_cons se_var sa_nil)))) (ss_raise1 se_var) (ss_nx (.s .nil)) (fun (w3 : Unit) => (ss_nx (le_no _ rfl)))))
abbrev N_Spot___init__ : List Str := ["self", "kind", "number"]
theorem sc_Spot___init__ : FnScope N_Spot___init__ ["self", "kind", "number"] (defScope s_Spot___init__) := ⟨rfl, rfl, rfl, by decide +kernel, rfl, by decide +kernel, by decide +kernel⟩
def F_Spot___init__ (fs : Fs) (kind number : D) : Tr Fs :=
  finI (bdF (W' := Unit) (bd (bd (bd (bd (bd (.ok kind) fun d => bd (opt (isi_str d)) fun k => .ok (.bl k)) asB) fun k => .ok (!k)) fun k => if k = true then .ok true else (bd (bd (.ok kind) fun v1 => (bd (.ok (.tup [.str "front", .str "middle", .str "back"])) fun v2 => notinD v1 v2)) asB)) fun k => if k = true then (bd (.ok (.str "kind")) fun d => .ex "BadSpot" [("part", d)]) else (.ok (.nx ()))) fun (w3 : Unit) => (bdF (W' := Unit) (bd (bd (bd (bd (bd (.ok number) fun v12 => (bd (bd (bd (bd (bd (.ok kind) fun v6 => (bd (.ok (.str "middle")) fun v7 => eqD v6 v7)) asB) fun k => if k = true then (bd (.ok (.int 400)) negD) else (.ok (.int 0))) fun v10 => (bd (bd (.ok (.int 400)) fun v8 => (bd (.ok []) fun r9 => .ok (v8 :: r9))) fun r11 => .ok (v10 :: r11))) fun r13 => .ok (v12 :: r13))) (ul3 F_is_within)) asB) fun k => .ok (!k)) fun k => if k = true then (bd (.ok (.str "number")) fun d => .ex "BadSpot" [("part", d)]) else (.ok (.nx ()))) fun (w14 : Unit) => (bd (.ok kind) fun own_kind17 => if fs.length < 900 then (bd (.ok number) fun number18 => if (putD "own_kind" own_kind17 fs).length < 900 then (bd (bd (bd (bd (.ok kind) (kdD [("front", 0), ("middle", 1), ("back", 2)])) fun v23 => (bd (bd (bd (bd (bd (.ok kind) fun v19 => (bd (.ok (.str "back")) fun v20 => eqD v19 v20)) asB) fun k => if k = true then (bd (.ok number) negD) else (.ok number)) fun v21 => (bd (.ok []) fun r22 => .ok (v21 :: r22))) fun r24 => .ok (v23 :: r24))) fun ds => if ds.length ≤ sizeLine then .ok (.tup ds) else .bad) fun own_rank25 => if (putD "number" number18 (putD "own_kind" own_kind17 fs)).length < 900 then (.ok (.nx (putD "own_rank" own_rank25 (putD "number" number18 (putD "own_kind" own_kind17 fs))))) else .bad) else .bad) else .bad)))
theorem ok_Spot___init__ (F : FnA K d_Spot___init__ fd) (T : Tx K mg) (G_BadSpot___init__ : PromO P w K mg base CX0 1 (md "BadSpot" "__init__" K) [] (spErr1 (gd "BadSpot" K) "part")) (G_is_within : PromO P w K mg base CX0 2 (gd "is_within" K) [] (spF K Tb (ul3 F_is_within))) (KD_RANKS : KdT K w (gd "RANKS" K) [("front", 0), ("middle", 1), ("back", 2)]) : FnOk P w K mg base (L2.CX P w) 3 (d_Spot___init__.adr K) fd ["self", "kind", "number"] (spI K Tb "Spot" (fun fs => ul2 (F_Spot___init__ fs))) := by
  refine F.ok sc_Spot___init__ (fun vs H Q E h => spI_len lenI2 h) (fun cdv A outer s H vs Q E hr h => ?_)
  refine ⟨_, (pss_cons (ps_if (PW.pt (pw_or (pt_not (pt_val (pe_callB (call_isiZ (K := K) rfl) (by rfl) T.f_isinstance (by decide +kernel) (pa_cons (pv 1) (pa_cons (pe_bltn (v := .ty "str") (by rfl) T.f_str (by decide +kernel) rfl) pa_nil))))) (pw_or1 (pt_cmpR (op_notinA (K := K) rfl) (pv 1) (pe_glob (v := .ref (gd "KINDS" K)) rfl T.g_KINDS rfl) (by rfl)))))
      (pss_cons (ps_raise rfl (takes_of rfl rfl rfl rfl) (pmk_po T.ox_BadSpot T.in_BadSpot.iC T.in_BadSpot.tI G_BadSpot___init__ (hr.mono (by decide)) pass0 T.g_BadSpot (pa_cons pe_str pa_nil))) pss_nil) pss_nil)
      (pss_cons (ps_if (pt_not (pt_val (pe_g (PromO.call G_is_within (hr.mono (by decide)) (passA (E := E))) (by rfl) T.g_is_within T.k_is_within (pa_cons (pv 2) (pa_cons (pe_ifExp (pt_cmpR (op_eqA (K := K) rfl hr.units) (pv 1) pe_str (nomark _)) (pe_un un_neg (pe_gi T.m_MOST_NUMBER (by rfl))) pe_int) (pa_cons (pe_gi T.m_MOST_NUMBER (by rfl)) pa_nil))))))
      (pss_cons (ps_raise rfl (takes_of rfl rfl rfl rfl) (pmk_po T.ox_BadSpot T.in_BadSpot.iC T.in_BadSpot.tI G_BadSpot___init__ (hr.mono (by decide)) pass0 T.g_BadSpot (pa_cons pe_str pa_nil))) pss_nil) pss_nil)
      (pss_cons (ps_f (pv 0) (pv 1) T.cl_Spot T.n_Spot_own_kind)
      (pss_cons (ps_f (pv 0) (pv 2) T.cl_Spot T.n_Spot_number)
      (pss_cons (ps_f (pv 0) (pe_tup (pa_cons (pe_kdget (K := K) (w := w) rfl rfl (pe_glob (v := .ref (gd "RANKS" K)) rfl T.g_RANKS rfl) (pv 1) (fun _ _ => rfl)) (pa_cons (pe_ifExp (pt_cmpR (op_eqA (K := K) rfl hr.units) (pv 1) pe_str (nomark _)) (pe_un un_neg (pv 2)) (pv 2)) pa_nil))) T.cl_Spot T.n_Spot_own_rank)
      pss_nil))))), ?_⟩
  exact ini_of2 (F := F_Spot___init__) (envI := fun fs => .oi "Spot" fs :: List.replicate 2 .no) h (fun fs kind number => rfl) (fun p c fs kind number => (ss_if (fun (w3 : Unit) => [.oi "Spot" fs, .fz kind, .fz number]) (sb_or (sb_not (sb_tb (se_isi (.ty _) (isT_str T) se_var))) (sb_tst (se_op sr_notin se_var (se_c fun _ _ => .tupW (vs := [.str "front", .str "middle", .str "back"]) T.tu_KINDS (by decide) (.cons (.str _ (by decide)) (.cons (.str _ (by decide)) (.cons (.str _ (by decide)) .nil))))))) (ss_raise1 (se_str (by decide))) (ss_nx (.s (.s (.s .nil)))) (fun (w3 : Unit) => (ss_if (fun (w14 : Unit) => [.oi "Spot" fs, .fz kind, .fz number]) (sb_not (sb_tb (se_cl srl_sp0 (sa_cons se_var (sa_cons (se_if (sb_tst (se_op sr_eq se_var (se_str (by decide)))) (se_un sr_neg se_int) se_int) (sa_cons se_int sa_nil)))))) (ss_raise1 (se_str (by decide))) (ss_nx (.s (.s (.s .nil)))) (fun (w14 : Unit) => (ss_setf se_var (fun own_kind17 => (ss_setf se_var (fun number18 => (ss_setf (se_tup (sa_cons (se_kdget KD_RANKS se_var) (sa_cons (se_if (sb_tst (se_op sr_eq se_var (se_str (by decide)))) (se_un sr_neg se_var) se_var) sa_nil))) (fun own_rank25 => (ss_nx (.s (le_no _ rfl))))))))))))))
abbrev N_Spot_near_front : List Str := ["i"]
theorem sc_Spot_near_front : FnScope N_Spot_near_front ["i"] (defScope s_Spot_near_front) := ⟨rfl, rfl, rfl, by decide +kernel, rfl, by decide +kernel, by decide +kernel⟩
def F_Spot_near_front (i : D) : Tr D :=
  fin (bd (bd (bd (.ok (.str "front")) fun v3 => (bd (bd (.ok i) fun v1 => (bd (.ok []) fun r2 => .ok (v1 :: r2))) fun r4 => .ok (v3 :: r4))) (fun ds => bd ((fun fs => ul2 (F_Spot___init__ fs)) [] ds) fun fs => .ok (.obj "Spot" fs))) fun d => .ok (.rt d))
theorem ok_Spot_near_front (F : FnA K d_Spot_near_front fd) (T : Tx K mg) (G_Spot___init__ : PromO P w K mg base (L2.CX P w) 3 (md "Spot" "__init__" K) [] (spI K Tb "Spot" (fun fs => ul2 (F_Spot___init__ fs)))) : FnOk P w K mg base (L2.CX P w) 5 (d_Spot_near_front.adr K) fd ["i"] (spF K Tb (ul1 F_Spot_near_front)) := by
  refine F.ok sc_Spot_near_front (fun vs H Q E h => spF_len len1 h) (fun cdv A outer s H vs Q E hr h => ?_)
  refine ⟨_, (pss_cons (ps_ret (pe_g (PromO.make T.mk_Spot G_Spot___init__ (hr.mono (by decide)) (pass_on rfl rfl rfl rfl)) (by rfl) T.g_Spot T.k_Spot (pa_cons pe_str (pa_cons (pv 0) pa_nil)))) pss_nil), ?_⟩
  exact fn_of1 (F := F_Spot_near_front) (envU := fun _ => List.replicate 1 .no) h (fun i => rfl) (fun p c i => (ss_ret (se_cl srl_mk0 (sa_cons (se_str (by decide)) (sa_cons se_var sa_nil)))))
abbrev N_Spot_near_middle : List Str := ["i"]
theorem sc_Spot_near_middle : FnScope N_Spot_near_middle ["i"] (defScope s_Spot_near_middle) := ⟨rfl, rfl, rfl, by decide +kernel, rfl, by decide +kernel, by decide +kernel⟩
def F_Spot_near_middle (i : D) : Tr D :=
  fin (bd (bd (bd (.ok (.str "middle")) fun v3 => (bd (bd (.ok i) fun v1 => (bd (.ok []) fun r2 => .ok (v1 :: r2))) fun r4 => .ok (v3 :: r4))) (fun ds => bd ((fun fs => ul2 (F_Spot___init__ fs)) [] ds) fun fs => .ok (.obj "Spot" fs))) fun d => .ok (.rt d))
theorem ok_Spot_near_middle (F : FnA K d_Spot_near_middle fd) (T : Tx K mg) (G_Spot___init__ : PromO P w K mg base (L2.CX P w) 3 (md "Spot" "__init__" K) [] (spI K Tb "Spot" (fun fs => ul2 (F_Spot___init__ fs)))) : FnOk P w K mg base (L2.CX P w) 5 (d_Spot_near_middle.adr K) fd ["i"] (spF K Tb (ul1 F_Spot_near_middle)) := by
  refine F.ok sc_Spot_near_middle (fun vs H Q E h => spF_len len1 h) (fun cdv A outer s H vs Q E hr h => ?_)
  refine ⟨_, (pss_cons (ps_ret (pe_g (PromO.make T.mk_Spot G_Spot___init__ (hr.mono (by decide)) (pass_on rfl rfl rfl rfl)) (by rfl) T.g_Spot T.k_Spot (pa_cons pe_str (pa_cons (pv 0) pa_nil)))) pss_nil), ?_⟩
  exact fn_of1 (F := F_Spot_near_middle) (envU := fun _ => List.replicate 1 .no) h (fun i => rfl) (fun p c i => (ss_ret (se_cl srl_mk0 (sa_cons (se_str (by decide)) (sa_cons se_var sa_nil)))))
abbrev N_Spot_near_back : List Str := ["i"]
theorem sc_Spot_near_back : FnScope N_Spot_near_back ["i"] (defScope s_Spot_near_back) := ⟨rfl, rfl, rfl, by decide +kernel, rfl, by decide +kernel, by decide +kernel⟩
def F_Spot_near_back (i : D) : Tr D :=
  fin (bd (bd (bd (.ok (.str "back")) fun v3 => (bd (bd (.ok i) fun v1 => (bd (.ok []) fun r2 => .ok (v1 :: r2))) fun r4 => .ok (v3 :: r4))) (fun ds => bd ((fun fs => ul2 (F_Spot___init__ fs)) [] ds) fun fs => .ok (.obj "Spot" fs))) fun d => .ok (.rt d))
theorem ok_Spot_near_back (F : FnA K d_Spot_near_back fd) (T : Tx K mg) (G_Spot___init__ : PromO P w K mg base (L2.CX P w) 3 (md "Spot" "__init__" K) [] (spI K Tb "Spot" (fun fs => ul2 (F_Spot___init__ fs)))) : FnOk P w K mg base (L2.CX P w) 5 (d_Spot_near_back.adr K) fd ["i"] (spF K Tb (ul1 F_Spot_near_back)) := by
  refine F.ok sc_Spot_near_back (fun vs H Q E h => spF_len len1 h) (fun cdv A outer s H vs Q E hr h => ?_)
  refine ⟨_, (pss_cons (ps_ret (pe_g (PromO.make T.mk_Spot G_Spot___init__ (hr.mono (by decide)) (pass_on rfl rfl rfl rfl)) (by rfl) T.g_Spot T.k_Spot (pa_cons pe_str (pa_cons (pv 0) pa_nil)))) pss_nil), ?_⟩
  exact fn_of1 (F := F_Spot_near_back) (envU := fun _ => List.replicate 1 .no) h (fun i => rfl) (fun p c i => (ss_ret (se_cl srl_mk0 (sa_cons (se_str (by decide)) (sa_cons se_var sa_nil)))))
abbrev N_Spot_kind : List Str := ["self"]
theorem sc_Spot_kind : FnScope N_Spot_kind ["self"] (defScope s_Spot_kind) := ⟨rfl, rfl, rfl, by decide +kernel, rfl, by decide +kernel, by decide +kernel⟩
def F_Spot_kind (self : D) : Tr D :=
  fin (bd (bd (.ok self) (fldD "Spot" "own_kind")) fun d => .ok (.rt d))
theorem ok_Spot_kind (F : FnA K d_Spot_kind fd) (T : Tx K mg)  : FnOk P w K mg base CX0 1 (d_Spot_kind.adr K) fd ["self"] (spF K Tb (ul1 F_Spot_kind)) := by
  refine fnO0 F sc_Spot_kind (fun vs H Q E h => spF_len len1 h) (fun cdv A outer s H vs Q E hr h => ?_)
  refine ⟨_, (pss_cons (ps_ret (pe_f (pv 0) T.cl_Spot T.n_Spot_own_kind)) pss_nil), ?_⟩
  exact fn_of1 (F := F_Spot_kind) (envU := fun _ => List.replicate 1 .no) h (fun self => rfl) (fun p c self => (ss_ret (se_un sr_fld se_var)))
abbrev N_Spot_place_at_length : List Str := ["self", "n", "place"]
theorem sc_Spot_place_at_length : FnScope N_Spot_place_at_length ["self", "n"] (defScope s_Spot_place_at_length) := ⟨rfl, rfl, rfl, by decide +kernel, rfl, by decide +kernel, by decide +kernel⟩
def F_Spot_place_at_length (self n : D) : Tr D :=
  fin (bdF (W' := D) (bd (bd (bd (nox (bd (.ok self) fun o1 => (isO "Spot" o1 fun _ => (ul1 F_Spot_kind) [o1]))) fun v2 => (bd (.ok (.str "front")) fun v3 => eqD v2 v3)) asB) fun k => if k = true then (bd (bd (.ok self) (fldD "Spot" "number")) fun place4 => (.ok (.nx place4))) else (bd (bd (bd (bd (nox (bd (.ok self) fun o7 => (isO "Spot" o7 fun _ => (ul1 F_Spot_kind) [o7]))) fun v8 => (bd (.ok (.str "back")) fun v9 => eqD v8 v9)) asB) fun k => if k = true then (bd (bd (.ok n) fun v10 => (bd (.ok (.int 1)) fun v11 => subD v10 v11)) fun v12 => (bd (bd (.ok self) (fldD "Spot" "number")) fun v13 => subD v12 v13)) else (bd (bd (.ok n) fun v14 => (bd (.ok (.int 2)) fun v15 => divD v14 v15)) fun v16 => (bd (bd (.ok self) (fldD "Spot" "number")) fun v17 => addD v16 v17))) fun place5 => (.ok (.nx place5)))) fun (w4 : D) => (bd (bd (bd (bd (.ok (.int 0)) fun v18 => (bd (.ok w4) fun v19 => (bd (bd (leD v18 v19) asB) fun k => if k = true then (bd (.ok n) fun v20 => ltD v19 v20) else .ok (.bl false)))) asB) fun k => if k = true then (.ok w4) else (.ok .non)) fun d => .ok (.rt d)))
theorem ok_Spot_place_at_length (F : FnA K d_Spot_place_at_length fd) (T : Tx K mg) (G_Spot_kind : PromO P w K mg base CX0 1 (propG "Spot" "kind" K) [] (spF K Tb (ul1 F_Spot_kind))) : FnOk P w K mg base CX0 3 (d_Spot_place_at_length.adr K) fd ["self", "n"] (spF K Tb (ul2 F_Spot_place_at_length)) := by
  refine fnO0 F sc_Spot_place_at_length (fun vs H Q E h => spF_len len2 h) (fun cdv A outer s H vs Q E hr h => ?_)
  refine ⟨_, (pss_cons (ps_if (pt_cmpR (op_eqA (K := K) rfl hr.units) (pe_po (pv 0) T.cl_Spot T.pr_Spot_kind G_Spot_kind (hr.mono (by decide)) (passA (E := EF))) pe_str (nomark _))
      (pss_cons (ps_set (i := 2) sc_Spot_place_at_length.nd rfl (.inl rfl) (pe_f (pv 0) T.cl_Spot T.n_Spot_number))
      pss_nil) (pss_cons (ps_set (i := 2) sc_Spot_place_at_length.nd rfl (.inl rfl) (pe_ifExp (pt_cmpR (op_eqA (K := K) rfl hr.units) (pe_po (pv 0) T.cl_Spot T.pr_Spot_kind G_Spot_kind (hr.mono (by decide)) (passA (E := EF))) pe_str (nomark _)) (pe_op op_sub (pe_op op_sub (pv 1) pe_int) (pe_f (pv 0) T.cl_Spot T.n_Spot_number)) (pe_op (op_addA (K := K) rfl) (pe_op op_fdivW (pv 1) pe_int) (pe_f (pv 0) T.cl_Spot T.n_Spot_number))))
      pss_nil))
      (pss_cons (ps_ret (pe_ifExp (pt_chain op_le op_lt pe_int (pv 2) (pv 1)) (pv 2) pe_non)) pss_nil)), ?_⟩
  exact fn_of2 (F := F_Spot_place_at_length) (envU := fun _ => List.replicate 3 .no) h (fun self n => rfl) (fun p c self n => (ss_if (fun (w4 : D) => [.fz self, .fz n, .fz w4]) (sb_tst (se_op sr_eq (se_nox (se_pr se_var)) (se_str (by decide)))) (ss_asg (se_un sr_fld se_var) (fun place4 => (ss_nx (.s (.s (.s .nil)))))) (ss_asg (se_if (sb_tst (se_op sr_eq (se_nox (se_pr se_var)) (se_str (by decide)))) (se_op sr_sub (se_op sr_sub se_var se_int) (se_un sr_fld se_var)) (se_op sr_add (se_op sr_div se_var se_int) (se_un sr_fld se_var))) (fun place5 => (ss_nx (.s (.s (.s .nil)))))) (fun (w4 : D) => (ss_ret (se_if (sb_tst (se_chain sr_le sr_lt se_int se_var se_var)) se_var se_non)))))
abbrev N_Spot___call__ : List Str := ["self", "n"]
theorem sc_Spot___call__ : FnScope N_Spot___call__ ["self", "n"] (defScope s_Spot___call__) := ⟨rfl, rfl, rfl, by decide +kernel, rfl, by decide +kernel, by decide +kernel⟩
def F_Spot___call__ (self n : D) : Tr D :=
  fin (bd (bd (bd (.ok n) fun v1 => (bd (.ok []) fun r2 => .ok (v1 :: r2))) (ul1 F_need_length)) fun _ => (bd (bd (.ok self) fun o5 => (isO "Spot" o5 fun fs => if fs.lookup ("place_at_length" : Str) = none then bd (bd (.ok n) fun v3 => (bd (.ok []) fun r4 => .ok (v3 :: r4))) fun ds => (ul2 F_Spot_place_at_length) (o5 :: ds) else .bad)) fun d => .ok (.rt d)))
theorem ok_Spot___call__ (F : FnA K d_Spot___call__ fd) (T : Tx K mg) (G_need_length : PromO P w K mg base (L2.CX P w) 4 (gd "need_length" K) [] (spF K Tb (ul1 F_need_length))) (G_Spot_place_at_length : PromO P w K mg base CX0 3 (md "Spot" "place_at_length" K) [] (spF K Tb (ul2 F_Spot_place_at_length))) : FnOk P w K mg base (L2.CX P w) 5 (d_Spot___call__.adr K) fd ["self", "n"] (spF K Tb (ul2 F_Spot___call__)) := by
  refine F.ok sc_Spot___call__ (fun vs H Q E h => spF_len len2 h) (fun cdv A outer s H vs Q E hr h => ?_)
  refine ⟨_, (pss_cons (ps_expr (pe_g (PromO.call G_need_length (hr.mono (by decide)) (pass_on rfl rfl rfl rfl)) (by rfl) T.g_need_length T.k_need_length (pa_cons (pv 1) pa_nil)))
      (pss_cons (ps_ret (pe_m (pv 0) T.cl_Spot T.mt_Spot_place_at_length (PromO.call G_Spot_place_at_length (hr.mono (by decide)) (passA (E := E))) (pa_cons (pv 1) pa_nil))) pss_nil)), ?_⟩
  exact fn_of2 (F := F_Spot___call__) (envU := fun _ => List.replicate 2 .no) h (fun self n => rfl) (fun p c self n => (ss_drop (se_cl srl_sp0 (sa_cons se_var sa_nil)) (ss_ret (se_mt srl_sp0 se_var (sa_cons se_var sa_nil)))))
abbrev N_Spot_turned : List Str := ["self", "rest"]
theorem sc_Spot_turned : FnScope N_Spot_turned ["self", "rest"] (defScope s_Spot_turned) := ⟨rfl, rfl, rfl, by decide +kernel, rfl, by decide +kernel, by decide +kernel⟩
def F_Spot_turned (self rest : D) : Tr D :=
  fin (bd (bd (bd (.ok rest) fun v1 => (bd (.ok []) fun r2 => .ok (v1 :: r2))) (ul1 F_need_rest)) fun _ => (bdF (W' := Unit) (bd (bd (bd (nox (bd (.ok self) fun o3 => (isO "Spot" o3 fun _ => (ul1 F_Spot_kind) [o3]))) fun v4 => (bd (.ok (.str "middle")) fun v5 => eqD v4 v5)) asB) fun k => if k = true then (bd (bd (bd (.ok (.str "middle")) fun v15 => (bd (bd (bd (bd (bd (bd (.ok rest) fun v7 => (bd (.ok (.int 2)) fun v8 => modD v7 v8)) fun v9 => (bd (.ok (.int 1)) fun v10 => eqD v9 v10)) asB) fun k => if k = true then (bd (bd (.ok self) (fldD "Spot" "number")) negD) else (bd (bd (.ok (.int 1)) negD) fun v11 => (bd (bd (.ok self) (fldD "Spot" "number")) fun v12 => subD v11 v12))) fun v13 => (bd (.ok []) fun r14 => .ok (v13 :: r14))) fun r16 => .ok (v15 :: r16))) (fun ds => bd ((fun fs => ul2 (F_Spot___init__ fs)) [] ds) fun fs => .ok (.obj "Spot" fs))) fun d => .ok (.rt d)) else (.ok (.nx ()))) fun (w6 : Unit) => (bd (bd (bd (bd (bd (bd (nox (bd (.ok self) fun o17 => (isO "Spot" o17 fun _ => (ul1 F_Spot_kind) [o17]))) fun v18 => (bd (.ok (.str "front")) fun v19 => eqD v18 v19)) asB) fun k => if k = true then (.ok (.str "back")) else (.ok (.str "front"))) fun v22 => (bd (bd (bd (.ok self) (fldD "Spot" "number")) fun v20 => (bd (.ok []) fun r21 => .ok (v20 :: r21))) fun r23 => .ok (v22 :: r23))) (fun ds => bd ((fun fs => ul2 (F_Spot___init__ fs)) [] ds) fun fs => .ok (.obj "Spot" fs))) fun d => .ok (.rt d))))
theorem ok_Spot_turned (F : FnA K d_Spot_turned fd) (T : Tx K mg) (G_need_rest : PromO P w K mg base (L2.CX P w) 4 (gd "need_rest" K) [] (spF K Tb (ul1 F_need_rest))) (G_Spot_kind : PromO P w K mg base CX0 1 (propG "Spot" "kind" K) [] (spF K Tb (ul1 F_Spot_kind))) (G_Spot___init__ : PromO P w K mg base (L2.CX P w) 3 (md "Spot" "__init__" K) [] (spI K Tb "Spot" (fun fs => ul2 (F_Spot___init__ fs)))) : FnOk P w K mg base (L2.CX P w) 5 (d_Spot_turned.adr K) fd ["self", "rest"] (spF K Tb (ul2 F_Spot_turned)) := by
  refine F.ok sc_Spot_turned (fun vs H Q E h => spF_len len2 h) (fun cdv A outer s H vs Q E hr h => ?_)
  refine ⟨_, (pss_cons (ps_expr (pe_g (PromO.call G_need_rest (hr.mono (by decide)) (pass_on rfl rfl rfl rfl)) (by rfl) T.g_need_rest T.k_need_rest (pa_cons (pv 1) pa_nil)))
      (pss_cons (ps_if (pt_cmpR (op_eqA (K := K) rfl hr.units) (pe_po (pv 0) T.cl_Spot T.pr_Spot_kind G_Spot_kind (hr.mono (by decide)) (passA (E := EF))) pe_str (nomark _))
      (pss_cons (ps_ret (pe_g (PromO.make T.mk_Spot G_Spot___init__ (hr.mono (by decide)) (pass_on rfl rfl rfl rfl)) (by rfl) T.g_Spot T.k_Spot (pa_cons pe_str (pa_cons (pe_ifExp (pt_cmpR (op_eqA (K := K) rfl hr.units) (pe_op op_mod (pv 1) pe_int) pe_int (nomark _)) (pe_un un_neg (pe_f (pv 0) T.cl_Spot T.n_Spot_number)) (pe_op op_sub (pe_un un_neg pe_int) (pe_f (pv 0) T.cl_Spot T.n_Spot_number))) pa_nil)))) pss_nil) pss_nil)
      (pss_cons (ps_ret (pe_g (PromO.make T.mk_Spot G_Spot___init__ (hr.mono (by decide)) (pass_on rfl rfl rfl rfl)) (by rfl) T.g_Spot T.k_Spot (pa_cons (pe_ifExp (pt_cmpR (op_eqA (K := K) rfl hr.units) (pe_po (pv 0) T.cl_Spot T.pr_Spot_kind G_Spot_kind (hr.mono (by decide)) (passA (E := EF))) pe_str (nomark _)) pe_str pe_str) (pa_cons (pe_f (pv 0) T.cl_Spot T.n_Spot_number) pa_nil)))) pss_nil))), ?_⟩
  exact fn_of2 (F := F_Spot_turned) (envU := fun _ => List.replicate 2 .no) h (fun self rest => rfl) (fun p c self rest => (ss_drop (se_cl srl_sp0 (sa_cons se_var sa_nil)) (ss_if (fun (w6 : Unit) => [.fz self, .fz rest]) (sb_tst (se_op sr_eq (se_nox (se_pr se_var)) (se_str (by decide)))) (ss_ret (se_cl srl_mk0 (sa_cons (se_str (by decide)) (sa_cons (se_if (sb_tst (se_op sr_eq (se_op sr_mod se_var se_int) se_int)) (se_un sr_neg (se_un sr_fld se_var)) (se_op sr_sub (se_un sr_neg se_int) (se_un sr_fld se_var))) sa_nil)))) (ss_nx (.s (.s .nil))) (fun (w6 : Unit) => (ss_ret (se_cl srl_mk0 (sa_cons (se_if (sb_tst (se_op sr_eq (se_nox (se_pr se_var)) (se_str (by decide)))) (se_str (by decide)) (se_str (by decide))) (sa_cons (se_un sr_fld se_var) sa_nil))))))))
abbrev N_Spot___add__ : List Str := ["self", "k"]
theorem sc_Spot___add__ : FnScope N_Spot___add__ ["self", "k"] (defScope s_Spot___add__) := ⟨rfl, rfl, rfl, by decide +kernel, rfl, by decide +kernel, by decide +kernel⟩
def F_Spot___add__ (self k_ : D) : Tr D :=
  fin (bd (bd (bd (bd (.ok self) (fldD "Spot" "own_kind")) fun v9 => (bd (bd (bd (bd (bd (bd (.ok self) (fldD "Spot" "own_kind")) fun v1 => (bd (.ok (.str "back")) fun v2 => eqD v1 v2)) asB) fun k => if k = true then (bd (bd (.ok self) (fldD "Spot" "number")) fun v3 => (bd (.ok k_) fun v4 => subD v3 v4)) else (bd (bd (.ok self) (fldD "Spot" "number")) fun v5 => (bd (.ok k_) fun v6 => addD v5 v6))) fun v7 => (bd (.ok []) fun r8 => .ok (v7 :: r8))) fun r10 => .ok (v9 :: r10))) (fun ds => bd ((fun fs => ul2 (F_Spot___init__ fs)) [] ds) fun fs => .ok (.obj "Spot" fs))) fun d => .ok (.rt d))
theorem ok_Spot___add__ (F : FnA K d_Spot___add__ fd) (T : Tx K mg) (G_Spot___init__ : PromO P w K mg base (L2.CX P w) 3 (md "Spot" "__init__" K) [] (spI K Tb "Spot" (fun fs => ul2 (F_Spot___init__ fs)))) : FnOk P w K mg base (L2.CX P w) 5 (d_Spot___add__.adr K) fd ["self", "k"] (spF K Tb (ul2 F_Spot___add__)) := by
  refine F.ok sc_Spot___add__ (fun vs H Q E h => spF_len len2 h) (fun cdv A outer s H vs Q E hr h => ?_)
  refine ⟨_, (pss_cons (ps_ret (pe_g (PromO.make T.mk_Spot G_Spot___init__ (hr.mono (by decide)) (pass_on rfl rfl rfl rfl)) (by rfl) T.g_Spot T.k_Spot (pa_cons (pe_f (pv 0) T.cl_Spot T.n_Spot_own_kind) (pa_cons (pe_ifExp (pt_cmpR (op_eqA (K := K) rfl hr.units) (pe_f (pv 0) T.cl_Spot T.n_Spot_own_kind) pe_str (nomark _)) (pe_op op_sub (pe_f (pv 0) T.cl_Spot T.n_Spot_number) (pv 1)) (pe_op (op_addA (K := K) rfl) (pe_f (pv 0) T.cl_Spot T.n_Spot_number) (pv 1))) pa_nil)))) pss_nil), ?_⟩
  exact fn_of2 (F := F_Spot___add__) (envU := fun _ => List.replicate 2 .no) h (fun self k_ => rfl) (fun p c self k_ => (ss_ret (se_cl srl_mk0 (sa_cons (se_un sr_fld se_var) (sa_cons (se_if (sb_tst (se_op sr_eq (se_un sr_fld se_var) (se_str (by decide)))) (se_op sr_sub (se_un sr_fld se_var) se_var) (se_op sr_add (se_un sr_fld se_var) se_var)) sa_nil)))))
abbrev N_Spot___sub__ : List Str := ["self", "k"]
theorem sc_Spot___sub__ : FnScope N_Spot___sub__ ["self", "k"] (defScope s_Spot___sub__) := ⟨rfl, rfl, rfl, by decide +kernel, rfl, by decide +kernel, by decide +kernel⟩
def F_Spot___sub__ (self k_ : D) : Tr D :=
  fin (bd (bd (bd (bd (.ok self) (fldD "Spot" "own_kind")) fun v9 => (bd (bd (bd (bd (bd (bd (.ok self) (fldD "Spot" "own_kind")) fun v1 => (bd (.ok (.str "back")) fun v2 => eqD v1 v2)) asB) fun k => if k = true then (bd (bd (.ok self) (fldD "Spot" "number")) fun v3 => (bd (.ok k_) fun v4 => addD v3 v4)) else (bd (bd (.ok self) (fldD "Spot" "number")) fun v5 => (bd (.ok k_) fun v6 => subD v5 v6))) fun v7 => (bd (.ok []) fun r8 => .ok (v7 :: r8))) fun r10 => .ok (v9 :: r10))) (fun ds => bd ((fun fs => ul2 (F_Spot___init__ fs)) [] ds) fun fs => .ok (.obj "Spot" fs))) fun d => .ok (.rt d))
theorem ok_Spot___sub__ (F : FnA K d_Spot___sub__ fd) (T : Tx K mg) (G_Spot___init__ : PromO P w K mg base (L2.CX P w) 3 (md "Spot" "__init__" K) [] (spI K Tb "Spot" (fun fs => ul2 (F_Spot___init__ fs)))) : FnOk P w K mg base (L2.CX P w) 5 (d_Spot___sub__.adr K) fd ["self", "k"] (spF K Tb (ul2 F_Spot___sub__)) := by
  refine F.ok sc_Spot___sub__ (fun vs H Q E h => spF_len len2 h) (fun cdv A outer s H vs Q E hr h => ?_)
  refine ⟨_, (pss_cons (ps_ret (pe_g (PromO.make T.mk_Spot G_Spot___init__ (hr.mono (by decide)) (pass_on rfl rfl rfl rfl)) (by rfl) T.g_Spot T.k_Spot (pa_cons (pe_f (pv 0) T.cl_Spot T.n_Spot_own_kind) (pa_cons (pe_ifExp (pt_cmpR (op_eqA (K := K) rfl hr.units) (pe_f (pv 0) T.cl_Spot T.n_Spot_own_kind) pe_str (nomark _)) (pe_op (op_addA (K := K) rfl) (pe_f (pv 0) T.cl_Spot T.n_Spot_number) (pv 1)) (pe_op op_sub (pe_f (pv 0) T.cl_Spot T.n_Spot_number) (pv 1))) pa_nil)))) pss_nil), ?_⟩
  exact fn_of2 (F := F_Spot___sub__) (envU := fun _ => List.replicate 2 .no) h (fun self k_ => rfl) (fun p c self k_ => (ss_ret (se_cl srl_mk0 (sa_cons (se_un sr_fld se_var) (sa_cons (se_if (sb_tst (se_op sr_eq (se_un sr_fld se_var) (se_str (by decide)))) (se_op sr_add (se_un sr_fld se_var) se_var) (se_op sr_sub (se_un sr_fld se_var) se_var)) sa_nil)))))
abbrev N_Spot___eq__ : List Str := ["self", "other"]
theorem sc_Spot___eq__ : FnScope N_Spot___eq__ ["self", "other"] (defScope s_Spot___eq__) := ⟨rfl, rfl, rfl, by decide +kernel, rfl, by decide +kernel, by decide +kernel⟩
def F_Spot___eq__ (self other : D) : Tr D :=
  fin (bd (bd (bd (bd (.ok other) fun d => bd (opt (isi_Spot d)) fun k => .ok (.bl k)) asB) fun k => if k = true then (bd (bd (.ok self) (fldD "Spot" "own_rank")) fun v1 => (bd (bd (.ok other) (fldD "Spot" "own_rank")) fun v2 => eqD v1 v2)) else .ok (.bl false)) fun d => .ok (.rt d))
theorem ok_Spot___eq__ (F : FnA K d_Spot___eq__ fd) (T : Tx K mg)  : FnOk P w K mg base CX0 1 (d_Spot___eq__.adr K) fd ["self", "other"] (spF K Tb (ul2 F_Spot___eq__)) := by
  refine fnO0 F sc_Spot___eq__ (fun vs H Q E h => spF_len len2 h) (fun cdv A outer s H vs Q E hr h => ?_)
  refine ⟨_, (pss_cons (ps_ret (pe_and (pe_callB (call_isiZ (K := K) rfl) (by rfl) T.f_isinstance (by decide +kernel) (pa_cons (pv 1) (pa_cons (pe_glob (v := .ref _) rfl T.g_Spot rfl) pa_nil))) (pe_one (pe_cmpR (op_eqA (K := K) rfl hr.units) (pe_f (pv 0) T.cl_Spot T.n_Spot_own_rank) (pe_f (pv 1) T.cl_Spot T.n_Spot_own_rank) (nomark _))))) pss_nil), ?_⟩
  exact fn_of2 (F := F_Spot___eq__) (envU := fun _ => List.replicate 2 .no) h (fun self other => rfl) (fun p c self other => (ss_ret (se_andV (se_isi (.own _) (isT_Spot T) se_var) (se_op sr_eq (se_un sr_fld se_var) (se_un sr_fld se_var)))))
abbrev N_Spot___lt__ : List Str := ["self", "other"]
theorem sc_Spot___lt__ : FnScope N_Spot___lt__ ["self", "other"] (defScope s_Spot___lt__) := ⟨rfl, rfl, rfl, by decide +kernel, rfl, by decide +kernel, by decide +kernel⟩
def F_Spot___lt__ (self other : D) : Tr D :=
  fin (bd (bd (bd (.ok self) (fldD "Spot" "own_rank")) fun v1 => (bd (bd (.ok other) (fldD "Spot" "own_rank")) fun v2 => cmp2D (fun i j => decide (i < j)) ((fun a b => decide (a < b)) 2 2) v1 v2)) fun d => .ok (.rt d))
theorem ok_Spot___lt__ (F : FnA K d_Spot___lt__ fd) (T : Tx K mg)  : FnOk P w K mg base CX0 1 (d_Spot___lt__.adr K) fd ["self", "other"] (spF K Tb (ul2 F_Spot___lt__)) := by
  refine fnO0 F sc_Spot___lt__ (fun vs H Q E h => spF_len len2 h) (fun cdv A outer s H vs Q E hr h => ?_)
  refine ⟨_, (pss_cons (ps_ret (pe_cmpR (op_tltC (K := K) rfl hr.units0) (pe_f (pv 0) T.cl_Spot T.n_Spot_own_rank) (pe_f (pv 1) T.cl_Spot T.n_Spot_own_rank) (nomark _))) pss_nil), ?_⟩
  exact fn_of2 (F := F_Spot___lt__) (envU := fun _ => List.replicate 2 .no) h (fun self other => rfl) (fun p c self other => (ss_ret (se_op (sr_cmp2 (r := fun i j => decide (i < j)) (z := fun a b => decide (a < b))) (se_un sr_fld se_var) (se_un sr_fld se_var))))
abbrev N_Spot___le__ : List Str := ["self", "other"]
theorem sc_Spot___le__ : FnScope N_Spot___le__ ["self", "other"] (defScope s_Spot___le__) := ⟨rfl, rfl, rfl, by decide +kernel, rfl, by decide +kernel, by decide +kernel⟩
def F_Spot___le__ (self other : D) : Tr D :=
  fin (bd (bd (bd (.ok self) (fldD "Spot" "own_rank")) fun v1 => (bd (bd (.ok other) (fldD "Spot" "own_rank")) fun v2 => cmp2D (fun i j => decide (i ≤ j)) ((fun a b => decide (a ≤ b)) 2 2) v1 v2)) fun d => .ok (.rt d))
theorem ok_Spot___le__ (F : FnA K d_Spot___le__ fd) (T : Tx K mg)  : FnOk P w K mg base CX0 1 (d_Spot___le__.adr K) fd ["self", "other"] (spF K Tb (ul2 F_Spot___le__)) := by
  refine fnO0 F sc_Spot___le__ (fun vs H Q E h => spF_len len2 h) (fun cdv A outer s H vs Q E hr h => ?_)
  refine ⟨_, (pss_cons (ps_ret (pe_cmpR (op_tleC (K := K) rfl hr.units0) (pe_f (pv 0) T.cl_Spot T.n_Spot_own_rank) (pe_f (pv 1) T.cl_Spot T.n_Spot_own_rank) (nomark _))) pss_nil), ?_⟩
  exact fn_of2 (F := F_Spot___le__) (envU := fun _ => List.replicate 2 .no) h (fun self other => rfl) (fun p c self other => (ss_ret (se_op (sr_cmp2 (r := fun i j => decide (i ≤ j)) (z := fun a b => decide (a ≤ b))) (se_un sr_fld se_var) (se_un sr_fld se_var))))
abbrev N_Spot___gt__ : List Str := ["self", "other"]
theorem sc_Spot___gt__ : FnScope N_Spot___gt__ ["self", "other"] (defScope s_Spot___gt__) := ⟨rfl, rfl, rfl, by decide +kernel, rfl, by decide +kernel, by decide +kernel⟩
def F_Spot___gt__ (self other : D) : Tr D :=
  fin (bd (bd (bd (.ok self) (fldD "Spot" "own_rank")) fun v1 => (bd (bd (.ok other) (fldD "Spot" "own_rank")) fun v2 => cmp2D (fun i j => decide (j < i)) ((fun a b => decide (a > b)) 2 2) v1 v2)) fun d => .ok (.rt d))
theorem ok_Spot___gt__ (F : FnA K d_Spot___gt__ fd) (T : Tx K mg)  : FnOk P w K mg base CX0 1 (d_Spot___gt__.adr K) fd ["self", "other"] (spF K Tb (ul2 F_Spot___gt__)) := by
  refine fnO0 F sc_Spot___gt__ (fun vs H Q E h => spF_len len2 h) (fun cdv A outer s H vs Q E hr h => ?_)
  refine ⟨_, (pss_cons (ps_ret (pe_cmpR (op_tgtC (K := K) rfl hr.units0) (pe_f (pv 0) T.cl_Spot T.n_Spot_own_rank) (pe_f (pv 1) T.cl_Spot T.n_Spot_own_rank) (nomark _))) pss_nil), ?_⟩
  exact fn_of2 (F := F_Spot___gt__) (envU := fun _ => List.replicate 2 .no) h (fun self other => rfl) (fun p c self other => (ss_ret (se_op (sr_cmp2 (r := fun i j => decide (j < i)) (z := fun a b => decide (a > b))) (se_un sr_fld se_var) (se_un sr_fld se_var))))
abbrev N_Spot___ge__ : List Str := ["self", "other"]
theorem sc_Spot___ge__ : FnScope N_Spot___ge__ ["self", "other"] (defScope s_Spot___ge__) := ⟨rfl, rfl, rfl, by decide +kernel, rfl, by decide +kernel, by decide +kernel⟩
def F_Spot___ge__ (self other : D) : Tr D :=
  fin (bd (bd (bd (.ok self) (fldD "Spot" "own_rank")) fun v1 => (bd (bd (.ok other) (fldD "Spot" "own_rank")) fun v2 => cmp2D (fun i j => decide (j ≤ i)) ((fun a b => decide (a ≥ b)) 2 2) v1 v2)) fun d => .ok (.rt d))
theorem ok_Spot___ge__ (F : FnA K d_Spot___ge__ fd) (T : Tx K mg)  : FnOk P w K mg base CX0 1 (d_Spot___ge__.adr K) fd ["self", "other"] (spF K Tb (ul2 F_Spot___ge__)) := by
  refine fnO0 F sc_Spot___ge__ (fun vs H Q E h => spF_len len2 h) (fun cdv A outer s H vs Q E hr h => ?_)
  refine ⟨_, (pss_cons (ps_ret (pe_cmpR (op_tgeC (K := K) rfl hr.units0) (pe_f (pv 0) T.cl_Spot T.n_Spot_own_rank) (pe_f (pv 1) T.cl_Spot T.n_Spot_own_rank) (nomark _))) pss_nil), ?_⟩
  exact fn_of2 (F := F_Spot___ge__) (envU := fun _ => List.replicate 2 .no) h (fun self other => rfl) (fun p c self other => (ss_ret (se_op (sr_cmp2 (r := fun i j => decide (j ≤ i)) (z := fun a b => decide (a ≥ b))) (se_un sr_fld se_var) (se_un sr_fld se_var))))
abbrev N_Spot___str__ : List Str := ["self"]
theorem sc_Spot___str__ : FnScope N_Spot___str__ ["self"] (defScope s_Spot___str__) := ⟨rfl, rfl, rfl, by decide +kernel, rfl, by decide +kernel, by decide +kernel⟩
def F_Spot___str__ (self : D) : Tr D :=
  fin (bd ((fun acc => bd (bd (nox (bd (.ok self) fun o1 => (isO "Spot" o1 fun _ => (ul1 F_Spot_kind) [o1]))) fmtD) (jnD (fun acc => bd (.ok (.str " ")) (jnD (fun acc => bd (bd (bd (.ok self) (fldD "Spot" "number")) fmtD) (jnD (fun acc => .ok (.str acc)) acc)) acc)) acc)) Str.empty) fun d => .ok (.rt d))
theorem ok_Spot___str__ (F : FnA K d_Spot___str__ fd) (T : Tx K mg) (G_Spot_kind : PromO P w K mg base CX0 1 (propG "Spot" "kind" K) [] (spF K Tb (ul1 F_Spot_kind))) : FnOk P w K mg base CX0 3 (d_Spot___str__.adr K) fd ["self"] (spF K Tb (ul1 F_Spot___str__)) := by
  refine fnO0 F sc_Spot___str__ (fun vs H Q E h => spF_len len1 h) (fun cdv A outer s H vs Q E hr h => ?_)
  refine ⟨_, (pss_cons (ps_ret (pe_joined (PJ.cons (pe_fmt (pe_po (pv 0) T.cl_Spot T.pr_Spot_kind G_Spot_kind (hr.mono (by decide)) (passA (E := EF)))) (PJ.cons pe_str (PJ.cons (pe_fmt (pe_f (pv 0) T.cl_Spot T.n_Spot_number)) PJ.nil))))) pss_nil), ?_⟩
  exact fn_of1 (F := F_Spot___str__) (envU := fun _ => List.replicate 1 .no) h (fun self => rfl) (fun p c self => (ss_ret (se_joined (sj_cons (se_fmt (se_nox (se_pr se_var))) (sj_cons (se_str (by decide)) (sj_cons (se_fmt (se_un sr_fld se_var)) sj_nil))))))
end
end Lw
end
section
set_option Elab.async false
set_option linter.all false
set_option maxRecDepth 100000
set_option maxHeartbeats 4000000
set_option pp.maxSteps 600
namespace Lw
open PySem PySem.Spec PyProof.Rows L2 Gh Gp Gz
section
variable {P : Program} {w : World} {K : PySem.W.Frag} {mg : Str → Option Value} {base : Heap} {f : Addr} {fd : FuncData} {Tb : List (Addr × Str)}
abbrev N__law_pick : List Str := ["_law_pen_here", "_law_some"]
theorem sc__law_pick : FnScope N__law_pick ["_law_pen_here", "_law_some"] (defScope s__law_pick) := ⟨rfl, rfl, rfl, by decide +kernel, rfl, by decide +kernel, by decide +kernel⟩
def F__law_pick (l_pen_here l_some : D) : Tr D :=
  fin (bd (bd (.ok l_some) fun v1 => (bd (bd (bd (.ok l_pen_here) fun v7 => (bd (bd (bd (bd (.ok l_some) fun v3 => (bd (.ok []) fun r4 => .ok (v3 :: r4))) (ul1 lenD)) fun v5 => (bd (.ok []) fun r6 => .ok (v5 :: r6))) fun r8 => .ok (v7 :: r8))) (ul2 F_draw)) fun v2 => ixD v1 v2)) fun d => .ok (.rt d))
theorem ok__law_pick (F : FnA K d__law_pick fd) (T : Tx K mg) (G__law_draw : PromO P w K mg base CX0 1 (gd "_law_draw" K) [] (spF K Tb (ul2 F_draw))) : FnOk P w K mg base CX0 2 (d__law_pick.adr K) fd ["_law_pen_here", "_law_some"] (spF K Tb (ul2 F__law_pick)) := by
  refine fnO0 F sc__law_pick (fun vs H Q E h => spF_len len2 h) (fun cdv A outer s H vs Q E hr h => ?_)
  refine ⟨_, (pss_cons (ps_ret (pe_ix (ix_seqK (K := K) rfl) (pv 1) (pe_g (PromO.call G__law_draw (hr.mono (by decide)) (passA (E := E))) (by rfl) T.g__law_draw T.k__law_draw (pa_cons (pv 0) (pa_cons (pe_callB (cr_len (K := K) rfl) (by rfl) T.f_len (by decide +kernel) (pa_cons (pv 1) pa_nil)) pa_nil))) (fun _ _ => rfl))) pss_nil), ?_⟩
  exact fn_of2 (F := F__law_pick) (envU := fun _ => List.replicate 2 .no) h (fun l_pen_here l_some => rfl) (fun p c l_pen_here l_some => (ss_ret (se_op sr_ix se_var (se_cl srl_sp0 (sa_cons se_var (sa_cons (se_cb srl_len (sa_cons se_var sa_nil)) sa_nil))))))
abbrev N__law_heard : List Str := ["_law_ask", "_law_caught", "error", "_law_found"]
theorem sc__law_heard : FnScope N__law_heard ["_law_ask"] (defScope s__law_heard) := ⟨rfl, rfl, rfl, by decide +kernel, rfl, by decide +kernel, by decide +kernel⟩
def xh__law_heard (cl : Str) : Bool := decide (cl ∈ (["BadSpot", "BadLength", "BadRest"] : List Str))
theorem xhT__law_heard (T : Tx K mg) : ∀ cl, xh__law_heard cl = true → PySem.W.exmOne K (.ref (gd cl K)) (.ref (gd "HuntError" K)) = some true := by
  intro cl h
  unfold xh__law_heard at h
  simp only [decide_eq_true_eq, List.mem_cons, List.mem_nil_iff, or_false] at h
  rcases h with rfl | rfl | rfl
  · exact T.xh_BadSpot
  · exact T.xh_BadLength
  · exact T.xh_BadRest
def F__law_heard (m : Tr D) : Tr D := tryT (bd m fun d => .ok (.lst [d])) .ok (fun cl fs => if xh__law_heard cl = true then nox (fin (bd (bd (.ok []) fun ds => if ds.length ≤ sizeLine then .ok ds else .bad) fun l_found0 => (bdF (W' := List D) (bd (bd (bd (.ok (.err cl fs)) fun d => bd (opt (isi_BadRest d)) fun k => .ok (.bl k)) asB) fun k => if k = true then (bd (bd (bd (.ok (.str "rest")) fun v5 => (bd (bd (bd (.ok (.err cl fs)) (xaD ["BadLength", "BadRest"] "value")) fun v3 => (bd (.ok []) fun r4 => .ok (v3 :: r4))) fun r6 => .ok (v5 :: r6))) fun ds => if ds.length ≤ sizeLine then .ok (.tup ds) else .bad) fun (v7 : D) => if l_found0.length < sizeLine then (.ok (.nx (l_found0 ++ [v7]))) else .bad) else (.ok (.nx l_found0))) fun (w2 : List D) => (bdF (W' := List D) (bd (bd (bd (.ok (.err cl fs)) fun d => bd (opt (isi_BadLength d)) fun k => .ok (.bl k)) asB) fun k => if k = true then (bd (bd (bd (.ok (.str "length")) fun v11 => (bd (bd (bd (.ok (.err cl fs)) (xaD ["BadLength", "BadRest"] "value")) fun v9 => (bd (.ok []) fun r10 => .ok (v9 :: r10))) fun r12 => .ok (v11 :: r12))) fun ds => if ds.length ≤ sizeLine then .ok (.tup ds) else .bad) fun (v13 : D) => if w2.length < sizeLine then (.ok (.nx (w2 ++ [v13]))) else .bad) else (.ok (.nx w2))) fun (w8 : List D) => (bdF (W' := List D) (bd (bd (bd (.ok (.err cl fs)) fun d => bd (opt (isi_BadSpot d)) fun k => .ok (.bl k)) asB) fun k => if k = true then (bd (bd (bd (.ok (.str "spot")) fun v17 => (bd (bd (bd (.ok (.err cl fs)) (xaD ["BadSpot"] "part")) fun v15 => (bd (.ok []) fun r16 => .ok (v15 :: r16))) fun r18 => .ok (v17 :: r18))) fun ds => if ds.length ≤ sizeLine then .ok (.tup ds) else .bad) fun (v19 : D) => if w8.length < sizeLine then (.ok (.nx (w8 ++ [v19]))) else .bad) else (.ok (.nx w8))) fun (w14 : List D) => (bdF (W' := List D) (bd (bd (bd (.ok (.err cl fs)) fun d => bd (opt (isi_BadText d)) fun k => .ok (.bl k)) asB) fun k => if k = true then .bad else (.ok (.nx w14))) fun (w20 : List D) => (bdF (W' := List D) (bd (bd (bd (.ok (.err cl fs)) fun d => bd (opt (isi_Parts d)) fun k => .ok (.bl k)) asB) fun k => if k = true then .bad else (.ok (.nx w20))) fun (w21 : List D) => (bdF (W' := Unit) (bd (bd (bd (bd (.ok (.err cl fs)) fun d => bd (opt (isi_BadNumber_BadStep_BadForm d)) fun k => .ok (.bl k)) asB) fun k => if k = true then .ok true else (bd (bd (bd (bd (.ok (.err cl fs)) fun d => bd (opt (isi_ValueError d)) fun k => .ok (.bl k)) asB) fun k => .ok (!k)) fun k => if k = true then .ok true else (bd (bd (bd (bd (.ok (.lst w21)) fun v22 => (bd (.ok []) fun r23 => .ok (v22 :: r23))) (ul1 lenD)) fun v24 => (bd (.ok (.int 1)) fun v25 => neD v24 v25)) asB))) fun k => if k = true then (bd (bd (bd (.ok (.str "odd")) fun v27 => (bd (.ok []) fun r28 => .ok (v27 :: r28))) fun ds => if ds.length ≤ sizeLine then .ok (.tup ds) else .bad) fun d => .ok (.rt d)) else (.ok (.nx ()))) fun (w26 : Unit) => (bd (bd (.ok (.lst w21)) fun v29 => (bd (.ok (.int 0)) fun v30 => ixD v29 v30)) fun d => .ok (.rt d)))))))))) else .bad)
theorem ok__law_heard {X : Cx} {Tb : List (Addr × Str)} (T : Tx X.K X.mg) (hu105 : X.A.units + 105 < cLine) (hg : X.A.guards = some []) {g : Addr} {cdv : Value} {q : Str} : LamX.GivesTo X N__law_heard "_law_heard" (defScope s__law_heard) g cdv (defBody s__law_heard) "_law_ask" q (THd X.K Tb F__law_heard) := by
  intro f c' s H Q tl act hc h
  obtain ⟨p, c, U, b, m, wd, u, ha, al⟩ := h
  have hu100 : X.A.units + 3 + 102 < cLine := by omega
  have hu64 : X.A.units + 3 + 64 < cLine := by omega
  refine ⟨_, pss_cons (ps_set (i := 1) sc__law_heard.nd rfl (.inl rfl) pe_non) (pss_cons (ps_try_keep (X := (cxOf C8.CX0 X.prog X.w X.K X.mg X.base N__law_heard "_law_heard" (defScope s__law_heard) g cdv X.A X.stack s H C8.E0).nox) (i := 2) (c := .ref (gd "HuntError" X.K)) (Wout := fun _ _ _ _ => False) (tb := fun W => tTry 4 (fun E => tRet (tLst (tCons (tAct f c' q (tl E)) tNil))) W) rfl rfl rfl sc__law_heard.nd rfl rfl ⟨rfl, by decide, .inl T.g_HuntError⟩ LamX.takes0 (fun W pn xe tk _ => try_act 4 rfl tk fun E ⟨W', tk', hW⟩ => pss_one (ps_ret (pe_lst (pa_cons (act W' pn xe E _ _ tk' hW) pa_nil)))) (fun a oe cls d pn _ _ => pss_one (ps_set (i := 1) sc__law_heard.nd rfl (.inl rfl) (pv 2))))
      (pss_cons (ps_set (i := 3) sc__law_heard.nd rfl (.inl rfl) (pe_lst pa_nil))
      (pss_cons (ps_if (pt_val (pe_callB (call_isiZ (K := X.K) rfl) (by rfl) T.f_isinstance (by decide +kernel) (pa_cons (pv 1) (pa_cons (pe_glob (v := .ref _) rfl T.g_BadRest rfl) pa_nil))))
      (pss_cons (ps_expr (pe_bm PySem.F.plainAttrs_list PySem.F.slot_list_append PySem.F.type_list_append mt_append (pv 3) (pa_cons (pe_tup (pa_cons pe_str (pa_cons (pe_xa (K := X.K) rfl (pv 1)) pa_nil))) pa_nil)))
      pss_nil) pss_nil)
      (pss_cons (ps_if (pt_val (pe_callB (call_isiZ (K := X.K) rfl) (by rfl) T.f_isinstance (by decide +kernel) (pa_cons (pv 1) (pa_cons (pe_glob (v := .ref _) rfl T.g_BadLength rfl) pa_nil))))
      (pss_cons (ps_expr (pe_bm PySem.F.plainAttrs_list PySem.F.slot_list_append PySem.F.type_list_append mt_append (pv 3) (pa_cons (pe_tup (pa_cons pe_str (pa_cons (pe_xa (K := X.K) rfl (pv 1)) pa_nil))) pa_nil)))
      pss_nil) pss_nil)
      (pss_cons (ps_if (pt_val (pe_callB (call_isiZ (K := X.K) rfl) (by rfl) T.f_isinstance (by decide +kernel) (pa_cons (pv 1) (pa_cons (pe_glob (v := .ref _) rfl T.g_BadSpot rfl) pa_nil))))
      (pss_cons (ps_expr (pe_bm PySem.F.plainAttrs_list PySem.F.slot_list_append PySem.F.type_list_append mt_append (pv 3) (pa_cons (pe_tup (pa_cons pe_str (pa_cons (pe_xa (K := X.K) rfl (pv 1)) pa_nil))) pa_nil)))
      pss_nil) pss_nil)
      (pss_cons (ps_if (pt_val (pe_callB (call_isiZ (K := X.K) rfl) (by rfl) T.f_isinstance (by decide +kernel) (pa_cons (pv 1) (pa_cons (pe_glob (v := .ref _) rfl T.g_BadText rfl) pa_nil))))
      Gp.pss_never pss_nil)
      (pss_cons (ps_if (pt_val (pe_callB (call_isiZ (K := X.K) rfl) (by rfl) T.f_isinstance (by decide +kernel) (pa_cons (pv 1) (pa_cons (pe_glob (v := .ref _) rfl T.g_Parts rfl) pa_nil))))
      Gp.pss_never pss_nil)
      (pss_cons (ps_if (PW.pt (pw_or (pt_val (pe_callB (call_isiTE (K := X.K) rfl) (by rfl) T.f_isinstance (by decide +kernel) (pa_cons (pv 1) (pa_cons (pe_tup (pa_cons (pe_glob (v := .ref _) rfl T.g_BadNumber rfl) (pa_cons (pe_glob (v := .ref _) rfl T.g_BadStep rfl) (pa_cons (pe_glob (v := .ref _) rfl T.g_BadForm rfl) pa_nil)))) pa_nil)))) (pw_or (pt_not (pt_val (pe_callB (call_isiZ (K := X.K) rfl) (by rfl) T.f_isinstance (by decide +kernel) (pa_cons (pv 1) (pa_cons (pe_bltn (v := .ty "ValueError") (by rfl) T.f_ValueError (by decide +kernel) rfl) pa_nil))))) (pw_or1 (pt_cmpR (op_neA (K := X.K) rfl hu64) (pe_callB (cr_len (K := X.K) rfl) (by rfl) T.f_len (by decide +kernel) (pa_cons (pv 3) pa_nil)) pe_int (nomark _))))))
      (pss_cons (ps_ret (pe_tup (pa_cons pe_str pa_nil))) pss_nil) pss_nil)
      (pss_cons (ps_ret (pe_ix (ix_seqK (K := X.K) rfl) (pv 3) pe_int (fun _ _ => rfl))) pss_nil))))))))), ?_⟩
  exact heardA (g := ⟨X.K, Tb, p, c⟩) (n := 4) (i := 2) (j := 1) (mrest := fun x => match x with | .err cl fs => (bd (bd (.ok []) fun ds => if ds.length ≤ sizeLine then .ok ds else .bad) fun l_found0 => (bdF (W' := List D) (bd (bd (bd (.ok (.err cl fs)) fun d => bd (opt (isi_BadRest d)) fun k => .ok (.bl k)) asB) fun k => if k = true then (bd (bd (bd (.ok (.str "rest")) fun v5 => (bd (bd (bd (.ok (.err cl fs)) (xaD ["BadLength", "BadRest"] "value")) fun v3 => (bd (.ok []) fun r4 => .ok (v3 :: r4))) fun r6 => .ok (v5 :: r6))) fun ds => if ds.length ≤ sizeLine then .ok (.tup ds) else .bad) fun (v7 : D) => if l_found0.length < sizeLine then (.ok (.nx (l_found0 ++ [v7]))) else .bad) else (.ok (.nx l_found0))) fun (w2 : List D) => (bdF (W' := List D) (bd (bd (bd (.ok (.err cl fs)) fun d => bd (opt (isi_BadLength d)) fun k => .ok (.bl k)) asB) fun k => if k = true then (bd (bd (bd (.ok (.str "length")) fun v11 => (bd (bd (bd (.ok (.err cl fs)) (xaD ["BadLength", "BadRest"] "value")) fun v9 => (bd (.ok []) fun r10 => .ok (v9 :: r10))) fun r12 => .ok (v11 :: r12))) fun ds => if ds.length ≤ sizeLine then .ok (.tup ds) else .bad) fun (v13 : D) => if w2.length < sizeLine then (.ok (.nx (w2 ++ [v13]))) else .bad) else (.ok (.nx w2))) fun (w8 : List D) => (bdF (W' := List D) (bd (bd (bd (.ok (.err cl fs)) fun d => bd (opt (isi_BadSpot d)) fun k => .ok (.bl k)) asB) fun k => if k = true then (bd (bd (bd (.ok (.str "spot")) fun v17 => (bd (bd (bd (.ok (.err cl fs)) (xaD ["BadSpot"] "part")) fun v15 => (bd (.ok []) fun r16 => .ok (v15 :: r16))) fun r18 => .ok (v17 :: r18))) fun ds => if ds.length ≤ sizeLine then .ok (.tup ds) else .bad) fun (v19 : D) => if w8.length < sizeLine then (.ok (.nx (w8 ++ [v19]))) else .bad) else (.ok (.nx w8))) fun (w14 : List D) => (bdF (W' := List D) (bd (bd (bd (.ok (.err cl fs)) fun d => bd (opt (isi_BadText d)) fun k => .ok (.bl k)) asB) fun k => if k = true then .bad else (.ok (.nx w14))) fun (w20 : List D) => (bdF (W' := List D) (bd (bd (bd (.ok (.err cl fs)) fun d => bd (opt (isi_Parts d)) fun k => .ok (.bl k)) asB) fun k => if k = true then .bad else (.ok (.nx w20))) fun (w21 : List D) => (bdF (W' := Unit) (bd (bd (bd (bd (.ok (.err cl fs)) fun d => bd (opt (isi_BadNumber_BadStep_BadForm d)) fun k => .ok (.bl k)) asB) fun k => if k = true then .ok true else (bd (bd (bd (bd (.ok (.err cl fs)) fun d => bd (opt (isi_ValueError d)) fun k => .ok (.bl k)) asB) fun k => .ok (!k)) fun k => if k = true then .ok true else (bd (bd (bd (bd (.ok (.lst w21)) fun v22 => (bd (.ok []) fun r23 => .ok (v22 :: r23))) (ul1 lenD)) fun v24 => (bd (.ok (.int 1)) fun v25 => neD v24 v25)) asB))) fun k => if k = true then (bd (bd (bd (.ok (.str "odd")) fun v27 => (bd (.ok []) fun r28 => .ok (v27 :: r28))) fun ds => if ds.length ≤ sizeLine then .ok (.tup ds) else .bad) fun d => .ok (.rt d)) else (.ok (.nx ()))) fun (w26 : Unit) => (bd (bd (.ok (.lst w21)) fun v29 => (bd (.ok (.int 0)) fun v30 => ixD v29 v30)) fun d => .ok (.rt d))))))))) | _ => .bad) (envU := fun _ => List.replicate 4 .no) (xh := xh__law_heard) (HE := gd "HuntError" X.K) rfl (by decide) (by decide) (by decide) (by decide) (xhT__law_heard T) (fun cl fs => (ss_own (sn_lst sa_nil) (fun l_found0 => (ss_if (fun (w2 : List D) => [.no, .fz (.err cl fs), .no, .ow w2]) (sb_tb (se_isi (.own _) (isT_BadRest T) se_var)) (ss_app (se_tup (sa_cons (se_str (by decide)) (sa_cons (se_xa (xt_value T) se_var) sa_nil))) (fun v7 => (ss_nx (.s (.s (.s (.s .nil))))))) (ss_nx (.s (.s (.s (.s .nil))))) (fun (w2 : List D) => (ss_if (fun (w8 : List D) => [.no, .fz (.err cl fs), .no, .ow w8]) (sb_tb (se_isi (.own _) (isT_BadLength T) se_var)) (ss_app (se_tup (sa_cons (se_str (by decide)) (sa_cons (se_xa (xt_value T) se_var) sa_nil))) (fun v13 => (ss_nx (.s (.s (.s (.s .nil))))))) (ss_nx (.s (.s (.s (.s .nil))))) (fun (w8 : List D) => (ss_if (fun (w14 : List D) => [.no, .fz (.err cl fs), .no, .ow w14]) (sb_tb (se_isi (.own _) (isT_BadSpot T) se_var)) (ss_app (se_tup (sa_cons (se_str (by decide)) (sa_cons (se_xa (xt_part T) se_var) sa_nil))) (fun v19 => (ss_nx (.s (.s (.s (.s .nil))))))) (ss_nx (.s (.s (.s (.s .nil))))) (fun (w14 : List D) => (ss_if (fun (w20 : List D) => [.no, .fz (.err cl fs), .no, .ow w20]) (sb_tb (se_isi (.own _) (isT_BadText T) se_var)) Gp.ss_nev (ss_nx (.s (.s (.s (.s .nil))))) (fun (w20 : List D) => (ss_if (fun (w21 : List D) => [.no, .fz (.err cl fs), .no, .ow w21]) (sb_tb (se_isi (.own _) (isT_Parts T) se_var)) Gp.ss_nev (ss_nx (.s (.s (.s (.s .nil))))) (fun (w21 : List D) => (ss_fz (i := 3) rfl (ss_if (fun (w26 : Unit) => [.no, .fz (.err cl fs), .no, .fz (.lst w21)]) (sb_or (sb_tb (se_isiTE (isT_BadNumber_BadStep_BadForm T) se_var)) (sb_or (sb_not (sb_tb (se_isi (.ty _) (isT_ValueError T) se_var))) (sb_tst (se_op sr_ne (se_cb srl_len (sa_cons se_var sa_nil)) se_int)))) (ss_ret (se_tup (sa_cons (se_str (by decide)) sa_nil))) (ss_nx (.s (.s (.s (.s .nil))))) (fun (w26 : Unit) => (ss_ret (se_op sr_ix se_var se_int)))))))))))))))))) (act_lst hc (code_np wd hc) ha) wd u al
abbrev N__law_place : List Str := ["_law_nook", "_law_n", "_law_place_here", "_law_kind", "_law_index"]
theorem sc__law_place : FnScope N__law_place ["_law_nook", "_law_n"] (defScope s__law_place) := ⟨rfl, rfl, rfl, by decide +kernel, rfl, by decide +kernel, by decide +kernel⟩
def F__law_place (l_nook l_n : D) : Tr D :=
  fin (bd (.ok l_nook) fun d2 => un2 d2 fun l_kind0 l_index0 => (bd (bd (bd (bd (.ok l_kind0) fun v4 => (bd (.ok (.str "front")) fun v5 => eqD v4 v5)) asB) fun k => if k = true then (.ok l_index0) else (bd (bd (.ok l_n) fun v6 => (bd (.ok (.int 1)) fun v7 => subD v6 v7)) fun v8 => (bd (.ok l_index0) fun v9 => subD v8 v9))) fun l_place_here2 => (bdF (W' := D) (bd (bd (bd (.ok l_kind0) fun v10 => (bd (.ok (.str "middle")) fun v11 => eqD v10 v11)) asB) fun k => if k = true then (bd (bd (bd (.ok l_n) fun v14 => (bd (.ok (.int 2)) fun v15 => divD v14 v15)) fun v16 => (bd (.ok l_index0) fun v17 => addD v16 v17)) fun l_place_here12 => (.ok (.nx l_place_here12))) else (.ok (.nx l_place_here2))) fun (w12 : D) => (bd (bd (bd (bd (.ok (.int 0)) fun v18 => (bd (.ok w12) fun v19 => (bd (bd (leD v18 v19) asB) fun k => if k = true then (bd (.ok l_n) fun v20 => ltD v19 v20) else .ok (.bl false)))) asB) fun k => if k = true then (.ok w12) else (.ok .non)) fun d => .ok (.rt d)))))
theorem ok__law_place (F : FnA K d__law_place fd) (T : Tx K mg)  : FnOk P w K mg base CX0 1 (d__law_place.adr K) fd ["_law_nook", "_law_n"] (spF K Tb (ul2 F__law_place)) := by
  refine fnO0 F sc__law_place (fun vs H Q E h => spF_len len2 h) (fun cdv A outer s H vs Q E hr h => ?_)
  refine ⟨_, (pss_cons (ps_asg (pv 0) (pg_tup rfl (pgs_cons (pg_name (i := 3) sc__law_place.nd rfl (.inl rfl)) (pgs_cons (pg_name (i := 4) sc__law_place.nd rfl (.inl rfl)) pgs_nil))))
      (pss_cons (ps_set (i := 2) sc__law_place.nd rfl (.inl rfl) (pe_ifExp (pt_cmpR (op_eqA (K := K) rfl hr.units) (pv 3) pe_str (nomark _)) (pv 4) (pe_op op_sub (pe_op op_sub (pv 1) pe_int) (pv 4))))
      (pss_cons (ps_if (pt_cmpR (op_eqA (K := K) rfl hr.units) (pv 3) pe_str (nomark _))
      (pss_cons (ps_set (i := 2) sc__law_place.nd rfl (.inl rfl) (pe_op (op_addA (K := K) rfl) (pe_op op_fdivW (pv 1) pe_int) (pv 4)))
      pss_nil) pss_nil)
      (pss_cons (ps_ret (pe_ifExp (pt_chain op_le op_lt pe_int (pv 2) (pv 1)) (pv 2) pe_non)) pss_nil)))), ?_⟩
  exact fn_of2 (F := F__law_place) (envU := fun _ => List.replicate 5 .no) h (fun l_nook l_n => rfl) (fun p c l_nook l_n => (ss_unp se_var (fun d2 => sx_tup2 (fun l_kind0 l_index0 => (ss_asg (se_if (sb_tst (se_op sr_eq se_var (se_str (by decide)))) se_var (se_op sr_sub (se_op sr_sub se_var se_int) se_var)) (fun l_place_here2 => (ss_if (fun (w12 : D) => [.fz l_nook, .fz l_n, .fz w12, .fz l_kind0, .fz l_index0]) (sb_tst (se_op sr_eq se_var (se_str (by decide)))) (ss_asg (se_op sr_add (se_op sr_div se_var se_int) se_var) (fun l_place_here12 => (ss_nx (.s (.s (.s (.s (.s .nil)))))))) (ss_nx (.s (.s (.s (.s (.s .nil)))))) (fun (w12 : D) => (ss_ret (se_if (sb_tst (se_chain sr_le sr_lt se_int se_var se_var)) se_var se_non))))))))))
abbrev N__law_spot : List Str := ["_law_pen_here", "_law_most", "_law_kind", "_law_index"]
theorem sc__law_spot : FnScope N__law_spot ["_law_pen_here", "_law_most"] (defScope s__law_spot) := ⟨rfl, rfl, rfl, by decide +kernel, rfl, by decide +kernel, by decide +kernel⟩
def F__law_spot (l_pen_here l_most : D) : Tr D :=
  fin (bd (bd (bd (.ok l_pen_here) fun v10 => (bd (bd (bd (bd (.ok (.str "front")) fun v6 => (bd (bd (.ok (.str "middle")) fun v4 => (bd (bd (.ok (.str "back")) fun v2 => (bd (.ok []) fun r3 => .ok (v2 :: r3))) fun r5 => .ok (v4 :: r5))) fun r7 => .ok (v6 :: r7))) fun ds => if ds.length ≤ sizeLine then .ok (.lst ds) else .bad) fun v8 => (bd (.ok []) fun r9 => .ok (v8 :: r9))) fun r11 => .ok (v10 :: r11))) (ul2 F__law_pick)) fun l_kind0 => (bd (bd (bd (.ok l_pen_here) fun v33 => (bd (bd (bd (bd (.ok (.int 0)) fun v29 => (bd (bd (.ok (.int 1)) fun v27 => (bd (bd (.ok (.int 2)) fun v25 => (bd (bd (.ok (.int 3)) fun v23 => (bd (bd (.ok (.int 5)) fun v21 => (bd (bd (bd (bd (.ok l_pen_here) fun v17 => (bd (bd (bd (.ok l_most) fun v13 => (bd (.ok (.int 1)) fun v14 => addD v13 v14)) fun v15 => (bd (.ok []) fun r16 => .ok (v15 :: r16))) fun r18 => .ok (v17 :: r18))) (ul2 F_draw)) fun v19 => (bd (.ok []) fun r20 => .ok (v19 :: r20))) fun r22 => .ok (v21 :: r22))) fun r24 => .ok (v23 :: r24))) fun r26 => .ok (v25 :: r26))) fun r28 => .ok (v27 :: r28))) fun r30 => .ok (v29 :: r30))) fun ds => if ds.length ≤ sizeLine then .ok (.lst ds) else .bad) fun v31 => (bd (.ok []) fun r32 => .ok (v31 :: r32))) fun r34 => .ok (v33 :: r34))) (ul2 F__law_pick)) fun l_index11 => (bd (bd (bd (.ok l_kind0) fun v47 => (bd (bd (bd (bd (bd (bd (.ok l_kind0) fun v35 => (bd (.ok (.str "middle")) fun v36 => eqD v35 v36)) asB) fun k => if k = true then (bd (bd (bd (bd (.ok l_pen_here) fun v39 => (bd (bd (.ok (.int 2)) fun v37 => (bd (.ok []) fun r38 => .ok (v37 :: r38))) fun r40 => .ok (v39 :: r40))) (ul2 F_draw)) fun v41 => (bd (.ok (.int 0)) fun v42 => eqD v41 v42)) asB) else .ok false) fun k => if k = true then (bd (.ok (.int 0)) fun v43 => (bd (.ok l_index11) fun v44 => subD v43 v44)) else (.ok l_index11)) fun v45 => (bd (.ok []) fun r46 => .ok (v45 :: r46))) fun r48 => .ok (v47 :: r48))) fun ds => if ds.length ≤ sizeLine then .ok (.tup ds) else .bad) fun d => .ok (.rt d))))
theorem ok__law_spot (F : FnA K d__law_spot fd) (T : Tx K mg) (G__law_pick : PromO P w K mg base CX0 2 (gd "_law_pick" K) [] (spF K Tb (ul2 F__law_pick))) (G__law_draw : PromO P w K mg base CX0 1 (gd "_law_draw" K) [] (spF K Tb (ul2 F_draw))) : FnOk P w K mg base CX0 3 (d__law_spot.adr K) fd ["_law_pen_here", "_law_most"] (spF K Tb (ul2 F__law_spot)) := by
  refine fnO0 F sc__law_spot (fun vs H Q E h => spF_len len2 h) (fun cdv A outer s H vs Q E hr h => ?_)
  refine ⟨_, (pss_cons (ps_set (i := 2) sc__law_spot.nd rfl (.inl rfl) (pe_g (PromO.call G__law_pick (hr.mono (by decide)) (passA (E := E))) (by rfl) T.g__law_pick T.k__law_pick (pa_cons (pv 0) (pa_cons (pe_lst (pa_cons pe_str (pa_cons pe_str (pa_cons pe_str pa_nil)))) pa_nil))))
      (pss_cons (ps_set (i := 3) sc__law_spot.nd rfl (.inl rfl) (pe_g (PromO.call G__law_pick (hr.mono (by decide)) (passA (E := E))) (by rfl) T.g__law_pick T.k__law_pick (pa_cons (pv 0) (pa_cons (pe_lst (pa_cons pe_int (pa_cons pe_int (pa_cons pe_int (pa_cons pe_int (pa_cons pe_int (pa_cons (pe_g (PromO.call G__law_draw (hr.mono (by decide)) (passA (E := E))) (by rfl) T.g__law_draw T.k__law_draw (pa_cons (pv 0) (pa_cons (pe_op (op_addA (K := K) rfl) (pv 1) pe_int) pa_nil))) pa_nil))))))) pa_nil))))
      (pss_cons (ps_ret (pe_tup (pa_cons (pv 2) (pa_cons (pe_ifExp (PW.pt (pw_and (pt_cmpR (op_eqA (K := K) rfl hr.units) (pv 2) pe_str (nomark _)) (pw_and1 (pt_cmpR (op_eqA (K := K) rfl hr.units) (pe_g (PromO.call G__law_draw (hr.mono (by decide)) (passA (E := E))) (by rfl) T.g__law_draw T.k__law_draw (pa_cons (pv 0) (pa_cons pe_int pa_nil))) pe_int (nomark _))))) (pe_op op_sub pe_int (pv 3)) (pv 3)) pa_nil)))) pss_nil))), ?_⟩
  exact fn_of2 (F := F__law_spot) (envU := fun _ => List.replicate 4 .no) h (fun l_pen_here l_most => rfl) (fun p c l_pen_here l_most => (ss_asg (se_cl srl_sp0 (sa_cons se_var (sa_cons (se_lst (sa_cons (se_str (by decide)) (sa_cons (se_str (by decide)) (sa_cons (se_str (by decide)) sa_nil)))) sa_nil))) (fun l_kind0 => (ss_asg (se_cl srl_sp0 (sa_cons se_var (sa_cons (se_lst (sa_cons se_int (sa_cons se_int (sa_cons se_int (sa_cons se_int (sa_cons se_int (sa_cons (se_cl srl_sp0 (sa_cons se_var (sa_cons (se_op sr_add se_var se_int) sa_nil))) sa_nil))))))) sa_nil))) (fun l_index11 => (ss_ret (se_tup (sa_cons se_var (sa_cons (se_if (sb_and (sb_tst (se_op sr_eq se_var (se_str (by decide)))) (sb_tst (se_op sr_eq (se_cl srl_sp0 (sa_cons se_var (sa_cons se_int sa_nil))) se_int))) (se_op sr_sub se_int se_var) se_var) sa_nil)))))))))
abbrev N__law_real : List Str := ["_law_nook"]
theorem sc__law_real : FnScope N__law_real ["_law_nook"] (defScope s__law_real) := ⟨rfl, rfl, rfl, by decide +kernel, rfl, by decide +kernel, by decide +kernel⟩
def F__law_real (l_nook : D) : Tr D :=
  fin (bd (nox (bd (bd (bd (.ok l_nook) fun v1 => (bd (.ok (.int 0)) fun v2 => ixD v1 v2)) fun v7 => (bd (bd (bd (.ok l_nook) fun v3 => (bd (.ok (.int 1)) fun v4 => ixD v3 v4)) fun v5 => (bd (.ok []) fun r6 => .ok (v5 :: r6))) fun r8 => .ok (v7 :: r8))) (fun ds => bd ((fun fs => ul2 (F_Spot___init__ fs)) [] ds) fun fs => .ok (.obj "Spot" fs)))) fun d => .ok (.rt d))
theorem ok__law_real (F : FnA K d__law_real fd) (T : Tx K mg) (G_Spot___init__ : PromO P w K mg base (L2.CX P w) 3 (md "Spot" "__init__" K) [] (spI K Tb "Spot" (fun fs => ul2 (F_Spot___init__ fs)))) : FnOk P w K mg base CX0 5 (d__law_real.adr K) fd ["_law_nook"] (spF K Tb (ul1 F__law_real)) := by
  refine fnO0 F sc__law_real (fun vs H Q E h => spF_len len1 h) (fun cdv A outer s H vs Q E hr h => ?_)
  refine ⟨_, (pss_cons (ps_ret (pe_g (PromO.make T.mk_Spot G_Spot___init__ (hr.mono (by decide)) passF) (by rfl) T.g_Spot T.k_Spot (pa_cons (pe_ix (ix_seqK (K := K) rfl) (pv 0) pe_int (fun _ _ => rfl)) (pa_cons (pe_ix (ix_seqK (K := K) rfl) (pv 0) pe_int (fun _ _ => rfl)) pa_nil)))) pss_nil), ?_⟩
  exact fn_of1 (F := F__law_real) (envU := fun _ => List.replicate 1 .no) h (fun l_nook => rfl) (fun p c l_nook => (ss_ret (se_nox (se_cl srl_mk0 (sa_cons (se_op sr_ix se_var se_int) (sa_cons (se_op sr_ix se_var se_int) sa_nil))))))
abbrev N__law_length : List Str := ["_law_pen_here", "_law_far"]
theorem sc__law_length : FnScope N__law_length ["_law_pen_here"] (defScope s__law_length) := ⟨rfl, rfl, rfl, by decide +kernel, rfl, by decide +kernel, by decide +kernel⟩
def F__law_length (l_pen_here : D) : Tr D :=
  fin (bd (bd (.ok (.int 1000000000000000000000000000000)) fun v6 => (bd (bd (bd (.ok l_pen_here) fun v4 => (bd (bd (.ok (.int 1000000000)) fun v2 => (bd (.ok []) fun r3 => .ok (v2 :: r3))) fun r5 => .ok (v4 :: r5))) (ul2 F_draw)) fun v7 => addD v6 v7)) fun l_far0 => (bd (bd (.ok (.int 1)) fun v30 => (bd (bd (bd (.ok l_pen_here) fun v28 => (bd (bd (bd (bd (bd (bd (.ok l_pen_here) fun v10 => (bd (bd (.ok (.int 12)) fun v8 => (bd (.ok []) fun r9 => .ok (v8 :: r9))) fun r11 => .ok (v10 :: r11))) (ul2 F_draw)) fun v24 => (bd (bd (bd (bd (.ok l_pen_here) fun v14 => (bd (bd (.ok (.int 900)) fun v12 => (bd (.ok []) fun r13 => .ok (v12 :: r13))) fun r15 => .ok (v14 :: r15))) (ul2 F_draw)) fun v22 => (bd (bd (.ok l_far0) fun v20 => (bd (bd (bd (.ok (.int 10000000000000000000000000000000000000000)) fun v16 => (bd (.ok (.int 1)) fun v17 => subD v16 v17)) fun v18 => (bd (.ok []) fun r19 => .ok (v18 :: r19))) fun r21 => .ok (v20 :: r21))) fun r23 => .ok (v22 :: r23))) fun r25 => .ok (v24 :: r25))) fun ds => if ds.length ≤ sizeLine then .ok (.lst ds) else .bad) fun v26 => (bd (.ok []) fun r27 => .ok (v26 :: r27))) fun r29 => .ok (v28 :: r29))) (ul2 F__law_pick)) fun v31 => addD v30 v31)) fun d => .ok (.rt d)))
theorem ok__law_length (F : FnA K d__law_length fd) (T : Tx K mg) (G__law_draw : PromO P w K mg base CX0 1 (gd "_law_draw" K) [] (spF K Tb (ul2 F_draw))) (G__law_pick : PromO P w K mg base CX0 2 (gd "_law_pick" K) [] (spF K Tb (ul2 F__law_pick))) : FnOk P w K mg base CX0 3 (d__law_length.adr K) fd ["_law_pen_here"] (spF K Tb (ul1 F__law_length)) := by
  refine fnO0 F sc__law_length (fun vs H Q E h => spF_len len1 h) (fun cdv A outer s H vs Q E hr h => ?_)
  refine ⟨_, (pss_cons (ps_set (i := 1) sc__law_length.nd rfl (.inl rfl) (pe_op (op_addA (K := K) rfl) (pe_op (op_powK 1000000000000000000000000000000) pe_int pe_int) (pe_g (PromO.call G__law_draw (hr.mono (by decide)) (passA (E := E))) (by rfl) T.g__law_draw T.k__law_draw (pa_cons (pv 0) (pa_cons (pe_op (op_powK 1000000000) pe_int pe_int) pa_nil)))))
      (pss_cons (ps_ret (pe_op (op_addA (K := K) rfl) pe_int (pe_g (PromO.call G__law_pick (hr.mono (by decide)) (passA (E := E))) (by rfl) T.g__law_pick T.k__law_pick (pa_cons (pv 0) (pa_cons (pe_lst (pa_cons (pe_g (PromO.call G__law_draw (hr.mono (by decide)) (passA (E := E))) (by rfl) T.g__law_draw T.k__law_draw (pa_cons (pv 0) (pa_cons pe_int pa_nil))) (pa_cons (pe_g (PromO.call G__law_draw (hr.mono (by decide)) (passA (E := E))) (by rfl) T.g__law_draw T.k__law_draw (pa_cons (pv 0) (pa_cons pe_int pa_nil))) (pa_cons (pv 1) (pa_cons (pe_op op_sub (pe_op (op_powK 10000000000000000000000000000000000000000) pe_int pe_int) pe_int) pa_nil))))) pa_nil))))) pss_nil)), ?_⟩
  exact fn_of1 (F := F__law_length) (envU := fun _ => List.replicate 2 .no) h (fun l_pen_here => rfl) (fun p c l_pen_here => (ss_asg (se_op sr_add (se_powK (by decide) (by decide) (by decide)) (se_cl srl_sp0 (sa_cons se_var (sa_cons (se_powK (by decide) (by decide) (by decide)) sa_nil)))) (fun l_far0 => (ss_ret (se_op sr_add se_int (se_cl srl_sp0 (sa_cons se_var (sa_cons (se_lst (sa_cons (se_cl srl_sp0 (sa_cons se_var (sa_cons se_int sa_nil))) (sa_cons (se_cl srl_sp0 (sa_cons se_var (sa_cons se_int sa_nil))) (sa_cons se_var (sa_cons (se_op sr_sub (se_powK (by decide) (by decide) (by decide)) se_int) sa_nil))))) sa_nil))))))))
end
end Lw
end
section
set_option Elab.async false
set_option linter.all false
set_option maxRecDepth 100000
set_option maxHeartbeats 4000000
set_option pp.maxSteps 600
namespace Lw
open PySem PySem.Spec PyProof.Rows L2 Gh Gp Gz
section
variable {P : Program} {w : World} {K : PySem.W.Frag} {mg : Str → Option Value} {base : Heap} {f : Addr} {fd : FuncData} {Tb : List (Addr × Str)}
abbrev N__law_moved_right : List Str := ["_law_nook", "_law_k", "_law_real_here", "_law_far", "_law_is_there", "_law_both", "_law_found"]
theorem sc__law_moved_right : FnScope N__law_moved_right ["_law_nook", "_law_k"] (defScope s__law_moved_right) := ⟨rfl, rfl, rfl, by decide +kernel, rfl, by decide +kernel, by decide +kernel⟩
def F__law_moved_right (l_nook l_k : D) : Tr D :=
  fin (bd (bd (bd (.ok l_nook) fun v2 => (bd (.ok []) fun r3 => .ok (v2 :: r3))) (ul1 F__law_real)) fun l_real_here0 => (bd (bd (bd (bd (bd (.ok l_nook) fun v5 => (bd (.ok (.int 0)) fun v6 => ixD v5 v6)) fun v7 => (bd (.ok (.str "back")) fun v8 => eqD v7 v8)) asB) fun k => if k = true then (bd (bd (.ok l_nook) fun v9 => (bd (.ok (.int 1)) fun v10 => ixD v9 v10)) fun v11 => (bd (.ok l_k) fun v12 => subD v11 v12)) else (bd (bd (.ok l_nook) fun v13 => (bd (.ok (.int 1)) fun v14 => ixD v13 v14)) fun v15 => (bd (.ok l_k) fun v16 => addD v15 v16))) fun l_far3 => (bd (bd (bd (bd (bd (.ok l_nook) fun v18 => (bd (.ok (.int 0)) fun v19 => ixD v18 v19)) fun v20 => (bd (.ok (.str "middle")) fun v21 => eqD v20 v21)) asB) fun k => if k = true then (bd (bd (.ok (.int 400)) negD) fun v22 => (bd (.ok l_far3) fun v23 => (bd (bd (leD v22 v23) asB) fun k => if k = true then (bd (.ok (.int 400)) fun v24 => leD v23 v24) else .ok (.bl false)))) else (bd (.ok (.int 0)) fun v25 => (bd (.ok l_far3) fun v26 => (bd (bd (leD v25 v26) asB) fun k => if k = true then (bd (.ok (.int 400)) fun v27 => leD v26 v27) else .ok (.bl false))))) fun l_is_there16 => (bd (bd (bd (nox (F__law_heard (bd (.ok l_real_here0) fun v31 => (bd (.ok l_k) fun v32 => binOI "Spot" (ul2 F_Spot___add__) v31 v32)))) fun v33 => (bd (.ok []) fun r34 => .ok (v33 :: r34))) fun ds => if ds.length ≤ sizeLine then .ok ds else .bad) fun l_both27 => (bd (nox (F__law_heard (bd (.ok l_real_here0) fun v39 => (bd (bd (.ok (.int 0)) fun v35 => (bd (.ok l_k) fun v36 => subD v35 v36)) fun v40 => binOI "Spot" (ul2 F_Spot___sub__) v39 v40)))) fun (v41 : D) => if l_both27.length < sizeLine then (bdF (bd (bd (.ok (.lst (l_both27 ++ [v41]))) itD) fun ds => forF (fun (d43 : D) (w42 : Unit) => (bdF (W' := Unit) (bd (bd (bd (bd (.ok l_is_there16) asB) fun k => .ok (!k)) fun k => if k = true then (bd (bd (.ok d43) fun v49 => (bd (bd (bd (.ok (.str "spot")) fun v47 => (bd (bd (.ok (.str "number")) fun v45 => (bd (.ok []) fun r46 => .ok (v45 :: r46))) fun r48 => .ok (v47 :: r48))) fun ds => if ds.length ≤ sizeLine then .ok (.tup ds) else .bad) fun v50 => neD v49 v50)) asB) else .ok false) fun k => if k = true then (bd (.ok (.bl false)) fun d => .ok (.rt d)) else (.ok (.nx ()))) fun (w51 : Unit) => (bdF (W' := Unit) (bd (bd (bd (.ok l_is_there16) asB) fun k => if k = true then (bd (bd (bd (bd (nox (bd (bd (.ok d43) fun v52 => (bd (.ok (.int 0)) fun v53 => ixD v52 v53)) fun o54 => (isO "Spot" o54 fun _ => (ul1 F_Spot_kind) [o54]))) fun v59 => (bd (bd (bd (bd (.ok d43) fun v55 => (bd (.ok (.int 0)) fun v56 => ixD v55 v56)) (fldD "Spot" "number")) fun v57 => (bd (.ok []) fun r58 => .ok (v57 :: r58))) fun r60 => .ok (v59 :: r60))) fun ds => if ds.length ≤ sizeLine then .ok (.tup ds) else .bad) fun v67 => (bd (bd (bd (bd (.ok l_nook) fun v61 => (bd (.ok (.int 0)) fun v62 => ixD v61 v62)) fun v65 => (bd (bd (.ok l_far3) fun v63 => (bd (.ok []) fun r64 => .ok (v63 :: r64))) fun r66 => .ok (v65 :: r66))) fun ds => if ds.length ≤ sizeLine then .ok (.tup ds) else .bad) fun v68 => neD v67 v68)) asB) else .ok false) fun k => if k = true then (bd (.ok (.bl false)) fun d => .ok (.rt d)) else (.ok (.nx ()))) fun (w69 : Unit) => (.ok (.nx ()))))) ds ()) fun (w42 : Unit) => (bd (bd (bd (bd (nox (bd (.ok l_real_here0) fun o70 => (isO "Spot" o70 fun _ => (ul1 F_Spot_kind) [o70]))) fun v73 => (bd (bd (bd (.ok l_real_here0) (fldD "Spot" "number")) fun v71 => (bd (.ok []) fun r72 => .ok (v71 :: r72))) fun r74 => .ok (v73 :: r74))) fun ds => if ds.length ≤ sizeLine then .ok (.tup ds) else .bad) fun v75 => (bd (.ok l_nook) fun v76 => eqD v75 v76)) fun d => .ok (.rt d))) else .bad)))))
theorem ok__law_moved_right (F : FnA K d__law_moved_right fd) (T : Tx K mg) (G__law_real : PromO P w K mg base CX0 5 (gd "_law_real" K) [] (spF K Tb (ul1 F__law_real))) (GH__law_heard : HrdP K d__law_heard ["_law_ask"]) (LD__law_moved_right : LamD base mg K Tb d__law_moved_right ("_law_moved_right", none)) (G_Spot___add__ : PromO P w K mg base (L2.CX P w) 5 (md "Spot" "__add__" K) [] (spF K Tb (ul2 F_Spot___add__))) (G_Spot___sub__ : PromO P w K mg base (L2.CX P w) 5 (md "Spot" "__sub__" K) [] (spF K Tb (ul2 F_Spot___sub__))) (G_Spot_kind : PromO P w K mg base CX0 1 (propG "Spot" "kind" K) [] (spF K Tb (ul1 F_Spot_kind))) : FnG P w K mg base CX0 8 (d__law_moved_right.adr K) fd ["_law_nook", "_law_k"] (spF K Tb (ul2 F__law_moved_right)) := by
  obtain ⟨fdH, FH, hbH⟩ := GH__law_heard
  obtain ⟨ocH, odH, dVH, kVH, docH, pmH, anH, cdvH, ctH, oslH, rfl, lkH, hcH, _, _⟩ := FH.ex
  have ecode : fd.code = .ref (He.cT K ("_law_moved_right", none)).1 := codeOf_fn (p := ("_law_moved_right", none)) F
  refine fnG1 F sc__law_moved_right (fun vs H Q E h => spF_len len2 h) (fun cdv A outer s H vs Q E hcdv hr hg h => ?_)
  have hcode : cdv = .ref (He.cT K ("_law_moved_right", none)).1 := hcdv.trans ecode
  have hu100 := Nat.lt_of_le_of_lt (Nat.add_le_add_left (show 102 ≤ 16 * 7 + 200 by decide) _) (show _ + (16 * 7 + 200) < cLine from hr.un)
  refine ⟨_, (pss_cons (ps_set (i := 2) sc__law_moved_right.nd rfl (.inr rfl) (pe_g (PromO.call G__law_real (hr.mono (by decide)) (passA (E := E))) (by rfl) T.g__law_real T.k__law_real (pa_cons (pv 0) pa_nil)))
      (pss_cons (ps_set (i := 3) sc__law_moved_right.nd rfl (.inl rfl) (pe_ifExp (pt_cmpR (op_eqA (K := K) rfl hr.units) (pe_ix (ix_seqK (K := K) rfl) (pv 0) pe_int (fun _ _ => rfl)) pe_str (nomark _)) (pe_op op_sub (pe_ix (ix_seqK (K := K) rfl) (pv 0) pe_int (fun _ _ => rfl)) (pv 1)) (pe_op (op_addA (K := K) rfl) (pe_ix (ix_seqK (K := K) rfl) (pv 0) pe_int (fun _ _ => rfl)) (pv 1))))
      (pss_cons (ps_set (i := 4) sc__law_moved_right.nd rfl (.inl rfl) (pe_ifExp (pt_cmpR (op_eqA (K := K) rfl hr.units) (pe_ix (ix_seqK (K := K) rfl) (pv 0) pe_int (fun _ _ => rfl)) pe_str (nomark _)) (pe_chain op_le op_le (pe_un un_neg pe_int) (pv 3) pe_int) (pe_chain op_le op_le pe_int (pv 3) pe_int)))
      (pss_cons (ps_set (i := 5) sc__law_moved_right.nd rfl (.inl rfl) (pe_lst (pa_cons (LamX.pe_lamcall (T := Tb) (k := 5) (by rfl) T.g__law_heard T.k__law_heard lkH hcH hbH sc__law_heard rfl (.inl rfl) (ok__law_heard (Tb := Tb) T (Nat.lt_of_le_of_lt (Nat.add_le_add_left (show 105 ≤ 16 * 7 + 200 by decide) _) (show _ + (16 * 7 + 200) < cLine from hr.un)) hg) LD__law_moved_right.tb hcode LD__law_moved_right.mem LD__law_moved_right.hu (hr.mono (by decide)) (LamX.lamS_by (by show LamX.lamSB (defScope s__law_moved_right) _ = true; decide +kernel)) rfl (fun _ _ _ _ _ => rfl) (fun A outer s H E f c' hr => (pe_op (op_binI T.ow_Spot.first T.mt_Spot___add__.at_ T.mt_Spot___add__.fn T.op_Spot_Add.rc.choose_spec.1 T.op_Spot_Add.rc.choose_spec.2 T.op_Spot_Add.fo.choose_spec T.op_Spot_Add.ro.choose_spec T.ow_Spot.sub (PromO.call G_Spot___add__ (hr.mono (by decide)) (pass_on rfl rfl rfl rfl))) (pv 2) (pv 1)))) pa_nil)))
      (pss_cons (ps_expr (pe_bm PySem.F.plainAttrs_list PySem.F.slot_list_append PySem.F.type_list_append mt_append (pv 5) (pa_cons (LamX.pe_lamcall (T := Tb) (k := 5) (by rfl) T.g__law_heard T.k__law_heard lkH hcH hbH sc__law_heard rfl (.inl rfl) (ok__law_heard (Tb := Tb) T (Nat.lt_of_le_of_lt (Nat.add_le_add_left (show 105 ≤ 16 * 7 + 200 by decide) _) (show _ + (16 * 7 + 200) < cLine from hr.un)) hg) LD__law_moved_right.tb hcode LD__law_moved_right.mem LD__law_moved_right.hu (hr.mono (by decide)) (LamX.lamS_by (by show LamX.lamSB (defScope s__law_moved_right) _ = true; decide +kernel)) rfl (fun _ _ _ _ _ => rfl) (fun A outer s H E f c' hr => (pe_op (op_binI T.ow_Spot.first T.mt_Spot___sub__.at_ T.mt_Spot___sub__.fn T.op_Spot_Sub.rc.choose_spec.1 T.op_Spot_Sub.rc.choose_spec.2 T.op_Spot_Sub.fo.choose_spec T.op_Spot_Sub.ro.choose_spec T.ow_Spot.sub (PromO.call G_Spot___sub__ (hr.mono (by decide)) (pass_on rfl rfl rfl rfl))) (pv 2) (pe_op op_sub pe_int (pv 1))))) pa_nil)))
      (pss_cons (ps_for PassesOwn.never rfl (pi_seq (K := K) rfl (pv 5)) (pg_name (i := 6) sc__law_moved_right.nd rfl (.inl rfl))
      (pss_cons (ps_if (PW.pt (pw_and (pt_not (pt_val (pv 4))) (pw_and1 (pt_cmpR (op_neA (K := K) rfl hr.units) (pv 6) (pe_tup (pa_cons pe_str (pa_cons pe_str pa_nil))) (nomark _)))))
      (pss_cons (ps_ret pe_bl) pss_nil) pss_nil)
      (pss_cons (ps_if (PW.pt (pw_and (pt_val (pv 4)) (pw_and1 (pt_cmpR (op_neA (K := K) rfl hr.units) (pe_tup (pa_cons (pe_po (pe_ix (ix_seqK (K := K) rfl) (pv 6) pe_int (fun _ _ => rfl)) T.cl_Spot T.pr_Spot_kind G_Spot_kind (hr.mono (by decide)) (passA (E := EF))) (pa_cons (pe_f (pe_ix (ix_seqK (K := K) rfl) (pv 6) pe_int (fun _ _ => rfl)) T.cl_Spot T.n_Spot_number) pa_nil))) (pe_tup (pa_cons (pe_ix (ix_seqK (K := K) rfl) (pv 0) pe_int (fun _ _ => rfl)) (pa_cons (pv 3) pa_nil))) (nomark _)))))
      (pss_cons (ps_ret pe_bl) pss_nil) pss_nil)
      pss_nil)))
      (pss_cons (ps_ret (pe_cmpR (op_eqA (K := K) rfl hr.units) (pe_tup (pa_cons (pe_po (pv 2) T.cl_Spot T.pr_Spot_kind G_Spot_kind (hr.mono (by decide)) (passA (E := EF))) (pa_cons (pe_f (pv 2) T.cl_Spot T.n_Spot_number) pa_nil))) (pv 0) (nomark _))) pss_nil))))))), ?_⟩
  exact fn_of2 (F := F__law_moved_right) (envU := fun _ => List.replicate 7 .no) h (fun l_nook l_k => rfl) (fun p c l_nook l_k => (ss_asg (se_cl srl_sp0 (sa_cons se_var sa_nil)) (fun l_real_here0 => (ss_asg (se_if (sb_tst (se_op sr_eq (se_op sr_ix se_var se_int) (se_str (by decide)))) (se_op sr_sub (se_op sr_ix se_var se_int) se_var) (se_op sr_add (se_op sr_ix se_var se_int) se_var)) (fun l_far3 => (ss_asg (se_if (sb_tst (se_op sr_eq (se_op sr_ix se_var se_int) (se_str (by decide)))) (se_chain sr_le sr_le (se_un sr_neg se_int) se_var se_int) (se_chain sr_le sr_le se_int se_var se_int)) (fun l_is_there16 => (ss_own (sn_lst (sa_cons (se_lam fun E => (se_op (sr_binI srl_sp0) se_var se_var)) sa_nil)) (fun l_both27 => (ss_app (se_lam fun E => (se_op (sr_binI srl_sp0) se_var (se_op sr_sub se_int se_var))) (fun v41 => (ss_fz (i := 5) rfl (ss_for (fun (w42 : Unit) => [.fz l_nook, .fz l_k, .fz l_real_here0, .fz l_far3, .fz l_is_there16, .fz (.lst (l_both27 ++ [v41])), .no]) (si_seq se_var) (.s (.s (.s (.s (.s (.s (.s .nil))))))) (fun (d43 : D) (w42 : Unit) => (sx_name (ss_if (fun (w51 : Unit) => [.fz l_nook, .fz l_k, .fz l_real_here0, .fz l_far3, .fz l_is_there16, .fz (.lst (l_both27 ++ [v41])), .fz d43]) (sb_and (sb_not (sb_tb se_var)) (sb_tst (se_op sr_ne se_var (se_tup (sa_cons (se_str (by decide)) (sa_cons (se_str (by decide)) sa_nil)))))) (ss_ret se_bl) (ss_nx (.s (.s (.s (.s (.s (.s (.s .nil)))))))) (fun (w51 : Unit) => (ss_if (fun (w69 : Unit) => [.fz l_nook, .fz l_k, .fz l_real_here0, .fz l_far3, .fz l_is_there16, .fz (.lst (l_both27 ++ [v41])), .fz d43]) (sb_and (sb_tb se_var) (sb_tst (se_op sr_ne (se_tup (sa_cons (se_nox (se_pr (se_op sr_ix se_var se_int))) (sa_cons (se_un sr_fld (se_op sr_ix se_var se_int)) sa_nil))) (se_tup (sa_cons (se_op sr_ix se_var se_int) (sa_cons se_var sa_nil)))))) (ss_ret se_bl) (ss_nx (.s (.s (.s (.s (.s (.s (.s .nil)))))))) (fun (w69 : Unit) => (ss_nx (.s (.s (.s (.s (.s (.s (.n .nil)))))))))))))) (fun (w42 : Unit) => (ss_ret (se_op sr_eq (se_tup (sa_cons (se_nox (se_pr se_var)) (sa_cons (se_un sr_fld se_var) sa_nil))) se_var))))))))))))))))
abbrev N__law_turned_right : List Str := ["_law_nook", "_law_n", "_law_rest_so", "_law_heard_here", "_law_again", "_law_due", "_law_real_here", "_law_place_here"]
theorem sc__law_turned_right : FnScope N__law_turned_right ["_law_nook", "_law_n"] (defScope s__law_turned_right) := ⟨rfl, rfl, rfl, by decide +kernel, rfl, by decide +kernel, by decide +kernel⟩
def F__law_turned_right (l_nook l_n : D) : Tr D :=
  fin (bd (bd (bd (bd (.ok l_n) fun v2 => (bd (.ok []) fun r3 => .ok (v2 :: r3))) (ul1 intD)) fun v4 => (bd (.ok (.int 4)) fun v5 => modD v4 v5)) fun l_rest_so0 => (bd (bd (bd (bd (bd (.ok l_nook) fun v6 => (bd (.ok []) fun r7 => .ok (v6 :: r7))) (ul1 F__law_real)) fun v14 => (bd (bd (bd (bd (.ok l_nook) fun v10 => (bd (bd (.ok l_n) fun v8 => (bd (.ok []) fun r9 => .ok (v8 :: r9))) fun r11 => .ok (v10 :: r11))) (ul2 F__law_place)) fun v12 => (bd (.ok []) fun r13 => .ok (v12 :: r13))) fun r15 => .ok (v14 :: r15))) fun ds => if ds.length ≤ sizeLine then .ok (.tup ds) else .bad) fun d17 => un2 d17 fun l_real_here15 l_place_here15 => (bd (nox (F__law_heard (bd (.ok l_real_here15) fun o21 => (isO "Spot" o21 fun fs => if fs.lookup ("turned" : Str) = none then bd (bd (.ok l_rest_so0) fun v19 => (bd (.ok []) fun r20 => .ok (v19 :: r20))) fun ds => (ul2 F_Spot_turned) (o21 :: ds) else .bad)))) fun l_heard_here17 => (bdF (W' := Unit) (bd (bd (bd (bd (bd (.ok l_nook) fun v22 => (bd (.ok (.int 0)) fun v23 => ixD v22 v23)) fun v24 => (bd (.ok (.str "middle")) fun v25 => eqD v24 v25)) asB) fun k => if k = true then (bd (bd (bd (bd (.ok l_nook) fun v26 => (bd (.ok (.int 1)) fun v27 => ixD v26 v27)) fun v28 => (bd (.ok (.int 400)) fun v29 => eqD v28 v29)) asB) fun k => if k = true then (bd (bd (bd (bd (bd (.ok l_rest_so0) fun v30 => (bd (.ok []) fun r31 => .ok (v30 :: r31))) (ul1 intD)) fun v32 => (bd (.ok (.int 2)) fun v33 => modD v32 v33)) fun v34 => (bd (.ok (.int 0)) fun v35 => eqD v34 v35)) asB) else .ok false) else .ok false) fun k => if k = true then (bd (bd (.ok l_heard_here17) fun v41 => (bd (bd (bd (.ok (.str "spot")) fun v39 => (bd (bd (.ok (.str "number")) fun v37 => (bd (.ok []) fun r38 => .ok (v37 :: r38))) fun r40 => .ok (v39 :: r40))) fun ds => if ds.length ≤ sizeLine then .ok (.tup ds) else .bad) fun v42 => eqD v41 v42)) fun d => .ok (.rt d)) else (.ok (.nx ()))) fun (w36 : Unit) => (bdF (W' := Unit) (bd (bd (bd (bd (.ok l_heard_here17) fun d => bd (opt (isi_list d)) fun k => .ok (.bl k)) asB) fun k => .ok (!k)) fun k => if k = true then (bd (.ok (.bl false)) fun d => .ok (.rt d)) else (.ok (.nx ()))) fun (w43 : Unit) => (bd (nox (bd (bd (.ok l_heard_here17) fun v45 => (bd (.ok (.int 0)) fun v46 => ixD v45 v46)) fun o49 => (isO "Spot" o49 fun fs => if fs.lookup ("turned" : Str) = none then bd (.ok []) fun ds => bd (bd (.ok l_rest_so0) fun v47 => (bd (.ok []) fun r48 => .ok (v47 :: r48))) fun es => (kwD 1 1 [.inl 0] [] (ul2 F_Spot_turned)) (o49 :: ds) es else .bad))) fun l_again43 => (bd (bd (bd (bd (.ok l_place_here15) fun (v51 : D) => (bd (.ok .non) fun (v52 : D) => (match v52 with | .non => .ok (.bl (isN v51)) | _ => .bad))) asB) fun k => if k = true then (.ok .non) else (bd (bd (.ok l_n) fun v53 => (bd (.ok (.int 1)) fun v54 => subD v53 v54)) fun v55 => (bd (.ok l_place_here15) fun v56 => subD v55 v56))) fun l_due49 => (bd (bd (bd (bd (nox (bd (bd (.ok l_heard_here17) fun v57 => (bd (.ok (.int 0)) fun v58 => ixD v57 v58)) fun o61 => (isO "Spot" o61 fun _ => bd (bd (.ok l_n) fun v59 => (bd (.ok []) fun r60 => .ok (v59 :: r60))) fun ds => (ul2 F_Spot___call__) (o61 :: ds)))) fun v62 => (bd (.ok l_due49) fun v63 => eqD v62 v63)) asB) fun k => if k = true then (bd (.ok l_again43) fun v64 => (bd (.ok l_real_here15) fun v65 => eqO "Spot" eqr_Spot (ul2 F_Spot___eq__) v64 v65)) else .ok (.bl false)) fun d => .ok (.rt d)))))))))
theorem ok__law_turned_right (F : FnA K d__law_turned_right fd) (T : Tx K mg) (G__law_real : PromO P w K mg base CX0 5 (gd "_law_real" K) [] (spF K Tb (ul1 F__law_real))) (G__law_place : PromO P w K mg base CX0 1 (gd "_law_place" K) [] (spF K Tb (ul2 F__law_place))) (GH__law_heard : HrdP K d__law_heard ["_law_ask"]) (LD__law_turned_right : LamD base mg K Tb d__law_turned_right ("_law_turned_right", none)) (G_Spot_turned : PromO P w K mg base (L2.CX P w) 5 (md "Spot" "turned" K) [] (spF K Tb (ul2 F_Spot_turned))) (GK_Spot_turned_1_rest : PromK P w K mg base (L2.CX P w) 5 (md "Spot" "turned" K) 1 ["rest"] (fun vs zs => vs ++ picks [.inl 0] [] zs) (spF K Tb (ul2 F_Spot_turned))) (G_Spot___call__ : PromO P w K mg base (L2.CX P w) 5 (md "Spot" "__call__" K) [] (spF K Tb (ul2 F_Spot___call__))) (G_Spot___eq__ : PromO P w K mg base CX0 1 (md "Spot" "__eq__" K) [] (spF K Tb (ul2 F_Spot___eq__))) : FnG P w K mg base CX0 8 (d__law_turned_right.adr K) fd ["_law_nook", "_law_n"] (spF K Tb (ul2 F__law_turned_right)) := by
  obtain ⟨fdH, FH, hbH⟩ := GH__law_heard
  obtain ⟨ocH, odH, dVH, kVH, docH, pmH, anH, cdvH, ctH, oslH, rfl, lkH, hcH, _, _⟩ := FH.ex
  have ecode : fd.code = .ref (He.cT K ("_law_turned_right", none)).1 := codeOf_fn (p := ("_law_turned_right", none)) F
  refine fnG1 F sc__law_turned_right (fun vs H Q E h => spF_len len2 h) (fun cdv A outer s H vs Q E hcdv hr hg h => ?_)
  have hcode : cdv = .ref (He.cT K ("_law_turned_right", none)).1 := hcdv.trans ecode
  have hu100 := Nat.lt_of_le_of_lt (Nat.add_le_add_left (show 102 ≤ 16 * 7 + 200 by decide) _) (show _ + (16 * 7 + 200) < cLine from hr.un)
  refine ⟨_, (pss_cons (ps_set (i := 2) sc__law_turned_right.nd rfl (.inr rfl) (pe_op op_mod (pe_callTy cr_int (by rfl) T.f_int (by decide +kernel) (pa_cons (pv 1) pa_nil)) pe_int))
      (pss_cons (ps_asg (pe_tup (pa_cons (pe_g (PromO.call G__law_real (hr.mono (by decide)) (passA (E := E))) (by rfl) T.g__law_real T.k__law_real (pa_cons (pv 0) pa_nil)) (pa_cons (pe_g (PromO.call G__law_place (hr.mono (by decide)) (passA (E := E))) (by rfl) T.g__law_place T.k__law_place (pa_cons (pv 0) (pa_cons (pv 1) pa_nil))) pa_nil))) (pg_tup rfl (pgs_cons (pg_name (i := 6) sc__law_turned_right.nd rfl (.inr rfl)) (pgs_cons (pg_name (i := 7) sc__law_turned_right.nd rfl (.inl rfl)) pgs_nil))))
      (pss_cons (ps_set (i := 3) sc__law_turned_right.nd rfl (.inl rfl) (LamX.pe_lamcall (T := Tb) (k := 5) (by rfl) T.g__law_heard T.k__law_heard lkH hcH hbH sc__law_heard rfl (.inl rfl) (ok__law_heard (Tb := Tb) T (Nat.lt_of_le_of_lt (Nat.add_le_add_left (show 105 ≤ 16 * 7 + 200 by decide) _) (show _ + (16 * 7 + 200) < cLine from hr.un)) hg) LD__law_turned_right.tb hcode LD__law_turned_right.mem LD__law_turned_right.hu (hr.mono (by decide)) (LamX.lamS_by (by show LamX.lamSB (defScope s__law_turned_right) _ = true; decide +kernel)) rfl (fun _ _ _ _ _ => rfl) (fun A outer s H E f c' hr => (pe_m (pv 6) T.cl_Spot T.mt_Spot_turned (PromO.call G_Spot_turned (hr.mono (by decide)) (pass_on rfl rfl rfl rfl)) (pa_cons (pv 2) pa_nil)))))
      (pss_cons (ps_if (PW.pt (pw_and (pt_cmpR (op_eqA (K := K) rfl hr.units) (pe_ix (ix_seqK (K := K) rfl) (pv 0) pe_int (fun _ _ => rfl)) pe_str (nomark _)) (pw_and (pt_cmpR (op_eqA (K := K) rfl hr.units) (pe_ix (ix_seqK (K := K) rfl) (pv 0) pe_int (fun _ _ => rfl)) pe_int (nomark _)) (pw_and1 (pt_cmpR (op_eqA (K := K) rfl hr.units) (pe_op op_mod (pe_callTy cr_int (by rfl) T.f_int (by decide +kernel) (pa_cons (pv 2) pa_nil)) pe_int) pe_int (nomark _))))))
      (pss_cons (ps_ret (pe_cmpR (op_eqA (K := K) rfl hr.units) (pv 3) (pe_tup (pa_cons pe_str (pa_cons pe_str pa_nil))) (nomark _))) pss_nil) pss_nil)
      (pss_cons (ps_if (pt_not (pt_val (pe_callB (call_isiZ (K := K) rfl) (by rfl) T.f_isinstance (by decide +kernel) (pa_cons (pv 3) (pa_cons (pe_bltn (v := .ty "list") (by rfl) T.f_list (by decide +kernel) rfl) pa_nil)))))
      (pss_cons (ps_ret pe_bl) pss_nil) pss_nil)
      (pss_cons (ps_set (i := 4) sc__law_turned_right.nd rfl (.inl rfl) (pe_mk0 (pe_ix (ix_seqK (K := K) rfl) (pv 3) pe_int (fun _ _ => rfl)) T.cl_Spot T.mt_Spot_turned (PromK.call GK_Spot_turned_1_rest (hr.mono (by decide)) passF) (pk_cons (pv 2) pk_nil)))
      (pss_cons (ps_set (i := 5) sc__law_turned_right.nd rfl (.inl rfl) (pe_ifExp (pt_cmpR or_isN (pv 7) pe_non (nomark _)) pe_non (pe_op op_sub (pe_op op_sub (pv 1) pe_int) (pv 7))))
      (pss_cons (ps_ret (pe_and (pe_cmpR (op_eqA (K := K) rfl hr.units) (pe_callI (pe_ix (ix_seqK (K := K) rfl) (pv 3) pe_int (fun _ _ => rfl)) T.co_Spot G_Spot___call__ (hr.mono (by decide)) passF (pa_cons (pv 1) pa_nil)) (pv 5) (nomark _)) (pe_one (pe_cmpR (op_eqO (K := K) rfl T.mt_Spot___eq__ hr.units0 (PromO.call G_Spot___eq__ (hr.mono (by decide)) (passA (E := E)))) (pv 4) (pv 6) (nomark _))))) pss_nil)))))))), ?_⟩
  exact fn_of2 (F := F__law_turned_right) (envU := fun _ => List.replicate 8 .no) h (fun l_nook l_n => rfl) (fun p c l_nook l_n => (ss_asg (se_op sr_mod (se_cb srl_int (sa_cons se_var sa_nil)) se_int) (fun l_rest_so0 => (ss_unp (se_tup (sa_cons (se_cl srl_sp0 (sa_cons se_var sa_nil)) (sa_cons (se_cl srl_sp0 (sa_cons se_var (sa_cons se_var sa_nil))) sa_nil))) (fun d17 => sx_tup2 (fun l_real_here15 l_place_here15 => (ss_asg (se_lam fun E => (se_mt srl_sp0 se_var (sa_cons se_var sa_nil))) (fun l_heard_here17 => (ss_if (fun (w36 : Unit) => [.fz l_nook, .fz l_n, .fz l_rest_so0, .fz l_heard_here17, .no, .no, .fz l_real_here15, .fz l_place_here15]) (sb_and (sb_tst (se_op sr_eq (se_op sr_ix se_var se_int) (se_str (by decide)))) (sb_and (sb_tst (se_op sr_eq (se_op sr_ix se_var se_int) se_int)) (sb_tst (se_op sr_eq (se_op sr_mod (se_cb srl_int (sa_cons se_var sa_nil)) se_int) se_int)))) (ss_ret (se_op sr_eq se_var (se_tup (sa_cons (se_str (by decide)) (sa_cons (se_str (by decide)) sa_nil))))) (ss_nx (.s (.s (.s (.s (.s (.s (.s (.s .nil))))))))) (fun (w36 : Unit) => (ss_if (fun (w43 : Unit) => [.fz l_nook, .fz l_n, .fz l_rest_so0, .fz l_heard_here17, .no, .no, .fz l_real_here15, .fz l_place_here15]) (sb_not (sb_tb (se_isi (.ty _) (isT_list T) se_var))) (ss_ret se_bl) (ss_nx (.s (.s (.s (.s (.s (.s (.s (.s .nil))))))))) (fun (w43 : Unit) => (ss_asg (se_nox (se_mtK (srk_sp fun _ _ => .nil) (se_op sr_ix se_var se_int) sa_nil (sa_cons se_var sa_nil))) (fun l_again43 => (ss_asg (se_if (sb_tst (se_op sr_isN se_var se_non)) se_non (se_op sr_sub (se_op sr_sub se_var se_int) se_var)) (fun l_due49 => (ss_ret (se_andV (se_op sr_eq (se_nox (se_callI (se_op sr_ix se_var se_int) (sa_cons se_var sa_nil))) se_var) (se_op (sr_eqO (eqR_Spot T) srl_sp0) se_var se_var)))))))))))))))))))
abbrev N__law_order_right : List Str := ["_law_spots_so", "_law_one", "_law_other", "_law_told", "_law_due", "_law_first", "_law_second", "_law_mine", "_law_yours", "_law_nook"]
theorem sc__law_order_right : FnScope N__law_order_right ["_law_spots_so"] (defScope s__law_order_right) := ⟨rfl, rfl, rfl, by decide +kernel, rfl, by decide +kernel, by decide +kernel⟩
def F__law_order_right (l_spots_so : D) : Tr D :=
  fin (bdF (bd (bd (.ok l_spots_so) itD) fun ds => forF (fun (d2 : D) (w1 : Unit) => (bdF (bd (bd (.ok l_spots_so) itD) fun ds => forF (fun (d5 : D) (w4 : Unit) => (bd (bd (bd (bd (bd (.ok d2) fun v9 => (bd (bd (.ok d5) fun v7 => (bd (.ok []) fun r8 => .ok (v7 :: r8))) fun r10 => .ok (v9 :: r10))) fun ds => if ds.length ≤ sizeLine then .ok (.tup ds) else .bad) itD) fun ds => bd (lcF (fun l_nook10 => nox (bd (bd (bd (.ok l_nook10) fun v14 => (bd (bd (.ok (.int 1000000000)) fun v12 => (bd (.ok []) fun r13 => .ok (v12 :: r13))) fun r15 => .ok (v14 :: r15))) (ul2 F__law_place)) fun y => .ok (some y))) ds) fun r => .ok (.lst r)) fun d17 => unL2 d17 fun l_first15 l_second15 => (bd (bd (bd (bd (.ok d2) fun v18 => (bd (.ok []) fun r19 => .ok (v18 :: r19))) (ul1 F__law_real)) fun v24 => (bd (bd (bd (bd (.ok d5) fun v20 => (bd (.ok []) fun r21 => .ok (v20 :: r21))) (ul1 F__law_real)) fun v22 => (bd (.ok []) fun r23 => .ok (v22 :: r23))) fun r25 => .ok (v24 :: r25))) (ul2 fun l_mine25 l_yours25 => (bd (bd (bd (bd (.ok l_mine25) fun v28 => (bd (.ok l_yours25) fun v29 => cmpO "Spot" (ul2 F_Spot___lt__) v28 v29)) fun v38 => (bd (bd (bd (.ok l_mine25) fun v30 => (bd (.ok l_yours25) fun v31 => cmpO "Spot" (ul2 F_Spot___le__) v30 v31)) fun v36 => (bd (bd (bd (.ok l_mine25) fun v32 => (bd (.ok l_yours25) fun v33 => cmpO "Spot" (ul2 F_Spot___gt__) v32 v33)) fun v34 => (bd (.ok []) fun r35 => .ok (v34 :: r35))) fun r37 => .ok (v36 :: r37))) fun r39 => .ok (v38 :: r39))) fun ds => if ds.length ≤ sizeLine then .ok (.lst ds) else .bad) fun l_told26 => (bd (bd (.ok l_told26) fun v53 => (bd (bd (bd (bd (.ok l_mine25) fun v41 => (bd (.ok l_yours25) fun v42 => cmpO "Spot" (ul2 F_Spot___ge__) v41 v42)) fun v51 => (bd (bd (bd (.ok l_mine25) fun v43 => (bd (.ok l_yours25) fun v44 => eqO "Spot" eqr_Spot (ul2 F_Spot___eq__) v43 v44)) fun v49 => (bd (bd (bd (.ok l_mine25) fun v45 => (bd (.ok l_yours25) fun v46 => neO "Spot" eqr_Spot (ul2 F_Spot___eq__) v45 v46)) fun v47 => (bd (.ok []) fun r48 => .ok (v47 :: r48))) fun r50 => .ok (v49 :: r50))) fun r52 => .ok (v51 :: r52))) fun ds => if ds.length ≤ sizeLine then .ok (.lst ds) else .bad) fun v54 => addD v53 v54)) fun l_told39 => (bd (bd (bd (bd (.ok l_first15) fun v56 => (bd (.ok l_second15) fun v57 => ltD v56 v57)) fun v66 => (bd (bd (bd (.ok l_first15) fun v58 => (bd (.ok l_second15) fun v59 => leD v58 v59)) fun v64 => (bd (bd (bd (.ok l_first15) fun v60 => (bd (.ok l_second15) fun v61 => gtD v60 v61)) fun v62 => (bd (.ok []) fun r63 => .ok (v62 :: r63))) fun r65 => .ok (v64 :: r65))) fun r67 => .ok (v66 :: r67))) fun ds => if ds.length ≤ sizeLine then .ok (.lst ds) else .bad) fun l_due54 => (bd (bd (.ok l_due54) fun v81 => (bd (bd (bd (bd (.ok l_first15) fun v69 => (bd (.ok l_second15) fun v70 => geD v69 v70)) fun v79 => (bd (bd (bd (.ok l_first15) fun v71 => (bd (.ok l_second15) fun v72 => eqD v71 v72)) fun v77 => (bd (bd (bd (.ok l_first15) fun v73 => (bd (.ok l_second15) fun v74 => neD v73 v74)) fun v75 => (bd (.ok []) fun r76 => .ok (v75 :: r76))) fun r78 => .ok (v77 :: r78))) fun r80 => .ok (v79 :: r80))) fun ds => if ds.length ≤ sizeLine then .ok (.lst ds) else .bad) fun v82 => addD v81 v82)) fun l_due67 => (bdF (W' := Unit) (bd (bd (bd (bd (bd (.ok l_told39) fun v83 => (bd (.ok []) fun r84 => .ok (v83 :: r84))) (ul1 reprD)) fun v87 => (bd (bd (bd (.ok l_due67) fun v85 => (bd (.ok []) fun r86 => .ok (v85 :: r86))) (ul1 reprD)) fun v88 => neD v87 v88)) asB) fun k => if k = true then (bd (.ok (.bl false)) fun d => .ok (.rt d)) else (.ok (.nx ()))) fun (w89 : Unit) => (bdF (W' := Unit) (bd (bd (bd (bd (.ok l_mine25) fun v90 => (bd (.ok d2) fun v91 => eqO "Spot" eqr_Spot (ul2 F_Spot___eq__) v90 v91)) asB) fun k => if k = true then .ok true else (bd (bd (.ok l_mine25) fun v94 => (bd (bd (bd (.ok l_mine25) fun v92 => (bd (.ok []) fun r93 => .ok (v92 :: r93))) (ul1 (strO "Spot" (ul1 F_Spot___str__)))) fun v95 => eqO "Spot" eqr_Spot (ul2 F_Spot___eq__) v94 v95)) asB)) fun k => if k = true then (bd (.ok (.bl false)) fun d => .ok (.rt d)) else (.ok (.nx ()))) fun (w96 : Unit) => (.ok (.nx ())))))))))))) ds ()) fun (w4 : Unit) => (.ok (.nx ())))) ds ()) fun (w1 : Unit) => (bd (.ok (.bl true)) fun d => .ok (.rt d)))
theorem ok__law_order_right (F : FnA K d__law_order_right fd) (T : Tx K mg) (G__law_place : PromO P w K mg base CX0 1 (gd "_law_place" K) [] (spF K Tb (ul2 F__law_place))) (G__law_real : PromO P w K mg base CX0 5 (gd "_law_real" K) [] (spF K Tb (ul1 F__law_real))) (G_Spot___lt__ : PromO P w K mg base CX0 1 (md "Spot" "__lt__" K) [] (spF K Tb (ul2 F_Spot___lt__))) (G_Spot___le__ : PromO P w K mg base CX0 1 (md "Spot" "__le__" K) [] (spF K Tb (ul2 F_Spot___le__))) (G_Spot___gt__ : PromO P w K mg base CX0 1 (md "Spot" "__gt__" K) [] (spF K Tb (ul2 F_Spot___gt__))) (G_Spot___ge__ : PromO P w K mg base CX0 1 (md "Spot" "__ge__" K) [] (spF K Tb (ul2 F_Spot___ge__))) (G_Spot___eq__ : PromO P w K mg base CX0 1 (md "Spot" "__eq__" K) [] (spF K Tb (ul2 F_Spot___eq__))) (G_Spot___str__ : PromO P w K mg base CX0 3 (md "Spot" "__str__" K) [] (spF K Tb (ul1 F_Spot___str__))) : FnG P w K mg base CX0 6 (d__law_order_right.adr K) fd ["_law_spots_so"] (spF K Tb (ul1 F__law_order_right)) := by
  refine fnG0 F sc__law_order_right (fun vs H Q E h => spF_len len1 h) (fun cdv A outer s H vs Q E hr hg h => ?_)
  have hu100 := Nat.lt_of_le_of_lt (Nat.add_le_add_left (show 102 ≤ 16 * 5 + 200 by decide) _) (show _ + (16 * 5 + 200) < cLine from hr.un)
  refine ⟨_, (pss_cons (ps_for PassesOwn.never rfl (pi_seq (K := K) rfl (pv 0)) (pg_name (i := 1) sc__law_order_right.nd rfl (.inl rfl))
      (pss_cons (ps_for PassesOwn.never rfl (pi_seq (K := K) rfl (pv 0)) (pg_name (i := 2) sc__law_order_right.nd rfl (.inl rfl))
      (pss_cons (ps_asg (pe_lc (own := [("_law_nook", 9)]) (g := gName 9) (by rfl) sc__law_order_right.nd (pi_seq (K := K) rfl (pe_tup (pa_cons (pv 1) (pa_cons (pv 2) pa_nil)))) (blkOk_by (own := [("_law_nook", 9)]) (N := N__law_order_right) (sc := defScope s__law_order_right) (by decide +kernel)) (fun _ _ _ _ _ => pg_name (i := 9) sc__law_order_right.nd rfl (Or.inl rfl)) (fun _ _ _ _ _ => pts_nil) (fun _ _ _ _ _ => (pe_g (PromO.call G__law_place (hr.mono (by decide)) (passA (E := EF))) (by rfl) T.g__law_place T.k__law_place (pa_cons (pv 9) (pa_cons (pe_op (op_powK 1000000000) pe_int pe_int) pa_nil))))) (pg_unl rfl (pgs_cons (pg_name (i := 5) sc__law_order_right.nd rfl (.inl rfl)) (pgs_cons (pg_name (i := 6) sc__law_order_right.nd rfl (.inl rfl)) pgs_nil))))
      (pss_cons (ps_par (i := 7) (j := 8) (by rfl) sc__law_order_right.nd rfl rfl (by decide) rfl rfl (pa_cons (pe_g (PromO.call G__law_real (hr.mono (by decide)) (passA (E := E))) (by rfl) T.g__law_real T.k__law_real (pa_cons (pv 1) pa_nil)) (pa_cons (pe_g (PromO.call G__law_real (hr.mono (by decide)) (passA (E := E))) (by rfl) T.g__law_real T.k__law_real (pa_cons (pv 2) pa_nil)) pa_nil)) (by rfl))
      (pss_cons (ps_set (i := 3) sc__law_order_right.nd rfl (.inl rfl) (pe_lst (pa_cons (pe_cmpR (op_cmp (fun _ _ => rfl) T.mt_Spot___lt__.at_ T.mt_Spot___lt__.fn hr.units0 (PromO.call G_Spot___lt__ (hr.mono (by decide)) (passA (E := E)))) (pv 7) (pv 8) (nomark _)) (pa_cons (pe_cmpR (op_cmp (fun _ _ => rfl) T.mt_Spot___le__.at_ T.mt_Spot___le__.fn hr.units0 (PromO.call G_Spot___le__ (hr.mono (by decide)) (passA (E := E)))) (pv 7) (pv 8) (nomark _)) (pa_cons (pe_cmpR (op_cmp (fun _ _ => rfl) T.mt_Spot___gt__.at_ T.mt_Spot___gt__.fn hr.units0 (PromO.call G_Spot___gt__ (hr.mono (by decide)) (passA (E := E)))) (pv 7) (pv 8) (nomark _)) pa_nil)))))
      (pss_cons (ps_set (i := 3) sc__law_order_right.nd rfl (.inl rfl) (pe_op (op_addA (K := K) rfl) (pv 3) (pe_lst (pa_cons (pe_cmpR (op_cmp (fun _ _ => rfl) T.mt_Spot___ge__.at_ T.mt_Spot___ge__.fn hr.units0 (PromO.call G_Spot___ge__ (hr.mono (by decide)) (passA (E := E)))) (pv 7) (pv 8) (nomark _)) (pa_cons (pe_cmpR (op_eqO (K := K) rfl T.mt_Spot___eq__ hr.units0 (PromO.call G_Spot___eq__ (hr.mono (by decide)) (passA (E := E)))) (pv 7) (pv 8) (nomark _)) (pa_cons (pe_cmpR (op_neO (K := K) rfl T.mt_Spot___eq__ T.ne_Spot G_Spot___eq__ (hr.mono (by decide)) (passA (E := E))) (pv 7) (pv 8) (nomark _)) pa_nil))))))
      (pss_cons (ps_set (i := 4) sc__law_order_right.nd rfl (.inl rfl) (pe_lst (pa_cons (pe_cmpR op_lt (pv 5) (pv 6) (nomark _)) (pa_cons (pe_cmpR op_le (pv 5) (pv 6) (nomark _)) (pa_cons (pe_cmpR op_gt (pv 5) (pv 6) (nomark _)) pa_nil)))))
      (pss_cons (ps_set (i := 4) sc__law_order_right.nd rfl (.inl rfl) (pe_op (op_addA (K := K) rfl) (pv 4) (pe_lst (pa_cons (pe_cmpR op_ge (pv 5) (pv 6) (nomark _)) (pa_cons (pe_cmpR (op_eqA (K := K) rfl hr.units) (pv 5) (pv 6) (nomark _)) (pa_cons (pe_cmpR (op_neA (K := K) rfl hr.units) (pv 5) (pv 6) (nomark _)) pa_nil))))))
      (pss_cons (ps_if (pt_cmpR (op_neA (K := K) rfl hr.units) (pe_callB (call_show (K := K) rfl hu100 hg) (by rfl) T.f_repr (by decide +kernel) (pa_cons (pv 3) pa_nil)) (pe_callB (call_show (K := K) rfl hu100 hg) (by rfl) T.f_repr (by decide +kernel) (pa_cons (pv 4) pa_nil)) (nomark _))
      (pss_cons (ps_ret pe_bl) pss_nil) pss_nil)
      (pss_cons (ps_if (PW.pt (pw_or (pt_cmpR (op_eqO (K := K) rfl T.mt_Spot___eq__ hr.units0 (PromO.call G_Spot___eq__ (hr.mono (by decide)) (passA (E := E)))) (pv 7) (pv 1) (nomark _)) (pw_or1 (pt_cmpR (op_eqO (K := K) rfl T.mt_Spot___eq__ hr.units0 (PromO.call G_Spot___eq__ (hr.mono (by decide)) (passA (E := E)))) (pv 7) (pe_callTy (cr_strO T.mt_Spot___str__ G_Spot___str__ (hr.mono (by decide)) (passA (E := E))) (by rfl) T.f_str (by decide +kernel) (pa_cons (pv 7) pa_nil)) (nomark _)))))
      (pss_cons (ps_ret pe_bl) pss_nil) pss_nil)
      pss_nil)))))))))
      pss_nil))
      (pss_cons (ps_ret pe_bl) pss_nil)), ?_⟩
  exact fn_of1 (F := F__law_order_right) (envU := fun _ => List.replicate 10 .no) h (fun l_spots_so => rfl) (fun p c l_spots_so => (ss_for (fun (w1 : Unit) => [.fz l_spots_so, .no, .no, .no, .no, .no, .no, .no, .no, .no]) (si_seq se_var) (.s (.s (.s (.s (.s (.s (.s (.s (.s (.s .nil)))))))))) (fun (d2 : D) (w1 : Unit) => (sx_name (ss_for (fun (w4 : Unit) => [.fz l_spots_so, .fz d2, .no, .no, .no, .no, .no, .no, .no, .no]) (si_seq se_var) (.s (.s (.s (.s (.s (.s (.s (.s (.s (.s .nil)))))))))) (fun (d5 : D) (w4 : Unit) => (sx_name (ss_unp (se_lc (si_seq (se_tup (sa_cons se_var (sa_cons se_var sa_nil)))) (fun l_nook10 => (sc_map (se_cl srl_sp0 (sa_cons se_var (sa_cons (se_powK (by decide) (by decide) (by decide)) sa_nil)))))) (fun d17 => sx_lst2 (fun l_first15 l_second15 => (ss_par (sa_cons (se_cl srl_sp0 (sa_cons se_var sa_nil)) (sa_cons (se_cl srl_sp0 (sa_cons se_var sa_nil)) sa_nil)) (fun l_mine25 l_yours25 => (ss_asg (se_lst (sa_cons (se_op (sr_cmp T.ow_Spot.nf srl_sp0) se_var se_var) (sa_cons (se_op (sr_cmp T.ow_Spot.nf srl_sp0) se_var se_var) (sa_cons (se_op (sr_cmp T.ow_Spot.nf srl_sp0) se_var se_var) sa_nil)))) (fun l_told26 => (ss_asg (se_op sr_add se_var (se_lst (sa_cons (se_op (sr_cmp T.ow_Spot.nf srl_sp0) se_var se_var) (sa_cons (se_op (sr_eqO (eqR_Spot T) srl_sp0) se_var se_var) (sa_cons (se_op (sr_neO (eqR_Spot T)) se_var se_var) sa_nil))))) (fun l_told39 => (ss_asg (se_lst (sa_cons (se_op sr_lt se_var se_var) (sa_cons (se_op sr_le se_var se_var) (sa_cons (se_op sr_gt se_var se_var) sa_nil)))) (fun l_due54 => (ss_asg (se_op sr_add se_var (se_lst (sa_cons (se_op sr_ge se_var se_var) (sa_cons (se_op sr_eq se_var se_var) (sa_cons (se_op sr_ne se_var se_var) sa_nil))))) (fun l_due67 => (ss_if (fun (w89 : Unit) => [.fz l_spots_so, .fz d2, .fz d5, .fz l_told39, .fz l_due67, .fz l_first15, .fz l_second15, .fz l_mine25, .fz l_yours25, .no]) (sb_tst (se_op sr_ne (se_cb srl_repr (sa_cons se_var sa_nil)) (se_cb srl_repr (sa_cons se_var sa_nil)))) (ss_ret se_bl) (ss_nx (.s (.s (.s (.s (.s (.s (.s (.s (.s (.s .nil))))))))))) (fun (w89 : Unit) => (ss_if (fun (w96 : Unit) => [.fz l_spots_so, .fz d2, .fz d5, .fz l_told39, .fz l_due67, .fz l_first15, .fz l_second15, .fz l_mine25, .fz l_yours25, .no]) (sb_or (sb_tst (se_op (sr_eqO (eqR_Spot T) srl_sp0) se_var se_var)) (sb_tst (se_op (sr_eqO (eqR_Spot T) srl_sp0) se_var (se_cb srl_strO (sa_cons se_var sa_nil))))) (ss_ret se_bl) (ss_nx (.s (.s (.s (.s (.s (.s (.s (.s (.s (.s .nil))))))))))) (fun (w96 : Unit) => (ss_nx (.s (.s (.n (.n (.n (.n (.n (.n (.n (.s .nil)))))))))))))))))))))))))))))) (fun (w4 : Unit) => (ss_nx (.s (.n (.s (.s (.s (.s (.s (.s (.s (.s .nil))))))))))))))) (fun (w1 : Unit) => (ss_ret se_bl))))
end
end Lw
end
section
set_option Elab.async false
set_option linter.all false
set_option maxRecDepth 100000
set_option maxHeartbeats 4000000
set_option pp.maxSteps 600
namespace Lw
open PySem PySem.Spec PyProof.Rows L2 Gh Gp Gz
section
variable {P : Program} {w : World} {K : PySem.W.Frag} {mg : Str → Option Value} {base : Heap} {f : Addr} {fd : FuncData} {Tb : List (Addr × Str)}
abbrev N_law : List Str := ["_law_script", "_law_pen_here", "_law_some", "_law_turn", "_law_real_here", "_law_far", "_law_near", "_law_nook", "_law_n"]
theorem sc_law : FnScope N_law ["_law_script"] (defScope s_law) := ⟨rfl, rfl, rfl, by decide +kernel, rfl, by decide +kernel, by decide +kernel⟩
def F_law : Tr D :=
  fin (bd (bd (.ok []) fun ds => if ds.length ≤ sizeLine then .ok ds else .bad) fun l_some0 => (bdF (bd (bd (bd (.ok (.int 8)) fun v2 => (bd (.ok []) fun r3 => .ok (v2 :: r3))) (ul1 rg1)) fun ds => forF (fun (d5 : D) (w4 : List D) => (bd (bd (bd (bd (.ok .pen) fun v9 => (bd (bd (.ok (.int 400)) fun v7 => (bd (.ok []) fun r8 => .ok (v7 :: r8))) fun r10 => .ok (v9 :: r10))) (ul2 F__law_spot)) fun v15 => (bd (bd (bd (bd (.ok .pen) fun v11 => (bd (.ok []) fun r12 => .ok (v11 :: r12))) (ul1 F__law_length)) fun v13 => (bd (.ok []) fun r14 => .ok (v13 :: r14))) fun r16 => .ok (v15 :: r16))) (ul2 fun l_nook16 l_n16 => (bd (.ok l_nook16) fun (v18 : D) => if w4.length < sizeLine then (bd (bd (bd (.ok l_nook16) fun v20 => (bd (.ok []) fun r21 => .ok (v20 :: r21))) (ul1 F__law_real)) fun l_real_here18 => (bdF (W' := Unit) (bd (bd (bd (bd (bd (bd (nox (bd (.ok l_real_here18) fun o24 => (isO "Spot" o24 fun _ => bd (bd (.ok l_n16) fun v22 => (bd (.ok []) fun r23 => .ok (v22 :: r23))) fun ds => (ul2 F_Spot___call__) (o24 :: ds)))) fun v25 => (bd (.ok []) fun r26 => .ok (v25 :: r26))) (ul1 reprD)) fun v33 => (bd (bd (bd (bd (bd (.ok l_nook16) fun v29 => (bd (bd (.ok l_n16) fun v27 => (bd (.ok []) fun r28 => .ok (v27 :: r28))) fun r30 => .ok (v29 :: r30))) (ul2 F__law_place)) fun v31 => (bd (.ok []) fun r32 => .ok (v31 :: r32))) (ul1 reprD)) fun v34 => neD v33 v34)) asB) fun k => if k = true then .ok true else (bd (bd (bd (bd (.ok l_nook16) fun v37 => (bd (bd (.ok l_n16) fun v35 => (bd (.ok []) fun r36 => .ok (v35 :: r36))) fun r38 => .ok (v37 :: r38))) (ul2 F__law_turned_right)) asB) fun k => .ok (!k))) fun k => if k = true then (bd (.ok (.bl false)) fun d => .ok (.rt d)) else (.ok (.nx ()))) fun (w39 : Unit) => (bd (bd (bd (bd (bd (.ok .pen) fun v43 => (bd (bd (.ok (.int 300)) fun v41 => (bd (.ok []) fun r42 => .ok (v41 :: r42))) fun r44 => .ok (v43 :: r44))) (ul2 F_draw)) fun v53 => (bd (bd (bd (.ok (.int 0)) fun v49 => (bd (bd (bd (.ok .pen) fun v47 => (bd (bd (.ok (.int 900)) fun v45 => (bd (.ok []) fun r46 => .ok (v45 :: r46))) fun r48 => .ok (v47 :: r48))) (ul2 F_draw)) fun v50 => subD v49 v50)) fun v51 => (bd (.ok []) fun r52 => .ok (v51 :: r52))) fun r54 => .ok (v53 :: r54))) fun ds => if ds.length ≤ sizeLine then .ok (.lst ds) else .bad) fun l_far39 => (bdF (W' := Unit) (bd (bd (bd (bd (bd (.ok l_nook16) fun v69 => (bd (bd (bd (bd (.ok .pen) fun v65 => (bd (bd (bd (bd (bd (.ok (.int 0)) fun v59 => (bd (bd (.ok (.int 1)) fun v57 => (bd (bd (bd (.ok (.int 1)) negD) fun v55 => (bd (.ok []) fun r56 => .ok (v55 :: r56))) fun r58 => .ok (v57 :: r58))) fun r60 => .ok (v59 :: r60))) fun ds => if ds.length ≤ sizeLine then .ok (.lst ds) else .bad) fun v61 => (bd (.ok l_far39) fun v62 => addD v61 v62)) fun v63 => (bd (.ok []) fun r64 => .ok (v63 :: r64))) fun r66 => .ok (v65 :: r66))) (ul2 F__law_pick)) fun v67 => (bd (.ok []) fun r68 => .ok (v67 :: r68))) fun r70 => .ok (v69 :: r70))) (ul2 F__law_moved_right)) asB) fun k => .ok (!k)) fun k => if k = true then (bd (.ok (.bl false)) fun d => .ok (.rt d)) else (.ok (.nx ()))) fun (w71 : Unit) => (bd (bd (bd (nox (bd (bd (.ok (.int 3)) fun v73 => (bd (.ok []) fun r74 => .ok (v73 :: r74))) (ul1 F_Spot_near_front))) fun v83 => (bd (bd (nox (bd (bd (bd (.ok (.int 2)) negD) fun v75 => (bd (.ok []) fun r76 => .ok (v75 :: r76))) (ul1 F_Spot_near_middle))) fun v81 => (bd (bd (nox (bd (bd (.ok (.int 0)) fun v77 => (bd (.ok []) fun r78 => .ok (v77 :: r78))) ((kwD 0 1 [.inl 0] [] (ul1 F_Spot_near_back)) []))) fun v79 => (bd (.ok []) fun r80 => .ok (v79 :: r80))) fun r82 => .ok (v81 :: r82))) fun r84 => .ok (v83 :: r84))) fun ds => if ds.length ≤ sizeLine then .ok (.lst ds) else .bad) fun l_near71 => (bdF (W' := Unit) (bd (bd (bd (.ok l_near71) fun v103 => (bd (bd (bd (nox (bd (bd (.ok (.str "front")) fun v87 => (bd (bd (.ok (.int 3)) fun v85 => (bd (.ok []) fun r86 => .ok (v85 :: r86))) fun r88 => .ok (v87 :: r88))) (fun ds => bd ((fun fs => ul2 (F_Spot___init__ fs)) [] ds) fun fs => .ok (.obj "Spot" fs)))) fun v101 => (bd (bd (nox (bd (bd (.ok (.str "middle")) fun v91 => (bd (bd (bd (.ok (.int 2)) negD) fun v89 => (bd (.ok []) fun r90 => .ok (v89 :: r90))) fun r92 => .ok (v91 :: r92))) (fun ds => bd ((fun fs => ul2 (F_Spot___init__ fs)) [] ds) fun fs => .ok (.obj "Spot" fs)))) fun v99 => (bd (bd (nox (bd (bd (.ok (.str "back")) fun v95 => (bd (bd (.ok (.int 0)) fun v93 => (bd (.ok []) fun r94 => .ok (v93 :: r94))) fun r96 => .ok (v95 :: r96))) (fun ds => bd ((fun fs => ul2 (F_Spot___init__ fs)) [] ds) fun fs => .ok (.obj "Spot" fs)))) fun v97 => (bd (.ok []) fun r98 => .ok (v97 :: r98))) fun r100 => .ok (v99 :: r100))) fun r102 => .ok (v101 :: r102))) fun ds => if ds.length ≤ sizeLine then .ok (.lst ds) else .bad) fun v104 => neLD [("Spot", (ul2 F_Spot___eq__))] v103 v104)) asB) fun k => if k = true then (bd (.ok (.bl false)) fun d => .ok (.rt d)) else (.ok (.nx ()))) fun (w105 : Unit) => (.ok (.nx (w4 ++ [v18]))))))))) else .bad)))) ds l_some0) fun (w4 : List D) => (bd (bd (bd (.ok (.lst w4)) fun v106 => (bd (.ok []) fun r107 => .ok (v106 :: r107))) (ul1 F__law_order_right)) fun d => .ok (.rt d))))
theorem ok_law (F : FnA K d_law fd) (T : Tx K mg) (hyes : Yes F_law) (G__law_pen : PromO P w K mg base CX0 1 (gd "_law_pen" K) [] (spPn K)) (G__law_spot : PromO P w K mg base CX0 3 (gd "_law_spot" K) [] (spF K Tb (ul2 F__law_spot))) (G__law_length : PromO P w K mg base CX0 3 (gd "_law_length" K) [] (spF K Tb (ul1 F__law_length))) (G__law_real : PromO P w K mg base CX0 5 (gd "_law_real" K) [] (spF K Tb (ul1 F__law_real))) (G_Spot___call__ : PromO P w K mg base (L2.CX P w) 5 (md "Spot" "__call__" K) [] (spF K Tb (ul2 F_Spot___call__))) (G__law_place : PromO P w K mg base CX0 1 (gd "_law_place" K) [] (spF K Tb (ul2 F__law_place))) (G__law_turned_right : Prom P w K mg base CX0 8 (gd "_law_turned_right" K) [] (spF K Tb (ul2 F__law_turned_right))) (G__law_draw : PromO P w K mg base CX0 1 (gd "_law_draw" K) [] (spF K Tb (ul2 F_draw))) (G__law_moved_right : Prom P w K mg base CX0 8 (gd "_law_moved_right" K) [] (spF K Tb (ul2 F__law_moved_right))) (G__law_pick : PromO P w K mg base CX0 2 (gd "_law_pick" K) [] (spF K Tb (ul2 F__law_pick))) (G_Spot_near_front : PromO P w K mg base (L2.CX P w) 5 (staG "Spot" "near_front" K) [] (spF K Tb (ul1 F_Spot_near_front))) (G_Spot_near_middle : PromO P w K mg base (L2.CX P w) 5 (staG "Spot" "near_middle" K) [] (spF K Tb (ul1 F_Spot_near_middle))) (GK_Spot_near_back_0_i : PromK P w K mg base (L2.CX P w) 5 (staG "Spot" "near_back" K) 0 ["i"] (fun vs zs => vs ++ picks [.inl 0] [] zs) (spF K Tb (ul1 F_Spot_near_back))) (G_Spot___init__ : PromO P w K mg base (L2.CX P w) 3 (md "Spot" "__init__" K) [] (spI K Tb "Spot" (fun fs => ul2 (F_Spot___init__ fs)))) (G_Spot___eq__ : PromO P w K mg base CX0 1 (md "Spot" "__eq__" K) [] (spF K Tb (ul2 F_Spot___eq__))) (G__law_order_right : Prom P w K mg base CX0 6 (gd "_law_order_right" K) [] (spF K Tb (ul1 F__law_order_right))) : FnG P w K mg base CX0 9 (d_law.adr K) fd ["_law_script"] (spLaw K Tb) := by
  refine fnG0 F sc_law (fun vs H Q E h => spLaw_len h) (fun cdv A outer s H vs Q E hr hg h => ?_)
  have hu100 := Nat.lt_of_le_of_lt (Nat.add_le_add_left (show 102 ≤ 16 * 8 + 200 by decide) _) (show _ + (16 * 8 + 200) < cLine from hr.un)
  refine ⟨_, pss_cons (ps_set (i := 1) sc_law.nd rfl (.inl rfl) (pe_g (PromO.call G__law_pen (hr.mono (by decide)) (passA (E := E))) (by rfl) T.g__law_pen T.k__law_pen (pa_cons (pv 0) pa_nil)))
      (pss_cons (ps_set (i := 2) sc_law.nd rfl (.inl rfl) (pe_lst pa_nil))
      (pss_cons (ps_for PassesOwn.never rfl (pi_range1 (by rfl) T.f_range (pa_cons pe_int pa_nil)) (pg_name (i := 3) sc_law.nd rfl (.inl rfl))
      (pss_cons (ps_par (i := 7) (j := 8) (by rfl) sc_law.nd rfl rfl (by decide) rfl rfl (pa_cons (pe_g (PromO.call G__law_spot (hr.mono (by decide)) (passA (E := EF))) (by rfl) T.g__law_spot T.k__law_spot (pa_cons (pv 1) (pa_cons pe_int pa_nil))) (pa_cons (pe_g (PromO.call G__law_length (hr.mono (by decide)) (passA (E := EF))) (by rfl) T.g__law_length T.k__law_length (pa_cons (pv 1) pa_nil)) pa_nil)) (by rfl))
      (pss_cons (ps_expr (pe_bm PySem.F.plainAttrs_list PySem.F.slot_list_append PySem.F.type_list_append mt_append (pv 2) (pa_cons (pv 7) pa_nil)))
      (pss_cons (ps_set (i := 4) sc_law.nd rfl (.inl rfl) (pe_g (PromO.call G__law_real (hr.mono (by decide)) (passA (E := EF))) (by rfl) T.g__law_real T.k__law_real (pa_cons (pv 7) pa_nil)))
      (pss_cons (ps_if (PW.pt (pw_or (pt_cmpR (op_neA (K := K) rfl hr.units) (pe_callB (call_show (K := K) rfl hu100 hg) (by rfl) T.f_repr (by decide +kernel) (pa_cons (pe_callI (pv 4) T.co_Spot G_Spot___call__ (hr.mono (by decide)) passF (pa_cons (pv 8) pa_nil)) pa_nil)) (pe_callB (call_show (K := K) rfl hu100 hg) (by rfl) T.f_repr (by decide +kernel) (pa_cons (pe_g (PromO.call G__law_place (hr.mono (by decide)) (passA (E := EF))) (by rfl) T.g__law_place T.k__law_place (pa_cons (pv 7) (pa_cons (pv 8) pa_nil))) pa_nil)) (nomark _)) (pw_or1 (pt_not (pt_val (pe_g (Prom.call G__law_turned_right (hr.mono (by decide)) hg (passA (E := EF))) (by rfl) T.g__law_turned_right T.k__law_turned_right (pa_cons (pv 7) (pa_cons (pv 8) pa_nil))))))))
      (pss_cons (ps_ret pe_bl) pss_nil) pss_nil)
      (pss_cons (ps_set (i := 5) sc_law.nd rfl (.inl rfl) (pe_lst (pa_cons (pe_g (PromO.call G__law_draw (hr.mono (by decide)) (passA (E := EF))) (by rfl) T.g__law_draw T.k__law_draw (pa_cons (pv 1) (pa_cons pe_int pa_nil))) (pa_cons (pe_op op_sub pe_int (pe_g (PromO.call G__law_draw (hr.mono (by decide)) (passA (E := EF))) (by rfl) T.g__law_draw T.k__law_draw (pa_cons (pv 1) (pa_cons pe_int pa_nil)))) pa_nil))))
      (pss_cons (ps_if (pt_not (pt_val (pe_g (Prom.call G__law_moved_right (hr.mono (by decide)) hg (passA (E := EF))) (by rfl) T.g__law_moved_right T.k__law_moved_right (pa_cons (pv 7) (pa_cons (pe_g (PromO.call G__law_pick (hr.mono (by decide)) (passA (E := EF))) (by rfl) T.g__law_pick T.k__law_pick (pa_cons (pv 1) (pa_cons (pe_op (op_addA (K := K) rfl) (pe_lst (pa_cons pe_int (pa_cons pe_int (pa_cons (pe_un un_neg pe_int) pa_nil)))) (pv 5)) pa_nil))) pa_nil)))))
      (pss_cons (ps_ret pe_bl) pss_nil) pss_nil)
      (pss_cons (ps_set (i := 6) sc_law.nd rfl (.inl rfl) (pe_lst (pa_cons (pe_sm (pe_glob (v := .ref _) rfl T.g_Spot rfl) T.st_Spot_near_front (PromO.call G_Spot_near_front (hr.mono (by decide)) passF) (pa_cons pe_int pa_nil)) (pa_cons (pe_sm (pe_glob (v := .ref _) rfl T.g_Spot rfl) T.st_Spot_near_middle (PromO.call G_Spot_near_middle (hr.mono (by decide)) passF) (pa_cons (pe_un un_neg pe_int) pa_nil)) (pa_cons (pe_smK0 (pe_glob (v := .ref _) rfl T.g_Spot rfl) T.st_Spot_near_back (PromK.call GK_Spot_near_back_0_i (hr.mono (by decide)) passF) (pk_cons pe_int pk_nil)) pa_nil)))))
      (pss_cons (ps_if (pt_cmpR (op_neL (K := K) (n := 7) (owns := [(gd "Spot" K, spF K Tb (ul2 F_Spot___eq__))]) rfl (hr.mono (by omega)) (passA (E := EF)) (fun q h => by simp only [List.mem_cons, List.mem_nil_iff, or_false] at h; rcases h with rfl; exact ownQ_of T.mt_Spot___eq__ G_Spot___eq__ (by omega))) (pv 6) (pe_lst (pa_cons (pe_g (PromO.make T.mk_Spot G_Spot___init__ (hr.mono (by decide)) passF) (by rfl) T.g_Spot T.k_Spot (pa_cons pe_str (pa_cons pe_int pa_nil))) (pa_cons (pe_g (PromO.make T.mk_Spot G_Spot___init__ (hr.mono (by decide)) passF) (by rfl) T.g_Spot T.k_Spot (pa_cons pe_str (pa_cons (pe_un un_neg pe_int) pa_nil))) (pa_cons (pe_g (PromO.make T.mk_Spot G_Spot___init__ (hr.mono (by decide)) passF) (by rfl) T.g_Spot T.k_Spot (pa_cons pe_str (pa_cons pe_int pa_nil))) pa_nil)))) (nomark _))
      (pss_cons (ps_ret pe_bl) pss_nil) pss_nil)
      pss_nil)))))))))
      (pss_cons (ps_ret (pe_g (Prom.call G__law_order_right (hr.mono (by decide)) hg (passA (E := EF))) (by rfl) T.g__law_order_right T.k__law_order_right (pa_cons (pv 2) pa_nil))) pss_nil))), ?_⟩
  exact law_of (N := N_law) (i := 1) (n := 8) (F := F_law) (envU := fun _ => List.replicate 9 .no) hyes h rfl (by decide) (by decide) rfl (fun p c => (ss_own (sn_lst sa_nil) (fun l_some0 => (ss_for (fun (w4 : List D) => [.no, .fz .pen, .ow w4, .no, .no, .no, .no, .no, .no]) (si_rg1 (sa_cons se_int sa_nil)) (.s (.s (.s (.s (.s (.s (.s (.s (.s .nil))))))))) (fun (d5 : D) (w4 : List D) => (sx_name (ss_par (sa_cons (se_cl srl_sp0 (sa_cons se_var (sa_cons se_int sa_nil))) (sa_cons (se_cl srl_sp0 (sa_cons se_var sa_nil)) sa_nil)) (fun l_nook16 l_n16 => (ss_app se_var (fun v18 => (ss_asg (se_cl srl_sp0 (sa_cons se_var sa_nil)) (fun l_real_here18 => (ss_if (fun (w39 : Unit) => [.no, .fz .pen, .ow (w4 ++ [v18]), .fz d5, .fz l_real_here18, .no, .no, .fz l_nook16, .fz l_n16]) (sb_or (sb_tst (se_op sr_ne (se_cb srl_repr (sa_cons (se_nox (se_callI se_var (sa_cons se_var sa_nil))) sa_nil)) (se_cb srl_repr (sa_cons (se_cl srl_sp0 (sa_cons se_var (sa_cons se_var sa_nil))) sa_nil)))) (sb_not (sb_tb (se_cl srl_sp0 (sa_cons se_var (sa_cons se_var sa_nil)))))) (ss_ret se_bl) (ss_nx (.s (.s (.s (.s (.s (.s (.s (.s (.s .nil)))))))))) (fun (w39 : Unit) => (ss_asg (se_lst (sa_cons (se_cl srl_sp0 (sa_cons se_var (sa_cons se_int sa_nil))) (sa_cons (se_op sr_sub se_int (se_cl srl_sp0 (sa_cons se_var (sa_cons se_int sa_nil)))) sa_nil))) (fun l_far39 => (ss_if (fun (w71 : Unit) => [.no, .fz .pen, .ow (w4 ++ [v18]), .fz d5, .fz l_real_here18, .fz l_far39, .no, .fz l_nook16, .fz l_n16]) (sb_not (sb_tb (se_cl srl_sp0 (sa_cons se_var (sa_cons (se_cl srl_sp0 (sa_cons se_var (sa_cons (se_op sr_add (se_lst (sa_cons se_int (sa_cons se_int (sa_cons (se_un sr_neg se_int) sa_nil)))) se_var) sa_nil))) sa_nil))))) (ss_ret se_bl) (ss_nx (.s (.s (.s (.s (.s (.s (.s (.s (.s .nil)))))))))) (fun (w71 : Unit) => (ss_asg (se_lst (sa_cons (se_nox (se_sm srl_sp0 (sa_cons se_int sa_nil))) (sa_cons (se_nox (se_sm srl_sp0 (sa_cons (se_un sr_neg se_int) sa_nil))) (sa_cons (se_nox (se_smK (srk_sp fun _ _ => .nil) (sa_cons se_int sa_nil))) sa_nil)))) (fun l_near71 => (ss_if (fun (w105 : Unit) => [.no, .fz .pen, .ow (w4 ++ [v18]), .fz d5, .fz l_real_here18, .fz l_far39, .fz l_near71, .fz l_nook16, .fz l_n16]) (sb_tst (se_op (sr_neL (es := [("Spot", (ul2 F_Spot___eq__))]) (fun q h q2 h2 => by simp only [List.mem_cons, List.mem_nil_iff, or_false] at h h2; (rcases h with rfl <;> rcases h2 with rfl); exact T.nf_Spot_Spot)) se_var (se_lst (sa_cons (se_nox (se_cl srl_mk0 (sa_cons (se_str (by decide)) (sa_cons se_int sa_nil)))) (sa_cons (se_nox (se_cl srl_mk0 (sa_cons (se_str (by decide)) (sa_cons (se_un sr_neg se_int) sa_nil)))) (sa_cons (se_nox (se_cl srl_mk0 (sa_cons (se_str (by decide)) (sa_cons se_int sa_nil)))) sa_nil)))))) (ss_ret se_bl) (ss_nx (.s (.s (.s (.s (.s (.s (.s (.s (.s .nil)))))))))) (fun (w105 : Unit) => (ss_nx (.s (.s (.s (.n (.n (.n (.n (.n (.n .nil)))))))))))))))))))))))))))) (fun (w4 : List D) => (ss_fz (i := 2) rfl (ss_ret (se_cl srl_sp0 (sa_cons se_var sa_nil)))))))))
end
end Lw
end
section
set_option linter.all false
set_option maxRecDepth 100000
namespace Gp
open PySem
section
variable {α β γ : Type}
def Bo (P : α → Prop) : Tr α → Nat → Prop
  | .ok a, _ => P a
  | .ex _ _, _ => False
  | .bad, _ => False
  | .draw m k, n => ∃ n', n = n' + 1 ∧ 0 < m ∧ m < 10 ^ 100 ∧ ∀ d, 0 ≤ d → d < m → Bo P (k d) n'
theorem Bo.mono {P Q : α → Prop} (h : ∀ a, P a → Q a) : ∀ {m : Tr α} {n k : Nat}, n ≤ k → Bo P m n → Bo Q m k
  | .ok a, _, _, _, z => h a z
  | .ex _ _, _, _, _, z => z
  | .bad, _, _, _, z => z
  | .draw m f, n, k, l, ⟨n', e, h1, h2, h3⟩ => ⟨k - 1, by omega, h1, h2, fun d d0 d1 => Bo.mono h (m := f d) (n := n') (by omega) (h3 d d0 d1)⟩
theorem Bo.bd {P : α → Prop} {Q : β → Prop} {k : α → Tr β} {b : Nat} : ∀ {m : Tr α} {a : Nat}, Bo P m a → (∀ x, P x → Bo Q (k x) b) → Bo Q (bd m k) (a + b)
  | .ok x, a, h, hk => (hk x h).mono (fun _ z => z) (Nat.le_add_left _ _)
  | .ex _ _, _, h, _ => h
  | .bad, _, h, _ => h
  | .draw m f, a, ⟨n', e, h1, h2, h3⟩, hk => ⟨n' + b, by omega, h1, h2, fun d d0 d1 => Bo.bd (m := f d) (h3 d d0 d1) hk⟩
theorem Bo.al {P : α → Prop} {Q : α → Nat → Prop} {E : Str → Fs → Nat → Prop} (h : ∀ a b, P a → Q a b) : ∀ {m : Tr α} {n : Nat}, Bo P m n → Al Q E m n
  | .ok a, _, z => h a _ z
  | .ex _ _, _, z => z.elim
  | .bad, _, z => z
  | .draw m f, n, ⟨n', e, h1, h2, h3⟩ => ⟨n', e, h1, h2, fun d d0 d1 => Bo.al (m := f d) h (h3 d d0 d1)⟩
theorem Bo.yes {F : Tr D} {n : Nat} (hn : n ≤ 1000000) (h : Bo (fun d => d = .bl true) F n) : Yes F :=
  Bo.al (fun _ _ z => z) (h.mono (fun _ z => z) hn)
theorem bo_ok {P : α → Prop} {a : α} {n : Nat} (h : P a) : Bo P (.ok a) n := h
theorem bo_draw {P : α → Prop} {m : Int} {k : Int → Tr α} {n : Nat} (h1 : 0 < m) (h2 : m < 10 ^ 100) (h : ∀ d, 0 ≤ d → d < m → Bo P (k d) n) : Bo P (.draw m k) (n + 1) := ⟨n, rfl, h1, h2, h⟩
variable {W L : Type}
theorem bo_for {f : D → W → Tr (Fl W W)} {P : Fl W L → Prop} {c : Nat} (I : List D → W → Prop) : ∀ (ds : List D) (w : W), I ds w →
    (∀ w, I [] w → P (.nx w)) →
    (∀ d ds w, I (d :: ds) w → Bo (fun r => match r with | .nx w' => I ds w' | .ct w' => I ds w' | .bk w' => P (.nx w') | .rt d => P (.rt d)) (f d w) c) →
    Bo P (forF f ds w) (c * ds.length)
  | [], w, h, h0, _ => h0 w h
  | d :: ds, w, h, h0, h1 => by
    rw [forF_cons, List.length_cons, Nat.mul_succ, Nat.add_comm]
    refine (h1 d ds w h).bd fun r hr => ?_
    cases r with
    | nx w' => exact bo_for I ds w' hr h0 h1
    | ct w' => exact bo_for I ds w' hr h0 h1
    | bk w' => exact Bo.mono (m := .ok _) (fun _ z => z) (Nat.zero_le _) (show Bo P (.ok (Fl.nx w')) 0 from hr)
    | rt d => exact Bo.mono (m := .ok _) (fun _ z => z) (Nat.zero_le _) (show Bo P (.ok (Fl.rt d)) 0 from hr)
theorem forF_unit {f : D → Unit → Tr (Fl Unit Unit)} : ∀ {ds : List D}, (∀ d ∈ ds, f d () = .ok (.nx ())) → forF (L := L) f ds () = .ok (.nx ())
  | [], _ => rfl
  | d :: ds, h => by
    rw [forF_cons, h d List.mem_cons_self]
    exact forF_unit fun x hx => h x (List.mem_cons_of_mem _ hx)
end
end Gp
end
section
set_option linter.all false
set_option maxRecDepth 100000
set_option maxHeartbeats 4000000
namespace Gp
open PySem
@[simp] theorem s_bd {α β : Type} (a : α) (k : α → Tr β) : bd (.ok a) k = k a := rfl
@[simp] theorem s_bdx {α β : Type} (c : Str) (fs : Fs) (k : α → Tr β) : bd (.ex c fs) k = .ex c fs := rfl
@[simp] theorem s_bdd {α β : Type} (m : Int) (f : Int → Tr α) (k : α → Tr β) : bd (.draw m f) k = .draw m fun d => bd (f d) k := rfl
@[simp] theorem s_nox {α : Type} (a : α) : nox (.ok a) = .ok a := rfl
@[simp] theorem s_bdF {W W' L : Type} (w : W') (k : W' → Tr (Fl W L)) : bdF (.ok (.nx w)) k = k w := rfl
@[simp] theorem s_bdFr {W W' L : Type} (d : D) (k : W' → Tr (Fl W L)) : bdF (.ok (.rt d)) k = .ok (.rt d) := rfl
@[simp] theorem s_finr (d : D) : fin (.ok (.rt d)) = .ok d := rfl
@[simp] theorem s_finn (w : Unit) : fin (.ok (.nx w)) = .ok .non := rfl
@[simp] theorem s_finI (fs : Fs) : finI (.ok (.nx fs)) = .ok fs := rfl
@[simp] theorem s_asB (b : Bool) : asB (.bl b) = .ok b := rfl
@[simp] theorem s_ul0 {α : Type} (k : Tr α) : ul0 k [] = k := rfl
@[simp] theorem s_ul1 {α : Type} (k : D → Tr α) (x : D) : ul1 k [x] = k x := rfl
@[simp] theorem s_ul2 {α : Type} (k : D → D → Tr α) (x y : D) : ul2 k [x, y] = k x y := rfl
@[simp] theorem s_ul3 {α : Type} (k : D → D → D → Tr α) (x y z : D) : ul3 k [x, y, z] = k x y z := rfl
@[simp] theorem s_ul4 {α : Type} (k : D → D → D → D → Tr α) (x y z w : D) : ul4 k [x, y, z, w] = k x y z w := rfl
@[simp] theorem s_isO {α : Type} (c : Str) (fs : Fs) (k : Fs → Tr α) : isO c (.obj c fs) k = k fs := by unfold isO; simp
@[simp] theorem s_lt (i j : Int) : ltD (.int i) (.int j) = .ok (.bl (decide (i < j))) := rfl
@[simp] theorem s_le (i j : Int) : leD (.int i) (.int j) = .ok (.bl (decide (i ≤ j))) := rfl
@[simp] theorem s_gt (i j : Int) : gtD (.int i) (.int j) = .ok (.bl (decide (j < i))) := rfl
@[simp] theorem s_ge (i j : Int) : geD (.int i) (.int j) = .ok (.bl (decide (j ≤ i))) := rfl
@[simp] theorem s_sub (i j : Int) : subD (.int i) (.int j) = .ok (.int (i - j)) := rfl
@[simp] theorem s_add (i j : Int) : addD (.int i) (.int j) = .ok (.int (i + j)) := rfl
@[simp] theorem s_neg (i : Int) : negD (.int i) = .ok (.int (-i)) := rfl
@[simp] theorem s_eq (i j : Int) : eqD (.int i) (.int j) = .ok (.bl (decide (i = j))) := rfl
@[simp] theorem s_eqs (i j : Str) : eqD (.str i) (.str j) = .ok (.bl (decide (i = j))) := rfl
@[simp] theorem s_eqb (i j : Bool) : eqD (.bl i) (.bl j) = .ok (.bl (decide (i = j))) := rfl
@[simp] theorem s_len (ds : List D) : lenD (.lst ds) = .ok (.int ds.length) := rfl
@[simp] theorem s_itl (ds : List D) : itD (.lst ds) = .ok ds := rfl
@[simp] theorem s_itt (ds : List D) : itD (.tup ds) = .ok ds := rfl
@[simp] theorem s_int (i : Int) : intD (.int i) = .ok (.int i) := rfl
@[simp] theorem s_intb (k : Bool) : intD (.bl k) = .ok (.int (if k = true then 1 else 0)) := rfl
@[simp] theorem s_abs (i : Int) : absD (.int i) = .ok (.int (if i < 0 then -i else i)) := rfl
@[simp] theorem s_opt {α : Type} (a : α) : opt (some a) = .ok a := rfl
theorem s_mod {i j : Int} (h : 0 < j) : modD (.int i) (.int j) = .ok (.int (i % j)) := if_pos h
@[simp] theorem s_mod2 (i : Int) : modD (.int i) (.int 2) = .ok (.int (i % 2)) := rfl
@[simp] theorem s_div2 (i : Int) : divD (.int i) (.int 2) = .ok (.int (i / 2)) := rfl
end Gp
namespace Gp
open PySem PyProof.Rows L2
theorem toPyL_ints : ∀ l : List Int, toPyL (l.map D.int) = some (l.map PyData.int)
  | [] => rfl
  | a :: r => by
    rw [List.map_cons]
    unfold toPyL
    rw [toPyL_ints r]
    rfl
theorem eqv_ints : ∀ l m : List Int, PyData.eqvAll (l.map PyData.int) (m.map PyData.int) = decide (l = m)
  | [], [] => by simp [PyData.eqvAll]
  | [], _ :: _ => by simp [PyData.eqvAll]
  | _ :: _, [] => by simp [PyData.eqvAll]
  | a :: r, b :: s => by
    simp only [List.map_cons, PyData.eqvAll, PyData.eqv, eqv_ints r s]
    by_cases h : a = b <;> by_cases h' : r = s <;> simp [h, h']
theorem canLayAll_ints : ∀ ns : List Int, PyData.canLayAll0 (ns.map PyData.int) = true
  | [] => rfl
  | _ :: r => by simp [PyData.canLayAll0, PyData.canLay0, canLayAll_ints r]
theorem depthAll_ints : ∀ ns : List Int, PyData.depthAll (ns.map PyData.int) = 0
  | [] => rfl
  | _ :: r => by simp [PyData.depthAll, PyData.depth, depthAll_ints r]
@[simp] theorem s_find (m : Int) (f : Int → Tr (Fl Unit Empty)) : fin (.draw m f) = .draw m fun d => fin (f d) := rfl
@[simp] theorem s_bdFd {W W' L : Type} (m : Int) (f : Int → Tr (Fl W' L)) (k : W' → Tr (Fl W L)) : bdF (.draw m f) k = .draw m fun d => bdF (f d) k := rfl
theorem bd_ok_id {α : Type} (m : Tr α) : bd m .ok = m := by
  induction m with
  | draw m f ih => show Tr.draw m _ = _; congr 1; funext d; exact ih d
  | _ => rfl
theorem s_fin_id (m : Tr D) : fin (bd m fun d => .ok (.rt d)) = m := by
  unfold fin
  rw [bd_bd]
  exact bd_ok_id m
@[simp] theorem s_bdbd {α β γ : Type} (m : Tr α) (k : α → Tr β) (l : β → Tr γ) : bd (bd m k) l = bd m fun a => bd (k a) l := bd_bd ..
@[simp] theorem s_finbd {α : Type} (m : Tr α) (k : α → Tr (Fl Unit Empty)) : fin (bd m k) = bd m fun a => fin (k a) := bd_bd ..
@[simp] theorem s_bdFbd {α W W' L : Type} (m : Tr α) (f : α → Tr (Fl W' L)) (k : W' → Tr (Fl W L)) : bdF (bd m f) k = bd m fun a => bdF (f a) k := bd_bd ..
@[simp] theorem s_finIbd {α : Type} (m : Tr α) (k : α → Tr (Fl Fs Empty)) : finI (bd m k) = bd m fun a => finI (k a) := bd_bd ..
@[simp] theorem s_bdok {α : Type} (m : Tr α) : bd m (fun a => .ok a) = m := bd_ok_id m
@[simp] theorem s_ne (i j : Int) : neD (.int i) (.int j) = .ok (.bl (!decide (i = j))) := rfl
@[simp] theorem s_nes (i j : Str) : neD (.str i) (.str j) = .ok (.bl (!decide (i = j))) := rfl
theorem s_ixL {ds : List D} {i : Int} {d : D} (h0 : 0 ≤ i) (h : ds[i.toNat]? = some d) : ixD (.lst ds) (.int i) = .ok d := by
  have hl := (List.getElem?_eq_some_iff.mp h).1
  have e : atI ds i = some d := by
    unfold atI ixN
    rw [if_pos h0, if_pos (by omega)]
    exact h
  unfold ixD
  dsimp only
  rw [e]
theorem s_ixT {ds : List D} {i : Int} {d : D} (h0 : 0 ≤ i) (h : ds[i.toNat]? = some d) : ixD (.tup ds) (.int i) = .ok d := by
  have hl := (List.getElem?_eq_some_iff.mp h).1
  have e : atI ds i = some d := by
    unfold atI ixN
    rw [if_pos h0, if_pos (by omega)]
    exact h
  unfold ixD
  dsimp only
  rw [e]
end Gp
end
section
set_option linter.all false
set_option maxRecDepth 100000
set_option maxHeartbeats 400000
namespace Gp
open PySem PyProof.Rows L2 Gh
structure Sh (d : D) (n b : Nat) : Prop where
  ex : ∃ e, toPy d = some e ∧ Fn e n b
structure ShL (ds : List D) (n b : Nat) : Prop where
  ex : ∃ es, toPyL ds = some es ∧ FnAll es n b
theorem Sh.le {d : D} {n b n' b' : Nat} (h : Sh d n b) (h1 : n ≤ n') (h2 : b ≤ b') : Sh d n' b' := by
  obtain ⟨e, h3, h4⟩ := h.ex
  exact ⟨e, h3, h4.le h1 h2⟩
theorem Sh.int {i : Int} (h1 : -(10 ^ 100) < i) (h2 : i < 10 ^ 100) : Sh (.int i) 0 0 := ⟨_, rfl, .int h1 h2⟩
theorem Sh.bl (b : Bool) : Sh (.bl b) 0 0 := ⟨_, rfl, .bool b⟩
theorem Sh.non : Sh .non 0 0 := ⟨_, rfl, .none⟩
theorem Sh.str {x : Str} (h0 : (PyData.str x).canLay0 = true) (h : (x.cps.toList.all fun c => decide (c < 16 ^ 8)) = true) : Sh (.str x) 0 x.cps.size := ⟨_, rfl, .str h0 h⟩
theorem ShL.nil {n b : Nat} : ShL [] n b := ⟨_, rfl, .nil⟩
theorem ShL.cons {d : D} {ds : List D} {n b c : Nat} (h : Sh d n b) (k : ShL ds n c) : ShL (d :: ds) n (b + 1 + c) := by
  obtain ⟨e, h3, h4⟩ := h.ex
  obtain ⟨es, h5, h6⟩ := k.ex
  refine ⟨e :: es, ?_, .cons h4 h6⟩
  unfold toPyL
  rw [h3, h5]
theorem ShL.each {n b : Nat} : ∀ {ds : List D}, (∀ d ∈ ds, Sh d n b) → ShL ds n ((b + 1) * ds.length)
  | [], _ => ShL.nil
  | d :: r, h => by
    have z := ShL.cons (h d List.mem_cons_self) (ShL.each fun e he => h e (List.mem_cons_of_mem _ he))
    have e : b + 1 + (b + 1) * r.length = (b + 1) * (d :: r).length := by
      rw [List.length_cons, Nat.mul_add, Nat.mul_one, Nat.add_comm]
    rw [e] at z
    exact z
theorem ShL.ints {ns : List Int} (h : ∀ n ∈ ns, -(10 ^ 100) < n ∧ n < 10 ^ 100) : ShL (ns.map D.int) 0 (1 * ns.length) := by
  have z := ShL.each (n := 0) (b := 0) (ds := ns.map D.int) fun d hd => by
    obtain ⟨n, hn, rfl⟩ := List.mem_map.mp hd
    exact Sh.int (h n hn).1 (h n hn).2
  rwa [List.length_map] at z
theorem ShL.le {ds : List D} {n b n' b' : Nat} (h : ShL ds n b) (h1 : n ≤ n') (h2 : b ≤ b') : ShL ds n' b' := by
  obtain ⟨e, h3, h4⟩ := h.ex
  exact ⟨e, h3, h4.cl, h4.sh, h4.nd, h4.ls, Nat.le_trans h4.dp h1, Nat.le_trans h4.bk h2⟩
theorem Sh.lst {ds : List D} {n b : Nat} (h : ShL ds n b) : Sh (.lst ds) (n + 1) b := by
  obtain ⟨es, h3, h4⟩ := h.ex
  refine ⟨.list es, ?_, .list h4⟩
  unfold toPy
  rw [h3]
  rfl
theorem Sh.tup {ds : List D} {n b : Nat} (h : ShL ds n b) : Sh (.tup ds) (n + 1) b := by
  obtain ⟨es, h3, h4⟩ := h.ex
  refine ⟨.tuple es, ?_, .tuple h4⟩
  unfold toPy
  rw [h3]
  rfl
theorem fn_len {e : PyData} {n b : Nat} (f : Fn e n b) (hb : b ≤ 80000) : e.shown.length ≤ sizeLine := by
  have z := PyData.shown_le_bulk 200 (by decide) e f.ls
  have := f.bk
  rw [sizeLine_eq]
  omega
theorem Sh.repr {d : D} {n b : Nat} (h : Sh d n b) (hn : n ≤ 100) (hb : b ≤ 80000) : ∃ x, reprD d = .ok (.str x) := by
  obtain ⟨e, h1, f⟩ := h.ex
  have l := fn_len f hb
  have key : ∀ {x : Str}, shwD d = some x → x.length ≤ sizeLine → ∃ x, reprD d = .ok (.str x) := fun {x} e1 e2 => ⟨x, by
    unfold reprD
    rw [e1]
    dsimp only
    rw [if_pos e2]⟩
  have big : (∀ i, d ≠ .int i) → (∀ x, d ≠ .str x) → (∀ x, d ≠ .bl x) → d ≠ .non → ∃ x, reprD d = .ok (.str x) := fun n1 n2 n3 n4 => by
    refine key (x := e.shown) ?_ l
    have g : (if e.showable = true ∧ e.hasDict = false ∧ e.depth ≤ 100 ∧ e.shown.length ≤ sizeLine then some e.shown else none) = some e.shown := if_pos ⟨f.sh, f.nd, Nat.le_trans f.dp hn, l⟩
    cases d with
    | int i => exact absurd rfl (n1 i)
    | str x => exact absurd rfl (n2 x)
    | bl x => exact absurd rfl (n3 x)
    | non => exact absurd rfl n4
    | tup ds => unfold shwD; dsimp only; rw [h1]; exact g
    | lst ds => unfold shwD; dsimp only; rw [h1]; exact g
    | obj c fs => unfold toPy at h1; cases h1
    | err c fs => unfold toPy at h1; cases h1
    | pen => unfold toPy at h1; cases h1
    | cls c => unfold toPy at h1; cases h1
    | dct => unfold toPy at h1; cases h1
    | dic ps => unfold toPy at h1; cases h1
    | dit ps => unfold toPy at h1; cases h1
  cases d with
  | non => exact ⟨_, rfl⟩
  | bl b => cases b <;> exact ⟨_, rfl⟩
  | int i =>
    unfold toPy at h1
    cases h1
    have h2 : i.natAbs.log2 < 1920 := of_decide_eq_true f.sh
    refine key (x := Str.ofString (toString i)) ?_ l
    unfold shwD
    dsimp only
    rw [if_pos h2]
  | str x =>
    unfold toPy at h1
    cases h1
    have l2 : (reprText x).length ≤ sizeLine := l
    refine key (x := reprText x) ?_ l2
    unfold shwD
    dsimp only
    rw [if_pos l2]
  | tup ds => exact big (fun _ z => by cases z) (fun _ z => by cases z) (fun _ z => by cases z) (fun z => by cases z)
  | lst ds => exact big (fun _ z => by cases z) (fun _ z => by cases z) (fun _ z => by cases z) (fun z => by cases z)
  | obj c fs => unfold toPy at h1; cases h1
  | err c fs => unfold toPy at h1; cases h1
  | pen => unfold toPy at h1; cases h1
  | cls c => unfold toPy at h1; cases h1
  | dct => unfold toPy at h1; cases h1
  | dic ps => unfold toPy at h1; cases h1
  | dit ps => unfold toPy at h1; cases h1
end Gp
end
section
set_option linter.all false
set_option maxRecDepth 100000
set_option maxHeartbeats 400000
namespace Gp
open PySem
theorem bo_then {α β : Type} {P : α → Prop} {Q : β → Prop} {m : Tr α} {k : α → Tr β} {a b n : Nat} (h : Bo P m a) (hk : ∀ x, P x → Bo Q (k x) b) (l : a + b ≤ n) : Bo Q (bd m k) n := (h.bd hk).mono (fun _ z => z) l
end Gp
end
section
set_option Elab.async false
set_option linter.all false
set_option maxRecDepth 100000
set_option maxHeartbeats 400000
namespace Gp
open PySem
@[irreducible] def Bx {α : Type} (P : α → Prop) (m : Tr α) (n : Nat) : Prop := Bo P m n
theorem Bx.bo {α : Type} {P : α → Prop} {m : Tr α} {n : Nat} (h : Bx P m n) : Bo P m n := by
  unfold Bx at h
  exact h
theorem bx_of {α : Type} {P : α → Prop} {m : Tr α} {n : Nat} (h : Bo P m n) : Bx P m n := by
  unfold Bx
  exact h
theorem bx_draw {α : Type} {P : α → Prop} {m : Int} {k : Int → Tr α} {n : Nat} (h1 : 0 < m) (h2 : m < 10 ^ 100) (h : ∀ d, 0 ≤ d → d < m → Bx P (k d) n) : Bx P (.draw m k) (n + 1) := bx_of (bo_draw h1 h2 fun d a b => (h d a b).bo)
theorem bx_then {α β : Type} {P : α → Prop} {Q : β → Prop} {m : Tr α} {k : α → Tr β} {a b n : Nat} (h : Bo P m a) (hk : ∀ x, P x → Bx Q (k x) b) (l : a + b ≤ n) : Bx Q (bd m k) n := bx_of (bo_then h (fun x z => (hk x z).bo) l)
theorem bx_ok {α : Type} {P : α → Prop} {a : α} {n : Nat} (h : P a) : Bx P (.ok a) n := bx_of (bo_ok h)
theorem bx_thenX {α β : Type} {P : α → Prop} {Q : β → Prop} {m : Tr α} {k : α → Tr β} {a b n : Nat} (h : Bx P m a) (hk : ∀ x, P x → Bx Q (k x) b) (l : a + b ≤ n) : Bx Q (bd m k) n := bx_then h.bo hk l
end Gp
end
section
set_option Elab.async false
set_option linter.all false
set_option maxRecDepth 100000
set_option maxHeartbeats 400000
namespace Gp
open PySem
mutual
def sameD : D → D → Bool
  | .non, y => match y with | .non => true | _ => false
  | .bl a, y => match y with | .bl b => a == b | _ => false
  | .int a, y => match y with | .int b => decide (a = b) | _ => false
  | .str a, y => match y with | .str b => decide (a = b) | _ => false
  | .tup a, y => match y with | .tup b => sameL a b | _ => false
  | .lst a, y => match y with | .lst b => sameL a b | _ => false
  | .dct, y => match y with | .dct => true | _ => false
  | _, _ => false
def sameL : List D → List D → Bool
  | [], y => match y with | [] => true | _ => false
  | a :: r, y => match y with | b :: s => sameD a b && sameL r s | [] => false
end
mutual
theorem sameD_eq : ∀ {x y : D}, sameD x y = true → x = y
  | .non, .non, _ => rfl
  | .bl a, .bl b, h => by
    have h : (a == b) = true := h
    rw [eq_of_beq h]
  | .int a, .int b, h => by
    have h : decide (a = b) = true := h
    rw [of_decide_eq_true h]
  | .str a, .str b, h => by
    have h : decide (a = b) = true := h
    rw [of_decide_eq_true h]
  | .tup a, .tup b, h => by
    have h : sameL a b = true := h
    rw [sameL_eq h]
  | .lst a, .lst b, h => by
    have h : sameL a b = true := h
    rw [sameL_eq h]
  | .dct, .dct, _ => rfl
theorem sameL_eq : ∀ {x y : List D}, sameL x y = true → x = y
  | [], [], _ => rfl
  | a :: r, b :: s, h => by
    have h : (sameD a b && sameL r s) = true := h
    rw [Bool.and_eq_true] at h
    rw [sameD_eq h.1, sameL_eq h.2]
end
def sameT : Tr D → D → Bool
  | .ok d, e => sameD d e
  | _, _ => false
theorem sameT_eq : ∀ {m : Tr D} {e : D}, sameT m e = true → m = .ok e
  | .ok d, e, h => by rw [sameD_eq (x := d) (y := e) h]
def strT : Tr D → (Str → Bool) → Bool
  | .ok (.str x), f => f x
  | _, _ => false
theorem strT_eq : ∀ {m : Tr D} {f : Str → Bool}, strT m f = true → ∃ x, m = .ok (.str x) ∧ f x = true
  | .ok (.str x), _, h => ⟨x, rfl, h⟩
def yesB : Tr D → Bool
  | .ok (.bl b) => b
  | _ => false
theorem yesB_ok : ∀ {m : Tr D}, yesB m = true → m = .ok (.bl true)
  | .ok (.bl true), _ => rfl
theorem ix_mem {ds : List D} {i : Int} (h0 : 0 ≤ i) (h1 : i < ds.length) : ∃ d, ixD (.lst ds) (.int i) = .ok d ∧ d ∈ ds :=
  ⟨ds[i.toNat]'(by omega), s_ixL h0 (List.getElem?_eq_getElem (by omega)), List.getElem_mem _⟩
theorem ne_of_eqD {x y : D} {k : Bool} (h : eqD x y = .ok (.bl k)) : neD x y = .ok (.bl (!k)) := by
  unfold eqD at h
  unfold neD
  cases e : eqB x y with
  | ok b => rw [e] at h; cases h; rfl
  | ex c fs => rw [e] at h; cases h
  | bad => rw [e] at h; cases h
  | draw m f => rw [e] at h; cases h
theorem s_neS (x : Str) : neD (.str x) (.str x) = .ok (.bl false) := by
  show Tr.ok (D.bl (!decide (x = x))) = _
  simp
theorem s_neI (i j : Int) : neD (.int i) (.int j) = .ok (.bl (!decide (i = j))) := rfl
end Gp
end
section
set_option Elab.async false
set_option linter.all false
set_option maxRecDepth 100000
set_option maxHeartbeats 400000
namespace Lw
open PySem Gp
abbrev N40 : Int := 10000000000000000000000000000000000000000
@[simp] theorem isi_int_int (i : Int) : isi_int (.int i) = some true := rfl
@[simp] theorem isi_bool_int (i : Int) : isi_bool (.int i) = some false := rfl
@[simp] theorem isi_str_str (x : Str) : isi_str (.str x) = some true := rfl
theorem q_is_integer (i : Int) : F_is_integer (.int i) = .ok (.bl true) := by simp [F_is_integer]
theorem q_is_within (i a b : Int) : F_is_within (.int i) (.int a) (.int b) = .ok (.bl (decide (a ≤ i ∧ i ≤ b))) := by
  simp only [F_is_within, s_bd, s_ul1, q_is_integer, s_asB, if_true, s_le, s_finr]
  by_cases h : a ≤ i <;> simp [h]
theorem q_need_length {n : Int} (h : 1 ≤ n ∧ n ≤ N40) : F_need_length (.int n) = .ok .non := by
  simp [F_need_length, F_is_length, q_is_within, h]
theorem q_need_rest {n : Int} (h : 0 ≤ n ∧ n ≤ 3) : F_need_rest (.int n) = .ok .non := by
  simp [F_need_rest, F_is_rest, q_is_within, h]
theorem repr_int {i : Int} (h1 : -(10 ^ 100) < i) (h2 : i < 10 ^ 100) : ∃ x, reprD (.int i) = .ok (.str x) := (Sh.int h1 h2).repr (by decide) (by decide)
@[simp] theorem s_draw (m : Int) : F_draw .pen (.int m) = .draw m fun d => .ok (.int d) := rfl
theorem q_pick (ds : List D) : F__law_pick .pen (.lst ds) = .draw ds.length fun i => ixD (.lst ds) (.int i) := by
  simp -implicitDefEqProofs only [F__law_pick, s_bd, s_ul1, s_ul2, s_len, s_draw, s_bdd, s_find, s_fin_id]
inductive Kd where
  | fr | mi | ba
  deriving DecidableEq
def Kd.nm : Kd → Str
  | .fr => "front"
  | .mi => "middle"
  | .ba => "back"
def Kd.rk : Kd → Int
  | .fr => 0
  | .mi => 1
  | .ba => 2
def Kd.lo : Kd → Int
  | .mi => -400
  | _ => 0
def Kd.flip : Kd → Kd
  | .fr => .ba
  | .mi => .mi
  | .ba => .fr
theorem n_fm : ¬ ("front" : Str) = "middle" := by decide +kernel
theorem n_fb : ¬ ("front" : Str) = "back" := by decide +kernel
theorem n_mf : ¬ ("middle" : Str) = "front" := by decide +kernel
theorem n_mb : ¬ ("middle" : Str) = "back" := by decide +kernel
theorem n_bf : ¬ ("back" : Str) = "front" := by decide +kernel
theorem n_bm : ¬ ("back" : Str) = "middle" := by decide +kernel
theorem e_ff : eqD (.str "front") (.str "front") = .ok (.bl true) := by rw [s_eqs, decide_eq_true rfl]
theorem e_fm : eqD (.str "front") (.str "middle") = .ok (.bl false) := by rw [s_eqs, decide_eq_false n_fm]
theorem e_fb : eqD (.str "front") (.str "back") = .ok (.bl false) := by rw [s_eqs, decide_eq_false n_fb]
theorem e_mf : eqD (.str "middle") (.str "front") = .ok (.bl false) := by rw [s_eqs, decide_eq_false n_mf]
theorem e_mm : eqD (.str "middle") (.str "middle") = .ok (.bl true) := by rw [s_eqs, decide_eq_true rfl]
theorem e_mb : eqD (.str "middle") (.str "back") = .ok (.bl false) := by rw [s_eqs, decide_eq_false n_mb]
theorem e_bf : eqD (.str "back") (.str "front") = .ok (.bl false) := by rw [s_eqs, decide_eq_false n_bf]
theorem e_bm : eqD (.str "back") (.str "middle") = .ok (.bl false) := by rw [s_eqs, decide_eq_false n_bm]
theorem e_bb : eqD (.str "back") (.str "back") = .ok (.bl true) := by rw [s_eqs, decide_eq_true rfl]
theorem i_f : notinD (.str "front") (.tup [.str "front", .str "middle", .str "back"]) = .ok (.bl false) := by rfl
theorem i_m : notinD (.str "middle") (.tup [.str "front", .str "middle", .str "back"]) = .ok (.bl false) := by rfl
theorem i_b : notinD (.str "back") (.tup [.str "front", .str "middle", .str "back"]) = .ok (.bl false) := by rfl
def rkn : Kd → Int → Int
  | .ba, n => -n
  | _, n => n
def fsOf (k : Kd) (n : Int) : Fs := [("own_kind", .str k.nm), ("number", .int n), ("own_rank", .tup [.int k.rk, .int (rkn k n)])]
def spot (k : Kd) (n : Int) : D := .obj "Spot" (fsOf k n)
def nook (k : Kd) (n : Int) : D := .tup [.str k.nm, .int n]
def bad : Tr D := .ex "BadSpot" [("part", .str "number")]
def mkS (k : Kd) (n : Int) : Tr D := if k.lo ≤ n ∧ n ≤ 400 then .ok (spot k n) else bad
theorem k_f : kdD [("front", 0), ("middle", 1), ("back", 2)] (.str "front") = .ok (.int 0) := by rfl
theorem k_m : kdD [("front", 0), ("middle", 1), ("back", 2)] (.str "middle") = .ok (.int 1) := by rfl
theorem k_b : kdD [("front", 0), ("middle", 1), ("back", 2)] (.str "back") = .ok (.int 2) := by rfl
theorem p1 (d : D) : putD "own_kind" d [] = ([("own_kind", d)] : Fs) := by rfl
theorem p2 (d e : D) : putD "number" e [("own_kind", d)] = ([("own_kind", d), ("number", e)] : Fs) := by rfl
theorem p3 (d e f : D) : putD "own_rank" f [("own_kind", d), ("number", e)] = ([("own_kind", d), ("number", e), ("own_rank", f)] : Fs) := by rfl
theorem z2 : (0 : Nat) + 1 + 1 ≤ sizeLine := by decide
theorem q_init (k : Kd) (n : Int) : F_Spot___init__ [] (.str k.nm) (.int n) = if k.lo ≤ n ∧ n ≤ 400 then .ok (fsOf k n) else .ex "BadSpot" [("part", .str "number")] := by
  cases k
  · show F_Spot___init__ [] (.str "front") (.int n) = if (0 : Int) ≤ n ∧ n ≤ 400 then .ok (fsOf .fr n) else _
    by_cases h : (0 : Int) ≤ n ∧ n ≤ 400
    all_goals simp -implicitDefEqProofs [F_Spot___init__, i_f, n_fm, n_fb, n_mf, n_mb, n_bf, n_bm, k_f, q_is_within, h, p1, p2, p3, z2, finI, bdF]
    rfl
  · show F_Spot___init__ [] (.str "middle") (.int n) = if (-400 : Int) ≤ n ∧ n ≤ 400 then .ok (fsOf .mi n) else _
    by_cases h : (-400 : Int) ≤ n ∧ n ≤ 400
    all_goals simp -implicitDefEqProofs [F_Spot___init__, i_m, n_fm, n_fb, n_mf, n_mb, n_bf, n_bm, k_m, q_is_within, h, p1, p2, p3, z2, finI, bdF]
    rfl
  · show F_Spot___init__ [] (.str "back") (.int n) = if (0 : Int) ≤ n ∧ n ≤ 400 then .ok (fsOf .ba n) else _
    by_cases h : (0 : Int) ≤ n ∧ n ≤ 400
    all_goals simp -implicitDefEqProofs [F_Spot___init__, i_b, n_fm, n_fb, n_mf, n_mb, n_bf, n_bm, k_b, q_is_within, h, p1, p2, p3, z2, finI, bdF]
    rfl
theorem q_mk (k : Kd) (n : Int) : (bd (F_Spot___init__ [] (.str k.nm) (.int n)) fun fs => .ok (.obj "Spot" fs)) = mkS k n := by
  rw [q_init]
  unfold mkS
  split <;> rfl
end Lw
end
section
set_option Elab.async false
set_option linter.all false
set_option maxRecDepth 100000
set_option maxHeartbeats 400000
namespace Lw
open PySem Gp
theorem s_ixT0 (a : D) (r : List D) : ixD (.tup (a :: r)) (.int 0) = .ok a := s_ixT (by decide) rfl
theorem s_ixT1 (a b : D) (r : List D) : ixD (.tup (a :: b :: r)) (.int 1) = .ok b := s_ixT (by decide) rfl
theorem s_ixL0 (a : D) (r : List D) : ixD (.lst (a :: r)) (.int 0) = .ok a := s_ixL (by decide) rfl
theorem q_kind (k : Kd) (n : Int) : F_Spot_kind (spot k n) = .ok (.str k.nm) := by rfl
theorem f_num (k : Kd) (n : Int) : fldD "Spot" "number" (spot k n) = .ok (.int n) := by rfl
theorem f_kind (k : Kd) (n : Int) : fldD "Spot" "own_kind" (spot k n) = .ok (.str k.nm) := by rfl
theorem f_rank (k : Kd) (n : Int) : fldD "Spot" "own_rank" (spot k n) = .ok (.tup [.int k.rk, .int (rkn k n)]) := by rfl
theorem is_spot {α : Type} (k : Kd) (n : Int) (f : Fs → Tr α) : isO "Spot" (spot k n) f = f (fsOf k n) := s_isO _ _ _
theorem l_call (k : Kd) (n : Int) : (fsOf k n).lookup ("place_at_length" : Str) = none := by cases k <;> rfl
theorem l_turn (k : Kd) (n : Int) : (fsOf k n).lookup ("turned" : Str) = none := by cases k <;> rfl
def plI : Kd → Int → Int → Int
  | .fr, n, _ => n
  | .mi, n, L => L / 2 + n
  | .ba, n, L => L - 1 - n
def plD (k : Kd) (n L : Int) : D := if 0 ≤ plI k n L ∧ plI k n L < L then .int (plI k n L) else .non
theorem q_end (p L : Int) : fin (bd (bd (bd (bd (bd (leD (.int 0) (.int p)) asB) fun k => if k = true then ltD (.int p) (.int L) else .ok (.bl false)) asB) fun k => if k = true then .ok (D.int p) else .ok D.non) fun d => .ok (.rt d)) = .ok (if 0 ≤ p ∧ p < L then .int p else .non) := by
  by_cases h : 0 ≤ p
  · by_cases h2 : p < L <;> simp [h, h2]
  · simp [h]
theorem q_place (k : Kd) (n L : Int) : F__law_place (nook k n) (.int L) = .ok (plD k n L) := by
  cases k
  · simp -implicitDefEqProofs only [F__law_place, nook, Kd.nm, s_bd, un2, e_ff, e_fm, e_fb, s_asB, if_true, Bool.false_eq_true, if_false, s_sub, s_bdF]
    exact q_end _ _
  · simp -implicitDefEqProofs only [F__law_place, nook, Kd.nm, s_bd, un2, e_mf, e_mm, e_mb, s_asB, if_true, Bool.false_eq_true, if_false, s_sub, s_div2, s_add, s_bdF]
    exact q_end _ _
  · simp -implicitDefEqProofs only [F__law_place, nook, Kd.nm, s_bd, un2, e_bf, e_bm, e_bb, s_asB, if_true, Bool.false_eq_true, if_false, s_sub, s_bdF]
    exact q_end _ _
theorem q_pal (k : Kd) (n L : Int) : F_Spot_place_at_length (spot k n) (.int L) = .ok (plD k n L) := by
  cases k
  · simp -implicitDefEqProofs only [F_Spot_place_at_length, s_bd, is_spot, s_ul1, q_kind, s_nox, f_num, Kd.nm, e_ff, e_fm, e_fb, s_asB, if_true, Bool.false_eq_true, if_false, s_sub, s_bdF]
    exact q_end _ _
  · simp -implicitDefEqProofs only [F_Spot_place_at_length, s_bd, is_spot, s_ul1, q_kind, s_nox, f_num, Kd.nm, e_mf, e_mm, e_mb, s_asB, if_true, Bool.false_eq_true, if_false, s_sub, s_div2, s_add, s_bdF]
    exact q_end _ _
  · simp -implicitDefEqProofs only [F_Spot_place_at_length, s_bd, is_spot, s_ul1, q_kind, s_nox, f_num, Kd.nm, e_bf, e_bm, e_bb, s_asB, if_true, Bool.false_eq_true, if_false, s_sub, s_bdF]
    exact q_end _ _
theorem q_call (k : Kd) (n : Int) {L : Int} (h : 1 ≤ L ∧ L ≤ N40) : F_Spot___call__ (spot k n) (.int L) = .ok (plD k n L) := by
  simp -implicitDefEqProofs only [F_Spot___call__, s_bd, s_ul1, q_need_length h, is_spot, l_call, if_true, s_ul2, q_pal, s_finr]
theorem q_real (k : Kd) (n : Int) (h : k.lo ≤ n ∧ n ≤ 400) : F__law_real (nook k n) = .ok (spot k n) := by
  simp -implicitDefEqProofs only [F__law_real, nook, s_bd, s_ixT0, s_ixT1, s_ul2, q_mk]
  unfold mkS
  rw [if_pos h]
  rfl
theorem mk_fin (m : Tr D) : fin (bd m fun d => .ok (.rt d)) = m := s_fin_id m
def nxt (k : Kd) (n j : Int) : Int := match k with
  | .ba => n - j
  | _ => n + j
theorem q_add (k : Kd) (n j : Int) : F_Spot___add__ (spot k n) (.int j) = mkS k (nxt k n j) := by
  cases k
  · simp -implicitDefEqProofs only [F_Spot___add__, s_bd, f_kind, f_num, Kd.nm, e_fb, s_asB, Bool.false_eq_true, if_false, s_add, s_ul2, mk_fin]
    exact q_mk .fr (n + j)
  · simp -implicitDefEqProofs only [F_Spot___add__, s_bd, f_kind, f_num, Kd.nm, e_mb, s_asB, Bool.false_eq_true, if_false, s_add, s_ul2, mk_fin]
    exact q_mk .mi (n + j)
  · simp -implicitDefEqProofs only [F_Spot___add__, s_bd, f_kind, f_num, Kd.nm, e_bb, s_asB, if_true, s_sub, s_ul2, mk_fin]
    exact q_mk .ba (n - j)
theorem q_sub (k : Kd) (n j : Int) : F_Spot___sub__ (spot k n) (.int (0 - j)) = mkS k (nxt k n j) := by
  cases k
  · simp -implicitDefEqProofs only [F_Spot___sub__, s_bd, f_kind, f_num, Kd.nm, e_fb, s_asB, Bool.false_eq_true, if_false, s_sub, s_ul2, mk_fin, show n - (0 - j) = n + j by omega]
    exact q_mk .fr (n + j)
  · simp -implicitDefEqProofs only [F_Spot___sub__, s_bd, f_kind, f_num, Kd.nm, e_mb, s_asB, Bool.false_eq_true, if_false, s_sub, s_ul2, mk_fin, show n - (0 - j) = n + j by omega]
    exact q_mk .mi (n + j)
  · simp -implicitDefEqProofs only [F_Spot___sub__, s_bd, f_kind, f_num, Kd.nm, e_bb, s_asB, if_true, s_add, s_ul2, mk_fin, show n + (0 - j) = n - j by omega]
    exact q_mk .ba (n - j)
def trn (k : Kd) (n r : Int) : Int := match k with
  | .mi => if r % 2 = 1 then -n else -1 - n
  | _ => n
theorem rt_mk (k : Kd) (n : Int) (K : Unit → Tr (Fl Unit Empty)) : fin (bdF (W' := Unit) (bd (mkS k n) fun d => .ok (.rt d)) K) = mkS k n := by
  unfold mkS
  by_cases c : k.lo ≤ n ∧ n ≤ 400
  · simp only [if_pos c]
    rfl
  · simp only [if_neg c]
    rfl
theorem q_turn (k : Kd) (n : Int) {r : Int} (h : 0 ≤ r ∧ r ≤ 3) : F_Spot_turned (spot k n) (.int r) = mkS k.flip (trn k n r) := by
  cases k
  · simp -implicitDefEqProofs only [F_Spot_turned, s_bd, s_ul1, q_need_rest h, is_spot, q_kind, s_nox, f_num, Kd.nm, e_ff, e_fm, e_fb, s_asB, if_true, Bool.false_eq_true, if_false, s_bdF, s_ul2, mk_fin]
    exact q_mk .ba n
  · by_cases h2 : r % 2 = 1
    all_goals simp -implicitDefEqProofs only [F_Spot_turned, s_bd, s_ul1, q_need_rest h, is_spot, q_kind, s_nox, f_num, Kd.nm, e_mf, e_mm, e_mb, s_asB, if_true, Bool.false_eq_true, if_false, s_mod2, s_eq, h2, decide_true, decide_false, s_neg, s_sub, s_ul2]
    · have e : trn .mi n r = -n := if_pos h2
      rw [e]
      show fin (bdF (bd (bd (F_Spot___init__ [] (.str Kd.mi.nm) (.int (-n))) _) _) _) = _
      rw [q_mk]
      exact rt_mk _ _ _
    · have e : trn .mi n r = -1 - n := if_neg h2
      rw [e]
      show fin (bdF (bd (bd (F_Spot___init__ [] (.str Kd.mi.nm) (.int (-1 - n))) _) _) _) = _
      rw [q_mk]
      exact rt_mk _ _ _
  · simp -implicitDefEqProofs only [F_Spot_turned, s_bd, s_ul1, q_need_rest h, is_spot, q_kind, s_nox, f_num, Kd.nm, e_bf, e_bm, e_bb, s_asB, if_true, Bool.false_eq_true, if_false, s_bdF, s_ul2, mk_fin]
    exact q_mk .fr n
def tupB : D := .tup [.str "spot", .str "number"]
theorem h_bad : F__law_heard bad = .ok tupB := by
  have h : sameT (F__law_heard bad) tupB = true := by decide +kernel
  exact sameT_eq h
theorem h_ok (d : D) : F__law_heard (.ok d) = .ok (.lst [d]) := by rfl
end Lw
end
section
set_option Elab.async false
set_option linter.all false
set_option maxRecDepth 100000
set_option maxHeartbeats 400000
namespace Lw
open PySem Gp PyProof.Rows L2
theorem s_eqt_ints (l m : List Int) : eqD (.tup (l.map D.int)) (.tup (m.map D.int)) = .ok (.bl (decide (l = m))) := by
  have e : ∀ l : List Int, toPy (.tup (l.map D.int)) = some (.tuple (l.map PyData.int)) := fun l => by
    unfold toPy
    rw [toPyL_ints]
    rfl
  have e2 : eqB (.tup (l.map D.int)) (.tup (m.map D.int)) = .ok (decide (l = m)) := by
    unfold eqB
    rw [show eqS (.tup (l.map D.int)) (.tup (m.map D.int)) = none from rfl]
    dsimp only
    rw [e l, e m]
    dsimp only
    have sh : ∀ ns : List Int, SeqAt.shaped (.tuple (ns.map PyData.int)) = true := fun ns => by
      simp [SeqAt.shaped, PyData.canLay0, PyData.depth, Gp.canLayAll_ints, Gp.depthAll_ints]
    rw [if_pos ⟨sh l, sh m⟩]
    unfold PyData.eqv
    rw [eqv_ints]
  unfold eqD
  rw [e2]
  rfl
theorem eq_rk (a b c d : Int) : eqD (.tup [.int a, .int b]) (.tup [.int c, .int d]) = .ok (.bl (decide (a = c ∧ b = d))) := by
  have h := s_eqt_ints [a, b] [c, d]
  rw [show decide ([a, b] = [c, d]) = decide (a = c ∧ b = d) by simp] at h
  exact h
theorem nm_ok (k : Kd) : PyData.strOk k.nm = true := by cases k <;> decide +kernel
theorem eq_si {x : Str} (ok : PyData.strOk x = true) (i : Int) : eqD (.tup [.str x, .int i]) (.tup [.str x, .int i]) = .ok (.bl true) := by
  have e : toPy (.tup [.str x, .int i]) = some (.tuple [.str x, .int i]) := rfl
  have e2 : eqB (.tup [.str x, .int i]) (.tup [.str x, .int i]) = .ok true := by
    unfold eqB
    rw [show eqS (.tup [.str x, .int i]) (.tup [.str x, .int i]) = none from rfl]
    dsimp only
    rw [e]
    dsimp only
    have sh : SeqAt.shaped (.tuple [.str x, .int i]) = true := by
      simp [SeqAt.shaped, PyData.canLay0, PyData.canLayAll0, PyData.depth, PyData.depthAll, ok]
    rw [if_pos ⟨sh, sh⟩]
    simp [PyData.eqv, PyData.eqvAll]
  unfold eqD
  rw [e2]
  rfl
theorem ne_si (k : Kd) (i : Int) : neD (.tup [.str k.nm, .int i]) (.tup [.str k.nm, .int i]) = .ok (.bl false) := ne_of_eqD (eq_si (nm_ok k) i)
def neB : Tr D → Bool
  | .ok (.bl b) => !b
  | _ => false
theorem neB_ok : ∀ {m : Tr D}, neB m = true → m = .ok (.bl false)
  | .ok (.bl false), _ => rfl
theorem ne_bb : neD tupB tupB = .ok (.bl false) := neB_ok (by decide +kernel)
theorem eq_bb : eqD tupB tupB = .ok (.bl true) := yesB_ok (by decide +kernel)
theorem heard_mk (k : Kd) (n : Int) : F__law_heard (mkS k n) = .ok (if k.lo ≤ n ∧ n ≤ 400 then .lst [spot k n] else tupB) := by
  unfold mkS
  split
  · exact h_ok _
  · exact h_bad
theorem z1 : (0 : Nat) + 1 ≤ sizeLine := by decide
theorem z1' : (0 : Nat) + 1 < sizeLine := by decide
theorem there (k : Kd) (f : Int) : (bd (bd (eqD (.str k.nm) (.str "middle")) asB) fun b => if b = true then (bd (bd (leD (.int (-400)) (.int f)) asB) fun k => if k = true then leD (.int f) (.int 400) else .ok (.bl false)) else (bd (bd (leD (.int 0) (.int f)) asB) fun k => if k = true then leD (.int f) (.int 400) else .ok (.bl false))) = .ok (.bl (decide (k.lo ≤ f ∧ f ≤ 400))) := by
  cases k
  · simp -implicitDefEqProofs only [Kd.nm, e_fm, s_bd, s_asB, Bool.false_eq_true, if_false, s_le, Kd.lo]
    by_cases h : (0 : Int) ≤ f <;> simp [h]
  · simp -implicitDefEqProofs only [Kd.nm, e_mm, s_bd, s_asB, if_true, s_le, Kd.lo]
    by_cases h : (-400 : Int) ≤ f <;> simp [h]
  · simp -implicitDefEqProofs only [Kd.nm, e_bm, s_bd, s_asB, Bool.false_eq_true, if_false, s_le, Kd.lo]
    by_cases h : (0 : Int) ≤ f <;> simp [h]
theorem far (k : Kd) (n j : Int) : (bd (bd (eqD (.str k.nm) (.str "back")) asB) fun b => if b = true then .ok (.int (n - j)) else addD (.int n) (.int j)) = .ok (D.int (nxt k n j)) := by
  cases k
  · simp -implicitDefEqProofs only [Kd.nm, e_fb, s_bd, s_asB, Bool.false_eq_true, if_false, s_add, nxt]
  · simp -implicitDefEqProofs only [Kd.nm, e_mb, s_bd, s_asB, Bool.false_eq_true, if_false, s_add, nxt]
  · simp -implicitDefEqProofs only [Kd.nm, e_bb, s_bd, s_asB, if_true, nxt]
theorem b_int (k : Kd) (n j : Int) (F : List D → Tr D) : binOI "Spot" F (spot k n) (.int j) = F [spot k n, .int j] := by rfl
theorem q_moved (k : Kd) (n j : Int) (h : k.lo ≤ n ∧ n ≤ 400) : F__law_moved_right (nook k n) (.int j) = .ok (.bl true) := by
  have e0 : ixD (nook k n) (.int 0) = .ok (.str k.nm) := s_ixT0 _ _
  have e1 : ixD (nook k n) (.int 1) = .ok (.int n) := s_ixT1 _ _ _
  simp -implicitDefEqProofs only [F__law_moved_right, s_bd, s_ul1, q_real k n h, e0, e1, far, s_neg, there, b_int, s_ul2, q_add, q_sub, s_sub, heard_mk, s_nox, List.length_cons, List.length_nil, if_pos z1, if_pos z1', s_itl, List.cons_append, List.nil_append, forF_cons, forF_nil]
  by_cases c : k.lo ≤ nxt k n j ∧ nxt k n j ≤ 400
  · simp -implicitDefEqProofs only [c, and_self, decide_true, s_asB, s_bd, Bool.not_true, Bool.false_eq_true, if_false, s_bdF, if_true, s_ixL0, is_spot, q_kind, s_nox, f_num, List.length_cons, List.length_nil, if_pos z2, ne_si]
    rw [show eqD (.tup [.str k.nm, .int n]) (nook k n) = .ok (.bl true) from eq_si (nm_ok k) n]
    rfl
  · simp -implicitDefEqProofs only [c, decide_false, s_asB, s_bd, Bool.not_false, if_true, List.length_cons, List.length_nil, if_pos z2, Bool.false_eq_true, if_false, s_bdF]
    have e : neD tupB (.tup [.str "spot", .str "number"]) = .ok (.bl false) := ne_bb
    simp -implicitDefEqProofs only [e, s_bd, s_asB, Bool.false_eq_true, if_false, s_bdF, is_spot, q_kind, s_nox, f_num, List.length_cons, List.length_nil, if_pos z2]
    rw [show eqD (.tup [.str k.nm, .int n]) (nook k n) = .ok (.bl true) from eq_si (nm_ok k) n]
    rfl
theorem flip2 (k : Kd) : k.flip.flip = k := by cases k <;> rfl
theorem trn2 (k : Kd) (n r : Int) : trn k.flip (trn k n r) r = n := by
  cases k
  · rfl
  · show (if r % 2 = 1 then -(if r % 2 = 1 then -n else -1 - n) else -1 - (if r % 2 = 1 then -n else -1 - n)) = n
    split <;> omega
  · rfl
theorem pl_rev (k : Kd) (n L : Int) : plI k.flip (trn k n (L % 4)) L = L - 1 - plI k n L := by
  cases k
  · rfl
  · show L / 2 + (if (L % 4) % 2 = 1 then -n else -1 - n) = L - 1 - (L / 2 + n)
    split <;> omega
  · show n = L - 1 - (L - 1 - n)
    omega
theorem tst (k : Kd) (n r : Int) : (bd (bd (eqD (.str k.nm) (.str "middle")) asB) fun b => if b = true then (bd (bd (eqD (.int n) (.int 400)) asB) fun b => if b = true then (bd (bd (modD (.int r) (.int 2)) fun v34 => eqD v34 (.int 0)) asB) else .ok false) else .ok false) = .ok (decide (k = .mi ∧ n = 400 ∧ r % 2 = 0)) := by
  cases k
  · simp -implicitDefEqProofs only [Kd.nm, e_fm, s_bd, s_asB, Bool.false_eq_true, if_false]
    simp
  · simp -implicitDefEqProofs only [Kd.nm, e_mm, s_bd, s_asB, if_true, s_eq, s_mod2]
    by_cases h : n = 400 <;> simp [h]
  · simp -implicitDefEqProofs only [Kd.nm, e_bm, s_bd, s_asB, Bool.false_eq_true, if_false]
    simp
theorem eq_spot (k k' : Kd) (n n' : Int) : F_Spot___eq__ (spot k n) (spot k' n') = .ok (.bl (decide (k.rk = k'.rk ∧ rkn k n = rkn k' n'))) := by
  have h : isi_Spot (spot k' n') = some true := rfl
  simp -implicitDefEqProofs only [F_Spot___eq__, s_bd, h, s_opt, s_asB, if_true, f_rank, eq_rk, s_finr]
theorem eqo (k k' : Kd) (n n' : Int) : eqO "Spot" eqr_Spot (ul2 F_Spot___eq__) (spot k n) (spot k' n') = .ok (.bl (decide (k.rk = k'.rk ∧ rkn k n = rkn k' n'))) := by
  unfold eqO
  rw [is_spot, if_pos (show eqr_Spot (spot k' n') = true from rfl)]
  exact eq_spot k k' n n'
theorem kw1 (k : Kd) (n r : Int) : kwD 1 1 [.inl 0] [] (ul2 F_Spot_turned) [spot k n] [.int r] = F_Spot_turned (spot k n) (.int r) := by
  unfold kwD
  rw [if_pos ⟨rfl, rfl⟩]
  show ul2 F_Spot_turned [spot k n, .int r] = _
  exact s_ul2 _ _ _
theorem mkS_ok {k : Kd} {n : Int} (h : k.lo ≤ n ∧ n ≤ 400) : mkS k n = .ok (spot k n) := if_pos h
theorem q_turned (k : Kd) (n L : Int) (h : k.lo ≤ n ∧ n ≤ 400) (hL : 1 ≤ L ∧ L ≤ N40) : F__law_turned_right (nook k n) (.int L) = .ok (.bl true) := by
  have e0 : ixD (nook k n) (.int 0) = .ok (.str k.nm) := s_ixT0 _ _
  have e1 : ixD (nook k n) (.int 1) = .ok (.int n) := s_ixT1 _ _ _
  have hr : 0 ≤ L % 4 ∧ L % 4 ≤ 3 := by omega
  have eb : eqD tupB (.tup [.str "spot", .str "number"]) = .ok (.bl true) := eq_bb
  simp -implicitDefEqProofs only [F__law_turned_right, s_bd, s_ul1, s_int, s_mod (show (0 : Int) < 4 by decide), q_real k n h, s_ul2, q_place, List.length_cons, List.length_nil, if_pos z2, un2, is_spot, l_turn, if_true, q_turn k n hr, heard_mk, s_nox, e0, e1, tst]
  by_cases c : k = .mi ∧ n = 400 ∧ (L % 4) % 2 = 0
  · obtain ⟨rfl, rfl, c3⟩ := c
    have c4 : ¬ (Kd.mi.flip.lo ≤ trn .mi 400 (L % 4) ∧ trn .mi 400 (L % 4) ≤ 400) := by
      show ¬ ((-400 : Int) ≤ (if (L % 4) % 2 = 1 then -400 else -1 - 400) ∧ _)
      rw [if_neg (by omega)]
      omega
    simp -implicitDefEqProofs only [if_neg c4, c3, and_self, decide_true, if_true, s_bd, eb, s_bdFr, s_finr]
  · have c4 : k.flip.lo ≤ trn k n (L % 4) ∧ trn k n (L % 4) ≤ 400 := by
      cases k
      · exact h
      · have h' : (-400 : Int) ≤ n ∧ n ≤ 400 := h
        show (-400 : Int) ≤ (if (L % 4) % 2 = 1 then -n else -1 - n) ∧ (if (L % 4) % 2 = 1 then -n else -1 - n) ≤ 400
        by_cases z : (L % 4) % 2 = 1
        · rw [if_pos z]
          omega
        · rw [if_neg z]
          have : n ≠ 400 := fun e => c ⟨rfl, e, by omega⟩
          omega
      · exact h
    have il : isi_list (.lst [spot k.flip (trn k n (L % 4))]) = some true := rfl
    simp -implicitDefEqProofs only [if_pos c4, decide_eq_false c, Bool.false_eq_true, if_false, s_bd, s_bdF, il, s_opt, s_asB, Bool.not_true, s_ixL0, is_spot, l_turn, if_true, kw1, q_turn _ _ hr, flip2, trn2, mkS_ok h, s_nox, q_call _ _ hL]
    have hp := pl_rev k n L
    by_cases z : 0 ≤ plI k n L ∧ plI k n L < L
    · have z' : 0 ≤ L - 1 - plI k n L ∧ L - 1 - plI k n L < L := by omega
      unfold plD
      rw [hp]
      simp -implicitDefEqProofs only [if_pos z, if_pos z', isN, s_asB, s_bd, Bool.false_eq_true, if_false, s_sub, s_eq, decide_true, if_true, eqo, and_self, s_finr]
    · have z' : ¬ (0 ≤ L - 1 - plI k n L ∧ L - 1 - plI k n L < L) := by omega
      unfold plD
      rw [hp]
      have en : eqD .non .non = .ok (.bl true) := rfl
      simp -implicitDefEqProofs only [if_neg z, if_neg z', isN, s_asB, s_bd, if_true, en, decide_true, eqo, and_self, s_finr]
end Lw
end
section
set_option Elab.async false
set_option linter.all false
set_option maxRecDepth 100000
set_option maxHeartbeats 400000
namespace Lw
open PySem Gp
abbrev N9 : Int := 1000000000
theorem c_lt (a b c d : Int) : cmp2D (fun i j => decide (i < j)) ((fun a b => decide (a < b)) 2 2) (.tup [.int a, .int b]) (.tup [.int c, .int d]) = .ok (.bl (decide (a < c ∨ (a = c ∧ b < d)))) := by
  unfold cmp2D
  dsimp only
  congr 2
  by_cases h : a = c
  · by_cases h2 : b = d <;> simp [h, h2]
  · simp [h]
theorem c_le (a b c d : Int) : cmp2D (fun i j => decide (i ≤ j)) ((fun a b => decide (a ≤ b)) 2 2) (.tup [.int a, .int b]) (.tup [.int c, .int d]) = .ok (.bl (decide (a < c ∨ (a = c ∧ b ≤ d)))) := by
  unfold cmp2D
  dsimp only
  congr 2
  by_cases h : a = c
  · by_cases h2 : b = d <;> simp [h, h2]
  · simp [h]
    omega
theorem c_gt (a b c d : Int) : cmp2D (fun i j => decide (j < i)) ((fun a b => decide (a > b)) 2 2) (.tup [.int a, .int b]) (.tup [.int c, .int d]) = .ok (.bl (decide (c < a ∨ (a = c ∧ d < b)))) := by
  unfold cmp2D
  dsimp only
  congr 2
  by_cases h : a = c
  · by_cases h2 : b = d <;> simp [h, h2]
  · simp [h]
theorem c_ge (a b c d : Int) : cmp2D (fun i j => decide (j ≤ i)) ((fun a b => decide (a ≥ b)) 2 2) (.tup [.int a, .int b]) (.tup [.int c, .int d]) = .ok (.bl (decide (c < a ∨ (a = c ∧ d ≤ b)))) := by
  unfold cmp2D
  dsimp only
  congr 2
  by_cases h : a = c
  · by_cases h2 : b = d <;> simp [h, h2]
  · simp [h]
    omega
section
variable {k k' : Kd} {n n' : Int} (h : k.lo ≤ n ∧ n ≤ 400) (h' : k'.lo ≤ n' ∧ n' ≤ 400)
include h h'
theorem o_lt : (k.rk < k'.rk ∨ (k.rk = k'.rk ∧ rkn k n < rkn k' n')) ↔ plI k n N9 < plI k' n' N9 := by
  cases k <;> cases k' <;> simp only [Kd.rk, rkn, plI, Kd.lo, N9, true_and, eq_self] at * <;> omega
theorem o_eq : (k.rk = k'.rk ∧ rkn k n = rkn k' n') ↔ plI k n N9 = plI k' n' N9 := by
  cases k <;> cases k' <;> simp only [Kd.rk, rkn, plI, Kd.lo, N9, true_and, eq_self] at * <;> omega
theorem o_le : (k.rk < k'.rk ∨ (k.rk = k'.rk ∧ rkn k n ≤ rkn k' n')) ↔ plI k n N9 ≤ plI k' n' N9 := by
  cases k <;> cases k' <;> simp only [Kd.rk, rkn, plI, Kd.lo, N9, true_and, eq_self] at * <;> omega
theorem o_gt : (k'.rk < k.rk ∨ (k.rk = k'.rk ∧ rkn k' n' < rkn k n)) ↔ plI k' n' N9 < plI k n N9 := by
  cases k <;> cases k' <;> simp only [Kd.rk, rkn, plI, Kd.lo, N9, true_and, eq_self] at * <;> omega
theorem o_ge : (k'.rk < k.rk ∨ (k.rk = k'.rk ∧ rkn k' n' ≤ rkn k n)) ↔ plI k' n' N9 ≤ plI k n N9 := by
  cases k <;> cases k' <;> simp only [Kd.rk, rkn, plI, Kd.lo, N9, true_and, eq_self] at * <;> omega
theorem r_lt : cmpO "Spot" (ul2 F_Spot___lt__) (spot k n) (spot k' n') = .ok (.bl (decide (plI k n N9 < plI k' n' N9))) := by
  simp -implicitDefEqProofs only [cmpO, is_spot, s_ul2, F_Spot___lt__, s_bd, f_rank, c_lt, s_finr]
  rw [decide_eq_decide.mpr (o_lt h h')]
theorem r_le : cmpO "Spot" (ul2 F_Spot___le__) (spot k n) (spot k' n') = .ok (.bl (decide (plI k n N9 ≤ plI k' n' N9))) := by
  simp -implicitDefEqProofs only [cmpO, is_spot, s_ul2, F_Spot___le__, s_bd, f_rank, c_le, s_finr]
  rw [decide_eq_decide.mpr (o_le h h')]
theorem r_gt : cmpO "Spot" (ul2 F_Spot___gt__) (spot k n) (spot k' n') = .ok (.bl (decide (plI k' n' N9 < plI k n N9))) := by
  simp -implicitDefEqProofs only [cmpO, is_spot, s_ul2, F_Spot___gt__, s_bd, f_rank, c_gt, s_finr]
  rw [decide_eq_decide.mpr (o_gt h h')]
theorem r_ge : cmpO "Spot" (ul2 F_Spot___ge__) (spot k n) (spot k' n') = .ok (.bl (decide (plI k' n' N9 ≤ plI k n N9))) := by
  simp -implicitDefEqProofs only [cmpO, is_spot, s_ul2, F_Spot___ge__, s_bd, f_rank, c_ge, s_finr]
  rw [decide_eq_decide.mpr (o_ge h h')]
theorem r_eq : eqO "Spot" eqr_Spot (ul2 F_Spot___eq__) (spot k n) (spot k' n') = .ok (.bl (decide (plI k n N9 = plI k' n' N9))) := by
  rw [eqo, decide_eq_decide.mpr (o_eq h h')]
theorem r_ne : neO "Spot" eqr_Spot (ul2 F_Spot___eq__) (spot k n) (spot k' n') = .ok (.bl (!decide (plI k n N9 = plI k' n' N9))) := by
  unfold neO
  rw [is_spot, if_pos (show eqr_Spot (spot k' n') = true from rfl), s_ul2, eq_spot, decide_eq_decide.mpr (o_eq h h')]
  rfl
end
theorem p_int {k : Kd} {n : Int} (h : k.lo ≤ n ∧ n ≤ 400) : plD k n N9 = .int (plI k n N9) := by
  refine if_pos ?_
  cases k <;> simp only [plI, Kd.lo, N9] at * <;> omega
theorem add3 (a b c d e f : D) : addD (.lst [a, b, c]) (.lst [d, e, f]) = .ok (.lst [a, b, c, d, e, f]) := rfl
theorem rep6 : ∀ a b c d e f : Bool, strT (reprD (.lst [.bl a, .bl b, .bl c, .bl d, .bl e, .bl f])) (fun _ => true) = true := by decide +kernel
theorem eq_nook (k : Kd) (n : Int) (k' : Kd) (n' : Int) : eqO "Spot" eqr_Spot (ul2 F_Spot___eq__) (spot k n) (nook k' n') = .ok (.bl false) := by
  unfold eqO
  rw [is_spot, if_pos (show eqr_Spot (nook k' n') = true from rfl), s_ul2]
  rfl
theorem eq_str (k : Kd) (n : Int) (x : Str) : eqO "Spot" eqr_Spot (ul2 F_Spot___eq__) (spot k n) (.str x) = .ok (.bl false) := by
  unfold eqO
  rw [is_spot, if_pos (show eqr_Spot (.str x) = true from rfl), s_ul2]
  rfl
theorem str_all : ([Kd.fr, .mi, .ba] : List Kd).all (fun k => (List.range 801).all fun i => strT (F_Spot___str__ (spot k ((i : Nat) - 400 : Int))) fun _ => true) = true := by decide +kernel
theorem q_str {k : Kd} {n : Int} (h : k.lo ≤ n ∧ n ≤ 400) : ∃ x, F_Spot___str__ (spot k n) = .ok (.str x) := by
  have h1 := List.all_eq_true.mp str_all k (by cases k <;> simp)
  have h0 : -400 ≤ n := by cases k <;> simp only [Kd.lo] at h <;> omega
  have h2 := List.all_eq_true.mp h1 (n + 400).toNat (List.mem_range.mpr (by omega))
  rw [show (((n + 400).toNat : Nat) : Int) - 400 = n by omega] at h2
  obtain ⟨x, hx, _⟩ := strT_eq h2
  exact ⟨x, hx⟩
def Nk (d : D) : Prop := ∃ k n, d = nook k n ∧ k.lo ≤ n ∧ n ≤ 400
theorem loop_fin {f : D → Unit → Tr (Fl Unit Unit)} {ds : List D} {K : Unit → Tr (Fl Unit Empty)} (h : ∀ d ∈ ds, f d () = .ok (.nx ())) : fin (bdF (forF f ds ()) K) = fin (K ()) := by
  rw [forF_unit h]
  rfl
theorem loop_in {f : D → Unit → Tr (Fl Unit Unit)} {ds : List D} {K : Unit → Tr (Fl Unit Unit)} (h : ∀ d ∈ ds, f d () = .ok (.nx ())) : bdF (forF f ds ()) K = K () := by
  rw [forF_unit h]
  rfl
theorem z3 : (0 : Nat) + 1 + 1 + 1 ≤ sizeLine := by decide
theorem q_order {ds : List D} (h : ∀ d ∈ ds, Nk d) : F__law_order_right (.lst ds) = .ok (.bl true) := by
  unfold F__law_order_right
  simp -implicitDefEqProofs only [s_bd, s_itl]
  refine (loop_fin fun d hd => ?_).trans rfl
  refine (loop_in fun d' hd' => ?_).trans rfl
  obtain ⟨k, n, rfl, hk⟩ := h d hd
  obtain ⟨k', n', rfl, hk'⟩ := h d' hd'
  obtain ⟨x, hx⟩ := q_str hk
  obtain ⟨y, hy, _⟩ := strT_eq (rep6 (decide (plI k n N9 < plI k' n' N9)) (decide (plI k n N9 ≤ plI k' n' N9)) (decide (plI k' n' N9 < plI k n N9)) (decide (plI k' n' N9 ≤ plI k n N9)) (decide (plI k n N9 = plI k' n' N9)) (!decide (plI k n N9 = plI k' n' N9)))
  simp -implicitDefEqProofs only [List.length_cons, List.length_nil, if_pos z2, if_pos z3, s_bd, s_itt, lcF_cons, lcF_nil, s_ul2, q_place, p_int hk, p_int hk', s_nox, s_ul1, q_real _ _ hk, q_real _ _ hk', unL2]
  simp -implicitDefEqProofs only [r_lt hk hk', r_le hk hk', r_gt hk hk', r_ge hk hk', r_eq hk hk', r_ne hk hk', List.length_cons, List.length_nil, if_pos z2, if_pos z3, s_bd, s_lt, s_le, s_gt, s_ge, s_eq, s_neI, add3, s_ul1, hy, s_neS, s_asB, Bool.false_eq_true, if_false, s_bdF, eq_nook, strO, is_spot, hx, asS, eq_str]
end Lw
end
section
set_option Elab.async false
set_option linter.all false
set_option maxRecDepth 100000
set_option maxHeartbeats 400000
namespace Lw
open PySem Gp
theorem z6 : (0 : Nat) + 1 + 1 + 1 + 1 + 1 + 1 ≤ sizeLine := by decide
theorem z4 : (0 : Nat) + 1 + 1 + 1 + 1 ≤ sizeLine := by decide
theorem spot_bx : Bx Nk (F__law_spot .pen (.int 400)) 4 := by
  simp -implicitDefEqProofs only [F__law_spot, s_bd, List.length_cons, List.length_nil, if_pos z3, s_ul2, q_pick, s_bdd, s_find]
  refine bx_draw (by decide) (by decide) fun i i0 i1 => ?_
  obtain ⟨d, hd, hm⟩ := ix_mem (ds := [.str "front", .str "middle", .str "back"]) i0 i1
  rw [hd]
  obtain ⟨k, rfl⟩ : ∃ k : Kd, d = .str k.nm := by
    simp only [List.mem_cons, List.mem_nil_iff, or_false] at hm
    rcases hm with rfl | rfl | rfl
    · exact ⟨.fr, rfl⟩
    · exact ⟨.mi, rfl⟩
    · exact ⟨.ba, rfl⟩
  clear hm hd i0 i1
  simp -implicitDefEqProofs only [s_bd, s_add, s_ul2, s_draw, s_bdd, s_find]
  refine bx_draw (by decide) (by decide) fun a a0 a1 => ?_
  simp -implicitDefEqProofs only [s_bd, List.length_cons, List.length_nil, if_pos z6, s_ul2, q_pick, s_bdd, s_find]
  refine bx_draw (by decide) (by decide) fun i i0 i1 => ?_
  obtain ⟨d, hd, hm⟩ := ix_mem (ds := [.int 0, .int 1, .int 2, .int 3, .int 5, .int a]) i0 i1
  rw [hd]
  obtain ⟨m, rfl, m0, m1⟩ : ∃ m : Int, d = .int m ∧ 0 ≤ m ∧ m ≤ 400 := by
    simp only [List.mem_cons, List.mem_nil_iff, or_false] at hm
    rcases hm with rfl | rfl | rfl | rfl | rfl | rfl
    all_goals exact ⟨_, rfl, by omega, by omega⟩
  clear hm hd i0 i1
  cases k
  · simp -implicitDefEqProofs only [s_bd, Kd.nm, e_fm, s_asB, Bool.false_eq_true, if_false, List.length_cons, List.length_nil, if_pos z2, s_finr]
    exact bx_ok ⟨.fr, m, rfl, m0, m1⟩
  · simp -implicitDefEqProofs only [s_bd, Kd.nm, e_mm, s_asB, if_true, s_ul2, s_draw, s_bdd, s_find]
    refine bx_draw (by decide) (by decide) fun b b0 b1 => ?_
    by_cases c : b = 0
    · simp -implicitDefEqProofs only [s_bd, s_eq, c, decide_true, s_asB, if_true, s_sub, List.length_cons, List.length_nil, if_pos z2, s_finr]
      exact bx_ok ⟨.mi, 0 - m, rfl, by show (-400 : Int) ≤ 0 - m; omega, by omega⟩
    · simp -implicitDefEqProofs only [s_bd, s_eq, c, decide_false, s_asB, Bool.false_eq_true, if_false, List.length_cons, List.length_nil, if_pos z2, s_finr]
      exact bx_ok ⟨.mi, m, rfl, by show (-400 : Int) ≤ m; omega, by omega⟩
  · simp -implicitDefEqProofs only [s_bd, Kd.nm, e_bm, s_asB, Bool.false_eq_true, if_false, List.length_cons, List.length_nil, if_pos z2, s_finr]
    exact bx_ok ⟨.ba, m, rfl, m0, m1⟩
theorem len_bx : Bx (fun d => ∃ L, d = .int L ∧ 1 ≤ L ∧ L ≤ N40) (F__law_length .pen) 4 := by
  simp -implicitDefEqProofs only [F__law_length, s_bd, s_ul2, s_draw, s_bdd, s_find, s_add, s_sub, List.length_cons, List.length_nil, if_pos z4, q_pick]
  refine bx_draw (by decide) (by decide) fun a a0 a1 => ?_
  refine bx_draw (by decide) (by decide) fun b b0 b1 => ?_
  refine bx_draw (by decide) (by decide) fun c c0 c1 => ?_
  refine bx_draw (by decide) (by decide) fun i i0 i1 => ?_
  obtain ⟨d, hd, hm⟩ := ix_mem (ds := [.int b, .int c, .int (1000000000000000000000000000000 + a), .int (10000000000000000000000000000000000000000 - 1)]) i0 i1
  rw [hd]
  simp only [List.mem_cons, List.mem_nil_iff, or_false] at hm
  rcases hm with rfl | rfl | rfl | rfl
  all_goals
    simp -implicitDefEqProofs only [s_bd, s_add, s_finr]
    exact bx_ok ⟨_, rfl, by omega, by show _ ≤ (10000000000000000000000000000000000000000 : Int); omega⟩
theorem bx_forW {f : D → List D → Tr (Fl (List D) (List D))} {c b n : Nat} {ds : List D} {K : List D → Tr (Fl Unit Empty)} {Q : D → Prop} (I : List D → List D → Prop) (w : List D) (h0 : I ds w)
    (h : ∀ d ds w, I (d :: ds) w → Bx (fun r => ∃ w', r = .nx w' ∧ I ds w') (f d w) c) (hk : ∀ w, I [] w → Bx Q (fin (K w)) b) (l : c * ds.length + b ≤ n) : Bx Q (fin (bdF (forF f ds w) K)) n := by
  refine bx_of ?_
  unfold fin bdF
  rw [bd_bd]
  refine bo_then (b := b) (bo_for (P := fun r => ∃ w', r = .nx w' ∧ I [] w') I ds w h0 (fun w hw => ⟨w, rfl, hw⟩) (fun d ds w hi => ((h d ds w hi).bo).mono (fun r hr => ?_) (Nat.le_refl _))) (fun r hr => ?_) l
  · obtain ⟨w', rfl, hi⟩ := hr
    exact hi
  · obtain ⟨w', rfl, hi⟩ := hr
    exact (hk w' hi).bo
theorem near3 : nox (F_Spot_near_front (.int 3)) = .ok (spot .fr 3) := by
  simp -implicitDefEqProofs only [F_Spot_near_front, s_bd, s_ul2]
  show nox (fin (bd (bd (F_Spot___init__ [] (.str Kd.fr.nm) (.int 3)) _) _)) = _
  rw [q_mk, mkS_ok (by decide)]
  rfl
theorem near2 : nox (F_Spot_near_middle (.int (-2))) = .ok (spot .mi (-2)) := by
  simp -implicitDefEqProofs only [F_Spot_near_middle, s_bd, s_ul2]
  show nox (fin (bd (bd (F_Spot___init__ [] (.str Kd.mi.nm) (.int (-2))) _) _)) = _
  rw [q_mk, mkS_ok (by decide)]
  rfl
theorem near0 : nox (kwD 0 1 [.inl 0] [] (ul1 F_Spot_near_back) [] [.int 0]) = .ok (spot .ba 0) := by
  have e : kwD 0 1 [.inl 0] [] (ul1 F_Spot_near_back) [] [.int 0] = F_Spot_near_back (.int 0) := by
    unfold kwD
    rw [if_pos ⟨rfl, rfl⟩]
    show ul1 F_Spot_near_back [.int 0] = _
    exact s_ul1 _ _
  rw [e]
  simp -implicitDefEqProofs only [F_Spot_near_back, s_bd, s_ul2]
  show nox (fin (bd (bd (F_Spot___init__ [] (.str Kd.ba.nm) (.int 0)) _) _)) = _
  rw [q_mk, mkS_ok (by decide)]
  rfl
theorem mk_f : nox (bd (F_Spot___init__ [] (.str "front") (.int 3)) fun fs => .ok (.obj "Spot" fs)) = .ok (spot .fr 3) := by
  rw [show (bd (F_Spot___init__ [] (.str "front") (.int 3)) fun fs => .ok (.obj "Spot" fs)) = mkS .fr 3 from q_mk .fr 3, mkS_ok (by decide)]
  rfl
theorem mk_m : nox (bd (F_Spot___init__ [] (.str "middle") (.int (-2))) fun fs => .ok (.obj "Spot" fs)) = .ok (spot .mi (-2)) := by
  rw [show (bd (F_Spot___init__ [] (.str "middle") (.int (-2))) fun fs => .ok (.obj "Spot" fs)) = mkS .mi (-2) from q_mk .mi (-2), mkS_ok (by decide)]
  rfl
theorem mk_b : nox (bd (F_Spot___init__ [] (.str "back") (.int 0)) fun fs => .ok (.obj "Spot" fs)) = .ok (spot .ba 0) := by
  rw [show (bd (F_Spot___init__ [] (.str "back") (.int 0)) fun fs => .ok (.obj "Spot" fs)) = mkS .ba 0 from q_mk .ba 0, mkS_ok (by decide)]
  rfl
theorem ne3 : neLD [("Spot", (ul2 F_Spot___eq__))] (.lst [spot .fr 3, spot .mi (-2), spot .ba 0]) (.lst [spot .fr 3, spot .mi (-2), spot .ba 0]) = .ok (.bl false) := neB_ok (by decide +kernel)
theorem repr_pl (k : Kd) (n L : Int) (hL : 1 ≤ L ∧ L ≤ N40) : ∃ x, reprD (plD k n L) = .ok (.str x) := by
  unfold plD
  have e : (N40 : Int) = 10000000000000000000000000000000000000000 := rfl
  split
  · exact repr_int (by omega) (by omega)
  · exact ⟨"None", rfl⟩
end Lw
end
section
set_option Elab.async false
set_option linter.all false
set_option maxRecDepth 100000
set_option maxHeartbeats 400000
namespace Lw
open PySem Gp
def II (ds w : List D) : Prop := w.length + ds.length ≤ 8 ∧ ∀ d ∈ w, Nk d
theorem lt_line {n : Nat} (h : n < 8) : n < sizeLine := Nat.lt_of_lt_of_le h (by decide)
theorem add32 (a b c d e : D) : addD (.lst [a, b, c]) (.lst [d, e]) = .ok (.lst [a, b, c, d, e]) := rfl
theorem law_yes : Yes F_law := by
  refine Bo.yes (n := 14 * 8 + 1) (by decide +kernel) ?_
  apply Bx.bo
  unfold F_law
  have e8 : rg1 (.int 8) = .ok ((List.range' 0 8).map fun k : Nat => D.int k) := rfl
  have z0 : (0 : Nat) ≤ sizeLine := by decide
  simp -implicitDefEqProofs only [s_bd, s_ul1, e8, List.length_nil, if_pos z0]
  refine bx_forW (c := 14) (b := 1) II [] ⟨by simp, by simp⟩ (fun d ds w hi => ?_) (fun w hi => ?_) (by rw [List.length_map, List.length_range']; exact Nat.le_refl _)
  · obtain ⟨hl, hw⟩ := hi
    rw [List.length_cons] at hl
    simp -implicitDefEqProofs only [s_bd, s_ul2, s_ul1, s_bdbd]
    refine bx_thenX spot_bx (b := 10) (fun x hx => ?_) (by decide)
    refine bx_thenX len_bx (b := 6) (fun y hy => ?_) (by decide)
    obtain ⟨k, n, rfl, hk⟩ := hx
    obtain ⟨L, rfl, hL⟩ := hy
    obtain ⟨s, hs⟩ := repr_pl k n L hL
    simp -implicitDefEqProofs only [s_bd, s_ul2, s_ul1, if_pos (lt_line (show w.length < 8 by omega)), q_real k n hk, is_spot, q_call k n hL, s_nox, hs, q_place, s_neS, s_asB, Bool.false_eq_true, if_false, q_turned k n L hk hL, Bool.not_true, s_bdF, s_draw, s_bdd, s_bdFd]
    refine bx_draw (by decide) (by decide) fun a a0 a1 => ?_
    refine bx_draw (by decide) (by decide) fun b b0 b1 => ?_
    simp -implicitDefEqProofs only [s_bd, s_sub, s_neg, List.length_cons, List.length_nil, if_pos z2, if_pos z3, add32, q_pick, s_bdd, s_bdFd]
    refine bx_draw (by decide) (by decide) fun i i0 i1 => ?_
    obtain ⟨d, hd, hm⟩ := ix_mem (ds := [.int 0, .int 1, .int (-1), .int a, .int (0 - b)]) i0 i1
    rw [hd]
    obtain ⟨j, rfl⟩ : ∃ j : Int, d = .int j := by
      simp only [List.mem_cons, List.mem_nil_iff, or_false] at hm
      rcases hm with rfl | rfl | rfl | rfl | rfl
      all_goals exact ⟨_, rfl⟩
    simp -implicitDefEqProofs only [s_bd, q_moved k n j hk, s_asB, Bool.not_true, Bool.false_eq_true, if_false, s_bdF, near3, near2, near0, mk_f, mk_m, mk_b, List.length_cons, List.length_nil, if_pos z3, ne3]
    refine bx_ok ⟨_, rfl, ?_, fun d hd => ?_⟩
    · rw [List.length_append, List.length_cons, List.length_nil]
      omega
    · rcases List.mem_append.mp hd with h | h
      · exact hw d h
      · rw [List.mem_singleton.mp h]
        exact ⟨k, n, rfl, hk⟩
  · simp -implicitDefEqProofs only [s_bd, s_ul1, q_order hi.2, s_finr]
    exact bx_ok rfl
end Lw
end
section
set_option Elab.async false
set_option linter.all false
set_option maxRecDepth 100000
set_option maxHeartbeats 4000000
set_option pp.maxSteps 600
namespace Lw
open PySem PySem.Spec PyProof.Rows L2 Gh Gp Gz
theorem pm_PromO {P : Program} {w : World} {K : PySem.W.Frag} {mg : Str → Option Value} {base : Heap} {CX : CXT} {k : Nat} {f : Addr} {fd : FuncData} {ps : List Str} {sp : Sp} (G : FnOk P w K mg base CX k f fd ps sp) (b : Binds K fd ps []) : PromO P w K mg base CX k f [] sp := ⟨fd, ps, [], G, b, .nil⟩
theorem pm_Prom {P : Program} {w : World} {K : PySem.W.Frag} {mg : Str → Option Value} {base : Heap} {CX : CXT} {k : Nat} {f : Addr} {fd : FuncData} {ps : List Str} {sp : Sp} (G : FnG P w K mg base CX k f fd ps sp) (b : Binds K fd ps []) : Prom P w K mg base CX k f [] sp := ⟨fd, ps, [], G, b, .nil⟩
def TTl (K : PySem.W.Frag) : List (Addr × Str) := [((He.cT K ("_law_moved_right", none)).2, Gp.qlOf d__law_moved_right K), ((He.cT K ("_law_turned_right", none)).2, Gp.qlOf d__law_turned_right K)]
theorem facts {P : Program} {w : World} {K : PySem.W.Frag} {h : Heap} {mg : Str → Option Value} {f : Addr} (X : K.In h) (G : h.Ns mainGlobals mg) (hfa : mg ("law" : Str) = some (.ref f)) (c2 : Gp.SaysS exs fns tfs sds pfile h K) (gl : (He.Fa.glo "law").ok K = true) (hP : ((P.main.file : Str) == pfile) = true ∧ (P.main.scope.names.lookup ("super" : Str)).isSome = false) (ck : KDs kts w K) :
    ∃ fd : FuncData, (∀ (s : Shared) (v : Value), BindsTo s fd ⟨[v], []⟩ [("_law_script", v)]) ∧ ∀ base : Heap, K.In base → base.Ns mainGlobals mg → (∀ p ∈ tfs.map (He.cT K), LamX.TabB base mg p.1 p.2) → FnG P w K mg base CX0 9 f fd ["_law_script"] (spLaw K (TTl K)) := by
  have c := c2.s.t
  have T : Tx K mg := tx_of X G c
  have e := hfa.symm.trans (He.glo_ok X G gl)
  cases e
  have kd_RANKS : KdT K w (gd "RANKS" K) [("front", 0), ("middle", 1), ("back", 2)] := kdT_of (ck 0 _ rfl) T.kd_RANKS
  obtain ⟨f0, F0⟩ := c.def_ 0 (d := d_BadSpot___init__) rfl
  obtain ⟨f1, F1⟩ := c.def_ 1 (d := d_BadLength___init__) rfl
  obtain ⟨f2, F2⟩ := c.def_ 2 (d := d_BadRest___init__) rfl
  obtain ⟨f3, F3⟩ := c.def_ 3 (d := d__law_pen) rfl
  obtain ⟨f4, F4⟩ := c.def_ 4 (d := d__law_draw) rfl
  obtain ⟨f5, F5⟩ := c.def_ 5 (d := d_is_integer) rfl
  obtain ⟨f6, F6⟩ := c.def_ 6 (d := d_is_within) rfl
  obtain ⟨f7, F7⟩ := c.def_ 7 (d := d_is_length) rfl
  obtain ⟨f8, F8⟩ := c.def_ 8 (d := d_is_rest) rfl
  obtain ⟨f9, F9⟩ := c.def_ 9 (d := d_need_length) rfl
  obtain ⟨f10, F10⟩ := c.def_ 10 (d := d_need_rest) rfl
  obtain ⟨f11, F11⟩ := c.def_ 11 (d := d_Spot___init__) rfl
  obtain ⟨f12, F12⟩ := c.def_ 12 (d := d_Spot_near_front) rfl
  obtain ⟨f13, F13⟩ := c.def_ 13 (d := d_Spot_near_middle) rfl
  obtain ⟨f14, F14⟩ := c.def_ 14 (d := d_Spot_near_back) rfl
  obtain ⟨f15, F15⟩ := c.def_ 15 (d := d_Spot_kind) rfl
  obtain ⟨f16, F16⟩ := c.def_ 16 (d := d_Spot_place_at_length) rfl
  obtain ⟨f17, F17⟩ := c.def_ 17 (d := d_Spot___call__) rfl
  obtain ⟨f18, F18⟩ := c.def_ 18 (d := d_Spot_turned) rfl
  obtain ⟨f19, F19⟩ := c.def_ 19 (d := d_Spot___add__) rfl
  obtain ⟨f20, F20⟩ := c.def_ 20 (d := d_Spot___sub__) rfl
  obtain ⟨f21, F21⟩ := c.def_ 21 (d := d_Spot___eq__) rfl
  obtain ⟨f22, F22⟩ := c.def_ 22 (d := d_Spot___lt__) rfl
  obtain ⟨f23, F23⟩ := c.def_ 23 (d := d_Spot___le__) rfl
  obtain ⟨f24, F24⟩ := c.def_ 24 (d := d_Spot___gt__) rfl
  obtain ⟨f25, F25⟩ := c.def_ 25 (d := d_Spot___ge__) rfl
  obtain ⟨f26, F26⟩ := c.def_ 26 (d := d_Spot___str__) rfl
  obtain ⟨f27, F27⟩ := c.def_ 27 (d := d__law_pick) rfl
  obtain ⟨f28, F28⟩ := c.def_ 28 (d := d__law_heard) rfl
  obtain ⟨f29, F29⟩ := c.def_ 29 (d := d__law_place) rfl
  obtain ⟨f30, F30⟩ := c.def_ 30 (d := d__law_spot) rfl
  obtain ⟨f31, F31⟩ := c.def_ 31 (d := d__law_real) rfl
  obtain ⟨f32, F32⟩ := c.def_ 32 (d := d__law_length) rfl
  obtain ⟨f33, F33⟩ := c.def_ 33 (d := d__law_moved_right) rfl
  obtain ⟨f34, F34⟩ := c.def_ 34 (d := d__law_turned_right) rfl
  obtain ⟨f35, F35⟩ := c.def_ 35 (d := d__law_order_right) rfl
  obtain ⟨f36, F36⟩ := c.def_ 36 (d := d_law) rfl
  have b36 := FunD.bindsA (ps := ["_law_script"]) F36 fun _ _ _ _ _ _ us hl => match us, hl with | [_], _ => rfl
  refine ⟨f36, fun s v => b36 s [v] rfl, fun base _ _ TB => ?_⟩
  have lm__law_moved_right : LamD base mg K (TTl K) d__law_moved_right ("_law_moved_right", none) := ⟨TB _ (List.mem_map.mpr ⟨_, by decide, rfl⟩), by simp only [TTl, List.mem_cons, true_or, or_true], fun p hp e => by
      simp only [TTl, List.mem_cons, List.mem_nil_iff, or_false] at hp
      rcases hp with rfl | rfl
      · rfl
      · exact absurd e (T.tn__law_moved_right__law_turned_right).symm⟩
  have lm__law_turned_right : LamD base mg K (TTl K) d__law_turned_right ("_law_turned_right", none) := ⟨TB _ (List.mem_map.mpr ⟨_, by decide, rfl⟩), by simp only [TTl, List.mem_cons, true_or, or_true], fun p hp e => by
      simp only [TTl, List.mem_cons, List.mem_nil_iff, or_false] at hp
      rcases hp with rfl | rfl
      · exact absurd e T.tn__law_moved_right__law_turned_right
      · rfl⟩
  have p0 : PromO P w K mg base CX0 1 (md "BadSpot" "__init__" K) [] (spErr1 (gd "BadSpot" K) "part") := pm_PromO (ok_BadSpot___init__ F0 T ) (F0.bindsN fun _ _ _ _ _ _ us hl => match us, hl with | [_, _], _ => rfl)
  have p1 : PromO P w K mg base CX0 1 (md "BadLength" "__init__" K) [] (spErr1 (gd "BadLength" K) "value") := pm_PromO (ok_BadLength___init__ F1 T ) (F1.bindsN fun _ _ _ _ _ _ us hl => match us, hl with | [_, _], _ => rfl)
  have p2 : PromO P w K mg base CX0 1 (md "BadRest" "__init__" K) [] (spErr1 (gd "BadRest" K) "value") := pm_PromO (ok_BadRest___init__ F2 T ) (F2.bindsN fun _ _ _ _ _ _ us hl => match us, hl with | [_, _], _ => rfl)
  have p3 : PromO P w K mg base CX0 1 (gd "_law_pen" K) [] (spPn K) := pm_PromO (ok__law_pen F3 T ) (F3.bindsN fun _ _ _ _ _ _ us hl => match us, hl with | [_], _ => rfl)
  have p4 : PromO P w K mg base CX0 1 (gd "_law_draw" K) [] (spF K (TTl K) (ul2 F_draw)) := pm_PromO (ok__law_draw (Tb := TTl K) F4 T ) (F4.bindsN fun _ _ _ _ _ _ us hl => match us, hl with | [_, _], _ => rfl)
  have p5 : PromO P w K mg base CX0 1 (gd "is_integer" K) [] (spF K (TTl K) (ul1 F_is_integer)) := pm_PromO (ok_is_integer (Tb := TTl K) F5 T ) (F5.bindsN fun _ _ _ _ _ _ us hl => match us, hl with | [_], _ => rfl)
  have p6 : PromO P w K mg base CX0 2 (gd "is_within" K) [] (spF K (TTl K) (ul3 F_is_within)) := pm_PromO (ok_is_within (Tb := TTl K) F6 T p5) (F6.bindsN fun _ _ _ _ _ _ us hl => match us, hl with | [_, _, _], _ => rfl)
  have p7 : PromO P w K mg base CX0 3 (gd "is_length" K) [] (spF K (TTl K) (ul1 F_is_length)) := pm_PromO (ok_is_length (Tb := TTl K) F7 T p6) (F7.bindsN fun _ _ _ _ _ _ us hl => match us, hl with | [_], _ => rfl)
  have p8 : PromO P w K mg base CX0 3 (gd "is_rest" K) [] (spF K (TTl K) (ul1 F_is_rest)) := pm_PromO (ok_is_rest (Tb := TTl K) F8 T p6) (F8.bindsN fun _ _ _ _ _ _ us hl => match us, hl with | [_], _ => rfl)
  have p9 : PromO P w K mg base (L2.CX P w) 4 (gd "need_length" K) [] (spF K (TTl K) (ul1 F_need_length)) := pm_PromO (ok_need_length (Tb := TTl K) F9 T p7 p1) (F9.bindsN fun _ _ _ _ _ _ us hl => match us, hl with | [_], _ => rfl)
  have p10 : PromO P w K mg base (L2.CX P w) 4 (gd "need_rest" K) [] (spF K (TTl K) (ul1 F_need_rest)) := pm_PromO (ok_need_rest (Tb := TTl K) F10 T p8 p2) (F10.bindsN fun _ _ _ _ _ _ us hl => match us, hl with | [_], _ => rfl)
  have p11 : PromO P w K mg base (L2.CX P w) 3 (md "Spot" "__init__" K) [] (spI K (TTl K) "Spot" (fun fs => ul2 (F_Spot___init__ fs))) := pm_PromO (ok_Spot___init__ (Tb := TTl K) F11 T p0 p6 kd_RANKS) (F11.bindsN fun _ _ _ _ _ _ us hl => match us, hl with | [_, _, _], _ => rfl)
  have p12 : PromO P w K mg base (L2.CX P w) 5 (staG "Spot" "near_front" K) [] (spF K (TTl K) (ul1 F_Spot_near_front)) := pm_PromO (ok_Spot_near_front (Tb := TTl K) F12 T p11) (F12.bindsN fun _ _ _ _ _ _ us hl => match us, hl with | [_], _ => rfl)
  have p13 : PromO P w K mg base (L2.CX P w) 5 (staG "Spot" "near_middle" K) [] (spF K (TTl K) (ul1 F_Spot_near_middle)) := pm_PromO (ok_Spot_near_middle (Tb := TTl K) F13 T p11) (F13.bindsN fun _ _ _ _ _ _ us hl => match us, hl with | [_], _ => rfl)
  have p14 : PromO P w K mg base (L2.CX P w) 5 (staG "Spot" "near_back" K) [] (spF K (TTl K) (ul1 F_Spot_near_back)) := pm_PromO (ok_Spot_near_back (Tb := TTl K) F14 T p11) (F14.bindsN fun _ _ _ _ _ _ us hl => match us, hl with | [_], _ => rfl)
  have pk14_0_i : PromK P w K mg base (L2.CX P w) 5 (staG "Spot" "near_back" K) 0 ["i"] (fun vs zs => vs ++ picks [.inl 0] [] zs) (spF K (TTl K) (ul1 F_Spot_near_back)) := ⟨_, _, _, (ok_Spot_near_back (Tb := TTl K) F14 T p11), FunD.kbN F14 0 ["i"] [.inl 0] fun _ _ _ _ _ _ us ws h1 h2 => match us, h1, ws, h2 with | [], _, [_], _ => rfl⟩
  have p15 : PromO P w K mg base CX0 1 (propG "Spot" "kind" K) [] (spF K (TTl K) (ul1 F_Spot_kind)) := pm_PromO (ok_Spot_kind (Tb := TTl K) F15 T ) (F15.bindsN fun _ _ _ _ _ _ us hl => match us, hl with | [_], _ => rfl)
  have p16 : PromO P w K mg base CX0 3 (md "Spot" "place_at_length" K) [] (spF K (TTl K) (ul2 F_Spot_place_at_length)) := pm_PromO (ok_Spot_place_at_length (Tb := TTl K) F16 T p15) (F16.bindsN fun _ _ _ _ _ _ us hl => match us, hl with | [_, _], _ => rfl)
  have p17 : PromO P w K mg base (L2.CX P w) 5 (md "Spot" "__call__" K) [] (spF K (TTl K) (ul2 F_Spot___call__)) := pm_PromO (ok_Spot___call__ (Tb := TTl K) F17 T p9 p16) (F17.bindsN fun _ _ _ _ _ _ us hl => match us, hl with | [_, _], _ => rfl)
  have p18 : PromO P w K mg base (L2.CX P w) 5 (md "Spot" "turned" K) [] (spF K (TTl K) (ul2 F_Spot_turned)) := pm_PromO (ok_Spot_turned (Tb := TTl K) F18 T p10 p15 p11) (F18.bindsN fun _ _ _ _ _ _ us hl => match us, hl with | [_, _], _ => rfl)
  have pk18_1_rest : PromK P w K mg base (L2.CX P w) 5 (md "Spot" "turned" K) 1 ["rest"] (fun vs zs => vs ++ picks [.inl 0] [] zs) (spF K (TTl K) (ul2 F_Spot_turned)) := ⟨_, _, _, (ok_Spot_turned (Tb := TTl K) F18 T p10 p15 p11), FunD.kbN F18 1 ["rest"] [.inl 0] fun _ _ _ _ _ _ us ws h1 h2 => match us, h1, ws, h2 with | [_], _, [_], _ => rfl⟩
  have p19 : PromO P w K mg base (L2.CX P w) 5 (md "Spot" "__add__" K) [] (spF K (TTl K) (ul2 F_Spot___add__)) := pm_PromO (ok_Spot___add__ (Tb := TTl K) F19 T p11) (F19.bindsN fun _ _ _ _ _ _ us hl => match us, hl with | [_, _], _ => rfl)
  have p20 : PromO P w K mg base (L2.CX P w) 5 (md "Spot" "__sub__" K) [] (spF K (TTl K) (ul2 F_Spot___sub__)) := pm_PromO (ok_Spot___sub__ (Tb := TTl K) F20 T p11) (F20.bindsN fun _ _ _ _ _ _ us hl => match us, hl with | [_, _], _ => rfl)
  have p21 : PromO P w K mg base CX0 1 (md "Spot" "__eq__" K) [] (spF K (TTl K) (ul2 F_Spot___eq__)) := pm_PromO (ok_Spot___eq__ (Tb := TTl K) F21 T ) (F21.bindsN fun _ _ _ _ _ _ us hl => match us, hl with | [_, _], _ => rfl)
  have p22 : PromO P w K mg base CX0 1 (md "Spot" "__lt__" K) [] (spF K (TTl K) (ul2 F_Spot___lt__)) := pm_PromO (ok_Spot___lt__ (Tb := TTl K) F22 T ) (F22.bindsN fun _ _ _ _ _ _ us hl => match us, hl with | [_, _], _ => rfl)
  have p23 : PromO P w K mg base CX0 1 (md "Spot" "__le__" K) [] (spF K (TTl K) (ul2 F_Spot___le__)) := pm_PromO (ok_Spot___le__ (Tb := TTl K) F23 T ) (F23.bindsN fun _ _ _ _ _ _ us hl => match us, hl with | [_, _], _ => rfl)
  have p24 : PromO P w K mg base CX0 1 (md "Spot" "__gt__" K) [] (spF K (TTl K) (ul2 F_Spot___gt__)) := pm_PromO (ok_Spot___gt__ (Tb := TTl K) F24 T ) (F24.bindsN fun _ _ _ _ _ _ us hl => match us, hl with | [_, _], _ => rfl)
  have p25 : PromO P w K mg base CX0 1 (md "Spot" "__ge__" K) [] (spF K (TTl K) (ul2 F_Spot___ge__)) := pm_PromO (ok_Spot___ge__ (Tb := TTl K) F25 T ) (F25.bindsN fun _ _ _ _ _ _ us hl => match us, hl with | [_, _], _ => rfl)
  have p26 : PromO P w K mg base CX0 3 (md "Spot" "__str__" K) [] (spF K (TTl K) (ul1 F_Spot___str__)) := pm_PromO (ok_Spot___str__ (Tb := TTl K) F26 T p15) (F26.bindsN fun _ _ _ _ _ _ us hl => match us, hl with | [_], _ => rfl)
  have p27 : PromO P w K mg base CX0 2 (gd "_law_pick" K) [] (spF K (TTl K) (ul2 F__law_pick)) := pm_PromO (ok__law_pick (Tb := TTl K) F27 T p4) (F27.bindsN fun _ _ _ _ _ _ us hl => match us, hl with | [_, _], _ => rfl)
  have p28 : HrdP K d__law_heard ["_law_ask"] := ⟨f28, F28, F28.bindsN fun _ _ _ _ _ _ us hl => match us, hl with | [_], _ => rfl⟩
  have p29 : PromO P w K mg base CX0 1 (gd "_law_place" K) [] (spF K (TTl K) (ul2 F__law_place)) := pm_PromO (ok__law_place (Tb := TTl K) F29 T ) (F29.bindsN fun _ _ _ _ _ _ us hl => match us, hl with | [_, _], _ => rfl)
  have p30 : PromO P w K mg base CX0 3 (gd "_law_spot" K) [] (spF K (TTl K) (ul2 F__law_spot)) := pm_PromO (ok__law_spot (Tb := TTl K) F30 T p27 p4) (F30.bindsN fun _ _ _ _ _ _ us hl => match us, hl with | [_, _], _ => rfl)
  have p31 : PromO P w K mg base CX0 5 (gd "_law_real" K) [] (spF K (TTl K) (ul1 F__law_real)) := pm_PromO (ok__law_real (Tb := TTl K) F31 T p11) (F31.bindsN fun _ _ _ _ _ _ us hl => match us, hl with | [_], _ => rfl)
  have p32 : PromO P w K mg base CX0 3 (gd "_law_length" K) [] (spF K (TTl K) (ul1 F__law_length)) := pm_PromO (ok__law_length (Tb := TTl K) F32 T p4 p27) (F32.bindsN fun _ _ _ _ _ _ us hl => match us, hl with | [_], _ => rfl)
  have p33 : Prom P w K mg base CX0 8 (gd "_law_moved_right" K) [] (spF K (TTl K) (ul2 F__law_moved_right)) := pm_Prom (ok__law_moved_right (Tb := TTl K) F33 T p31 p28 lm__law_moved_right p19 p20 p15) (F33.bindsN fun _ _ _ _ _ _ us hl => match us, hl with | [_, _], _ => rfl)
  have p34 : Prom P w K mg base CX0 8 (gd "_law_turned_right" K) [] (spF K (TTl K) (ul2 F__law_turned_right)) := pm_Prom (ok__law_turned_right (Tb := TTl K) F34 T p31 p29 p28 lm__law_turned_right p18 pk18_1_rest p17 p21) (F34.bindsN fun _ _ _ _ _ _ us hl => match us, hl with | [_, _], _ => rfl)
  have p35 : Prom P w K mg base CX0 6 (gd "_law_order_right" K) [] (spF K (TTl K) (ul1 F__law_order_right)) := pm_Prom (ok__law_order_right (Tb := TTl K) F35 T p29 p31 p22 p23 p24 p25 p21 p26) (F35.bindsN fun _ _ _ _ _ _ us hl => match us, hl with | [_], _ => rfl)
  exact ok_law (Tb := TTl K) F36 T law_yes p3 p30 p32 p31 p17 p29 p34 p4 p33 p27 p12 p13 pk14_0_i p11 p21 p35
end Lw
open PySem PySem.W PySem.Calls PyProof.Rows
set_option maxRecDepth 100000 in
set_option maxHeartbeats 0 in
theorem PySem.Challenge.cw_everyhunt_k55_spots_at_lengths_holds : PySem.Challenge.rw_everyhunt_k55_spots_at_lengths.Holds := by
  w_on; o_law
  refine HandSHeadRun.head_any (r := OpenLaw.row PySem.Challenge.rw_everyhunt_k55_spots_at_lengths) (q := view (OpenLaw.row PySem.Challenge.rw_everyhunt_k55_spots_at_lengths).prog [37]) (H := Lw.hk) (ob := Lw.ob) (M := 40000) (loose := Lw.loose) (d := HandSHeadRun.topDef (OpenLaw.row PySem.Challenge.rw_everyhunt_k55_spots_at_lengths).prog 37) (kwd := []) Lw.ob_eq
    (by kernel_rfl) (fun s => by kernel_rfl) Lw.run (by kernel_rfl) (by kernel_rfl) (by kernel_rfl) (by rfl) (by first | assumption | decide +kernel) (by decide +kernel) ⟨rfl, rfl, rfl, rfl, rfl, by decide +kernel⟩ ?hw ?hc
  case hw => w_witness2
  case hc =>
    refine Gh.walk_ofTsG (l := PySem.Challenge.rw_everyhunt_k55_spots_at_lengths) (n := 63) (k := 9) (x := "_law_script") (CX := fun _ => L2.CX0) rfl (by decide) (by kernel_rfl) ⟨rfl, by decide, by decide⟩ ?F (fun _ _ _ _ _ z => z)
    intro w mg fa h Y G hmg0
    obtain ⟨K, KX, c, cd⟩ := Y
    have hmg : mg ("law" : PySem.Str) = some (.ref fa) := by
      have e : (HandSHeadRun.topDef (OpenLaw.row PySem.Challenge.rw_everyhunt_k55_spots_at_lengths).prog 37).name = ("law" : PySem.Str) := by kernel_rfl
      rw [← e]
      exact hmg0
    obtain ⟨fd, hb, hF⟩ := Lw.facts (P := (PySem.Challenge.rw_everyhunt_k55_spots_at_lengths).prog) (w := w) KX G hmg c (c.s.t.fact 141 rfl) ⟨by kernel_rfl, by kernel_rfl⟩ cd
    refine ⟨K, fd, Lw.tfs.map (He.cT K), Gp.spLaw K (Lw.TTl K), KX, fun p hp => ?_, fun p hp => ?_, fun p hp => ?_, hb, fun H a ns hl hT hS => ⟨a, ns, rfl, hS, hl, fun p hp => ?_, fun _ => rfl⟩, fun base h1 h2 h3 => hF base h1 h2 h3⟩
    · obtain ⟨d, hd, rfl⟩ := List.mem_map.mp hp
      exact c.s.empty d hd
    · obtain ⟨d, hd, rfl⟩ := List.mem_map.mp hp
      exact c.s.out d hd
    · obtain ⟨d, hd, rfl⟩ := List.mem_map.mp hp
      exact PySem.W.codeHd_of_K KX (c.s.hd d hd)
    · have e : ∀ p ∈ Lw.TTl K, ∃ d ∈ Lw.tfs.map (He.cT K), p.1 = d.2 := fun p hp => by
        have z : (Lw.TTl K).map (·.1) = (Lw.tfs.map (He.cT K)).map (·.2) := rfl
        have m : p.1 ∈ (Lw.tfs.map (He.cT K)).map (·.2) := by rw [← z]; exact List.mem_map.mpr ⟨p, hp, rfl⟩
        obtain ⟨d, hd, e⟩ := List.mem_map.mp m
        exact ⟨d, hd, e.symm⟩
      obtain ⟨d, hd, ed⟩ := e p hp
      exact LamX.TabS.nil (by rw [ed]; exact hT d hd)
#print axioms PySem.Challenge.cw_everyhunt_k55_spots_at_lengths_holds
end
