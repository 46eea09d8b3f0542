import PyProof.Rows.All
import Wide.All
import OpenK.AllK
import Wide.FinOn
import KE.KStateDown
import KE.KOpsOwn
import HandS.ForMost
import HandS.More
import HandS.Exc
import HandS.WordsExc
import HandS.Defaults
import HandS.Property
import HandS.IsInst
import HandS.Wide
import HandS.Head0
import HandS.Head1
import HandS.Head2
import HandS.HeadEnd
import HandS.HeadHook1
import HandS.HeadHook2
import PyProof.ReprRoads
import HandS.ExcInit
import HandS.ExcField
import HandS.ExcIs
import KE.KExcIs
import HandS.EndTab
import HandS.HeadHook4
import HandS.Star
import HandS.ClsMeth
import HandS.Lambda
import HandS.RaiseMore
import HandS.Iter
import KE.GoesMore
import PyProof.EnumMake
import HandS.MakeKw
import KE.KCallOwn
import PyProof.InstNe
import HandS.GenList
import PyProof.GenComp
import HandS.TupAny
import HandS.SortInts
import HandS.OwnEq
import HandS.Style
import HandS.Conv
import KE.KSuper
import HandS.NestedK
import HandS.SetFor
import HandS.Strs
import HandS.Zip
import HandS.TryMany
import PySem.Challenge.RW_everyhunt_k27_blocks_made
set_option Elab.async false
section
set_option Elab.async false
set_option linter.all false
set_option maxRecDepth 100000
namespace Gh
open PySem PySem.Spec PyProof.Rows L2
structure Df where
  adr : PySem.W.Frag → Addr
  name : Str
  qual : Str
  st : Stmt
  dfl : List He.Dv := []
def Df.val (d : Df) : He.FnW := some (d.name, d.qual, defArgs d.st, .stmts (defBody d.st), defScope d.st, mainGlobals, [], builtinsNs)
def Df.dvs (K : PySem.W.Frag) (d : Df) : List V := d.dfl.map (He.Dv.v K)
def fnAt (K : PySem.W.Frag) (a : Addr) : He.FnW := match K.lookup a with
  | some ⟨_, _, .func fd, _⟩ => some (fd.name, fd.qualname, fd.params, fd.body, fd.scope, fd.globals, fd.closure, fd.builtins)
  | _ => none
def Df.ok (K : PySem.W.Frag) (d : Df) : Bool := PySem.W.keepIn K (.ref (d.adr K)) && (match K.lookup (d.adr K) with
  | some ⟨_, _, .func fd, _⟩ => PySem.W.codeIn K fd.code d.qual && (He.dflB K fd.defaults (d.dvs K) && He.kwdB K fd.kwdefaults [])
  | _ => false)
abbrev Al : Type := Bool × List He.FnW
def obs (ex : List (PySem.W.Frag → Bool)) (fn : List Df) (K : PySem.W.Frag) : Al := ((ex.all fun f => f K) && fn.all fun d => d.ok K, fn.map fun d => fnAt K (d.adr K))
def val (fn : List Df) : Al := (true, fn.map Df.val)
def Says (ex : List (PySem.W.Frag → Bool)) (fn : List Df) (K : PySem.W.Frag) : Prop := obs ex fn K = val fn
def propG (x m : Str) (K : PySem.W.Frag) : Addr := match PySem.W.recIn K (He.ma K (He.ga K x) m) "property" with
  | some (.ref g :: _) => g
  | _ => 0
def propB (x m : Str) (K : PySem.W.Frag) : Bool := He.eqO (PySem.W.findIn K (.ref (He.ga K x)) m) (some (some (.ref (He.ma K (He.ga K x) m)))) &&
  (He.eqO (PySem.W.specialIn K (.ref (He.ma K (He.ga K x) m)) "__get__") (some (some (.builtin "property.__get__"))) &&
  (decide (PySem.W.takesIn K (.ref (He.ma K (He.ga K x) m)) = some true) && (match PySem.W.recIn K (He.ma K (He.ga K x) m) "property" with
    | some (.ref _ :: _) => true
    | _ => false)))
def gd (x : Str) : PySem.W.Frag → Addr := fun K => He.ga K x
def md (x m : Str) : PySem.W.Frag → Addr := fun K => He.ma K (He.ga K x) m
def fa (f : He.Fa) : PySem.W.Frag → Bool := fun K => f.ok K
structure InsT (K : PySem.W.Frag) (C : Addr) : Prop where
  ha : PySem.W.findIn K (.ref C) "__class__" = some (some (.builtin "object.__class__"))
  hn : PySem.W.specialIn K (.builtin "object.__class__") "__get__" = some (some (.builtin "getset_descriptor.__get__"))
  htk : PySem.W.takesIn K (.builtin "object.__class__") = some true
  hm : PySem.W.mroIn K C (.type "object") = some true
  yes : PySem.W.kitOne K (.ref C) (.ref C) = some true
  no : ∀ n ∈ (["NoneType", "bool", "int", "str", "list", "tuple", "dict"] : List String), PySem.W.kitOne K (.type n) (.ref C) = some false
  out : ∀ n ∈ (["NoneType", "bool", "int", "str", "list", "tuple", "dict"] : List String), PySem.W.kitOne K (.ref C) (.type n) = some false
def insB (x : Str) (K : PySem.W.Frag) : Bool := He.eqO (PySem.W.findIn K (.ref (gd x K)) "__class__") (some (some (.builtin "object.__class__"))) &&
  (He.eqO (PySem.W.specialIn K (.builtin "object.__class__") "__get__") (some (some (.builtin "getset_descriptor.__get__"))) &&
  (decide (PySem.W.takesIn K (.builtin "object.__class__") = some true) && (decide (PySem.W.mroIn K (gd x K) (.type "object") = some true) &&
  (decide (PySem.W.kitOne K (.ref (gd x K)) (.ref (gd x K)) = some true) && (((["NoneType", "bool", "int", "str", "list", "tuple", "dict"] : List String).all fun n => decide (PySem.W.kitOne K (.type n) (.ref (gd x K)) = some false)) &&
  ((["NoneType", "bool", "int", "str", "list", "tuple", "dict"] : List String).all fun n => decide (PySem.W.kitOne K (.ref (gd x K)) (.type n) = some false)))))))
def ownB (x : Str) (K : PySem.W.Frag) : Bool := PySem.W.selfFirst K (gd x K) && (PySem.W.notFirst K (gd x K) (.ref (gd x K)) && decide (PySem.W.subIn K (.type "int") (.ref (gd x K)) = some false))
end Gh
end
section
set_option Elab.async false
set_option linter.all false
set_option maxRecDepth 100000
set_option maxHeartbeats 4000000
namespace Gh
open PySem PySem.Spec PyProof.Rows L2
structure FnG (P : Program) (w : World) (K : PySem.W.Frag) (mg : Str → Option Value) (base : Heap) (CX : CXT) (k : Nat) (f : Addr) (fd : FuncData) (ps : List Str) (sp : Sp) : Prop where
  len : ∀ vs H Q E, sp vs H Q E → vs.length = ps.length
  run : ∀ (A : Around) (outer : List Env) (s : Shared) (H : Hp) (args : Args) (us : List Value) (vs : List V) (Q : VK) (E : XK), Room k A → A.guards = some [] → Env0 P w K mg base A outer s H → BindsTo s fd args (ps.zip us) → Vals vs us → sp vs H Q E →
    codeAny (model P w) A (.call (.ref f) args) (CR CX outer P w H s Q E) s
def Prom (P : Program) (w : World) (K : PySem.W.Frag) (mg : Str → Option Value) (base : Heap) (CX : CXT) (k : Nat) (f : Addr) (dvs : List V) (sp : Sp) : Prop :=
  ∃ (fd : FuncData) (ps : List Str) (ds : List Value), FnG P w K mg base CX k f fd ps sp ∧ Binds K fd ps ds ∧ Vals dvs ds
section
variable {P : Program} {w : World} {K : PySem.W.Frag} {mg : Str → Option Value} {base : Heap} {CX : CXT} {j k : Nat} {f : Addr} {fd : FuncData} {ps : List Str} {sp : Sp} {dvs : List V}
theorem FnG.mono (F : FnG P w K mg base CX j f fd ps sp) (h : j ≤ k) : FnG P w K mg base CX k f fd ps sp := ⟨F.len, fun A o s H a us vs Q E hr => F.run A o s H a us vs Q E (hr.mono h)⟩
theorem Prom.mono (F : Prom P w K mg base CX j f dvs sp) (h : j ≤ k) : Prom P w K mg base CX k f dvs sp := by
  obtain ⟨fd, ps, ds, G, b, v⟩ := F
  exact ⟨fd, ps, ds, G.mono h, b, v⟩
end
section
variable {X : Cx} {CX : CXT} {k : Nat} {f g C : Addr} {sp : Sp} {dvs : List V} {E : XK} {x m : Str} {p pos apos : Pos} {e o : Expr} {es : List Expr} {ta tb : TE} {t : TA} {r : List V → Hp → VK → Prop}
abbrev PromX (X : Cx) (CX : CXT) (k : Nat) (f : Addr) (dvs : List V) (sp : Sp) : Prop := Prom X.prog X.w X.K X.mg X.base CX k f dvs sp
def rSp (sp : Sp) (dvs : List V) (E : XK) : List V → Hp → VK → Prop := fun xs H Q => sp (xs ++ dvs) H Q E
theorem Prom.call (F : PromX X CX k f dvs sp) (hr : Room k X.A) (hg : X.A.guards = some []) (hx : Passes CX X E) : CallR X (.ref f) (rSp sp dvs E) := by
  intro pins s σ H xs us Q I r h
  obtain ⟨fd, ps, ds, G, b, hd⟩ := F
  have r2 : Vals (xs ++ dvs) (us ++ ds) := r.append hd
  have hl : (us ++ ds).length = ps.length := by rw [← r2.length]; exact G.len _ _ _ _ h
  refine wpAny_call (codeAny_mono (G.run X.A X.stack s H ⟨us, []⟩ (us ++ ds) (xs ++ dvs) Q E hr hg I.env0 (b s us I.kIn hl) r2 h) fun r s' hq => ?_)
  cases r with
  | error e => exact hx pins σ H s e s' I hq
  | ok fl =>
    cases fl with
    | ret u => exact I.after hq
    | next => exact False.elim hq
    | brk => exact False.elim hq
    | cont => exact False.elim hq
theorem ins_look {pins : List (Addr × Obj)} {σ : L2.St} {H : Hp} {s : Shared} {a dx : Addr} {fs : List (Str × V)} (I : Inv X pins σ H s) (h : H a = some (.ins C dx fs)) : ∃ ox od, PySem.W.InstAt s.heap a ox C od := by
  obtain ⟨mA, O, _, _, _, _⟩ := ins_get I.hok h
  obtain ⟨od, J, _⟩ := O.look
  exact ⟨_, _, J⟩
end
end Gh
end
section
set_option Elab.async false
set_option linter.all false
set_option maxRecDepth 100000
set_option maxHeartbeats 4000000
namespace Gh
open PySem PySem.Spec PyProof.Rows L2
def Keep (H H' : Hp) (p : Addr) : Prop := ∀ a o, H a = some o → a ≠ p → H' a = some o
theorem Keep.refl {H : Hp} {p : Addr} : Keep H H p := fun _ _ h _ => h
theorem Keep.trans {H H' H'' : Hp} {p : Addr} (h : Keep H H' p) (k : Keep H' H'' p) : Keep H H'' p := fun a o e n => k a o (h a o e n) n
def PenAt (H : Hp) (p : Addr) (b : Nat) : Prop := ∃ (c : Addr) (ns : List Int) (i z : Int), H p = some (.lst [.ref c, .int i, .int z]) ∧ H c = some (.lst (ns.map V.int)) ∧ ns.length ≤ 63 ∧ 0 ≤ i ∧ i + b ≤ 1000000 ∧ 0 ≤ z
theorem PenAt.le {H : Hp} {p : Addr} {a b : Nat} (h : PenAt H p b) (k : a ≤ b) : PenAt H p a := by
  obtain ⟨c, ns, i, z, h1, h2, h3, h4, h5, h6⟩ := h
  exact ⟨c, ns, i, z, h1, h2, h3, h4, by omega, h6⟩
theorem pen_ne {H : Hp} {p c : Addr} {ns : List Int} {i z : Int} (h : H p = some (.lst [.ref c, .int i, .int z])) (k : H c = some (.lst (ns.map V.int))) : c ≠ p := by
  refine ne_of k h fun e => ?_
  have e2 : ns.map V.int = [.ref c, .int i, .int z] := HO.lst.inj e
  cases ns with
  | nil => cases e2
  | cons n r => cases (List.cons.inj e2).1
theorem PenAt.same {H H' : Hp} {p : Addr} {b : Nat} (h : PenAt H p b) (n : L2.Same H H') : PenAt H' p b := by
  obtain ⟨c, ns, i, z, h1, h2, h3⟩ := h
  exact ⟨c, ns, i, z, n _ _ h1, n _ _ h2, h3⟩
end Gh
end
section
set_option Elab.async false
set_option linter.all false
set_option maxRecDepth 100000
set_option maxHeartbeats 4000000
namespace Gh
open PySem PySem.Spec PyProof.Rows L2
def exk (a C d : Addr) : HO := .ext fun h => ∃ (o : Obj) (vs : Array Value), h.get? a = some o ∧ o.cls = .ref C ∧ o.dict = some d ∧ o.data = .fields vs
def errB (x : Str) (K : PySem.W.Frag) : Bool := He.eqO (PySem.W.findIn K (.ref (gd x K)) "__getattribute__") (some (some (.builtin "BaseException.__getattribute__"))) &&
  (He.eqO (PySem.W.findIn K (.ref (gd x K)) "__getattr__") (some none) && (decide (PySem.W.subIn K (.ref (gd x K)) (.type "BaseException") = some true) && (PySem.W.hasDictIn K (gd x K) &&
  (He.eqO (PySem.W.findIn K (.ref (gd x K)) "__class__") (some (some (.builtin "object.__class__"))) && (He.eqO (PySem.W.specialIn K (.builtin "object.__class__") "__get__") (some (some (.builtin "getset_descriptor.__get__"))) &&
  (decide (PySem.W.takesIn K (.builtin "object.__class__") = some true) && decide (PySem.W.mroIn K (gd x K) (.type "object") = some true)))))))
section
variable {X : Cx} {e : Expr} {te : TE} {pos : Pos} {n : Str}
end
section
variable {X : Cx} {x n : Str} {c : Value} {i : Nat} {body suite : List Stmt} {b₀ : Stmt} {np pos pos' : Pos} {tb : WX → TS} {ts : Addr → Value → Option Addr → TS} {Wout : WX}
end
end Gh
end
section
set_option Elab.async false
set_option linter.all false
set_option maxRecDepth 100000
set_option maxHeartbeats 4000000
namespace Gh
open PySem PySem.Spec PyProof.Rows L2
structure SaysT (ex : List (PySem.W.Frag → Bool)) (fn : List Df) (tf : List He.Defn) (h : Heap) (K : PySem.W.Frag) : Prop where
  t : Says ex fn K
  hd : ∀ p ∈ tf, PySem.W.codeHdIn K (He.cT K p).1 (He.cT K p).2 = true
  out : ∀ p ∈ tf, K.lookup (He.cT K p).2 = none
  empty : ∀ p ∈ tf, h.get? (He.cT K p).2 = some { cls := .none, data := .fields #[] }
abbrev AlT : Type := Al × Bool
end Gh
end
section
set_option Elab.async false
set_option linter.all false
set_option maxRecDepth 100000
set_option maxHeartbeats 4000000
namespace Gh
open PySem PySem.Spec PyProof.Rows L2
def PromO (P : Program) (w : World) (K : PySem.W.Frag) (mg : Str → Option Value) (base : Heap) (CX : CXT) (k : Nat) (f : Addr) (dvs : List V) (sp : Sp) : Prop :=
  ∃ (fd : FuncData) (ps : List Str) (ds : List Value), FnOk P w K mg base CX k f fd ps sp ∧ Binds K fd ps ds ∧ Vals dvs ds
section
variable {X : Cx} {CX : CXT} {k : Nat} {f g C : Addr} {sp : Sp} {dvs : List V} {E : XK} {m : Str} {pos : Pos} {o : Expr} {ta : TE}
abbrev PromOX (X : Cx) (CX : CXT) (k : Nat) (f : Addr) (dvs : List V) (sp : Sp) : Prop := PromO X.prog X.w X.K X.mg X.base CX k f dvs sp
theorem PromO.call (F : PromOX X CX k f dvs sp) (hr : Room k X.A) (hx : Passes CX X E) : CallR X (.ref f) (rSp sp dvs E) := by
  intro pins s σ H xs us Q I r h
  obtain ⟨fd, ps, ds, G, b, hd⟩ := F
  exact run_fn G hr b hd hx I r h
end
def oexB (x : Str) (K : PySem.W.Frag) : Bool := (match K.lookup (gd x K) with
  | some ⟨.type c, _, .cls ⟨_, _, .ref m :: bm, _, _, hd, _, _, _, _, dl⟩, ⟨[_, _, _, _, some (.builtin n), _]⟩⟩ => decide (c = "type") && (decide (m = gd x K) && (PySem.HandSPX.refsVE bm && (hd && (!dl && decide (n = "ValueError.__new__")))))
  | _ => false) && (He.eqO (PySem.W.findIn K (.ref (gd x K)) "__setattr__") (some (some (.builtin "object.__setattr__"))) && (decide (PySem.W.subIn K (.ref (gd x K)) (.type "BaseException") = some true) &&
  (decide (PySem.W.typeIn K (.ref (gd x K)) = some (.type "type")) && PySem.W.keepIn K (.ref (gd x K)))))
inductive Kd (H : Hp) : V → Prop
  | non : Kd H .non
  | bl (b : Bool) : Kd H (.bl b)
  | int (i : Int) : Kd H (.int i)
  | str (x : Str) : Kd H (.str x)
  | lst {a : Addr} {xs : List V} (h : H a = some (.lst xs)) : Kd H (.ref a)
  | tup {a : Addr} {xs : List V} (h : H a = some (.tup xs)) : Kd H (.ref a)
  | dK {a : Addr} {kvs : List (Key × V)} (h : H a = some (.dK kvs)) : Kd H (.ref a)
theorem Kd.ty {K : PySem.W.Frag} {H : Hp} {v : V} (k : Kd H v) : ∃ n : String, TyX K H v (.type n) ∧ ((∃ i, v = .int i) ∧ n = "int" ∨ (∃ b, v = .bl b) ∧ n = "bool" ∨ (∀ i, v ≠ .int i) ∧ (∀ b, v ≠ .bl b) ∧ n ∈ (["NoneType", "str", "list", "tuple", "dict"] : List String)) := by
  cases k with
  | non => exact ⟨_, .base .non, .inr (.inr ⟨fun _ => nofun, fun _ => nofun, by decide⟩)⟩
  | bl b => exact ⟨_, .base (.bl b), .inr (.inl ⟨⟨b, rfl⟩, rfl⟩)⟩
  | int i => exact ⟨_, .base (.int i), .inl ⟨⟨i, rfl⟩, rfl⟩⟩
  | str x => exact ⟨_, .base (.str x), .inr (.inr ⟨fun _ => nofun, fun _ => nofun, by decide⟩)⟩
  | lst h => exact ⟨_, .base (.lst h), .inr (.inr ⟨fun _ => nofun, fun _ => nofun, by decide⟩)⟩
  | tup h => exact ⟨_, .base (.tup h), .inr (.inr ⟨fun _ => nofun, fun _ => nofun, by decide⟩)⟩
  | dK h => exact ⟨_, .base (.dK h), .inr (.inr ⟨fun _ => nofun, fun _ => nofun, by decide⟩)⟩
theorem Kd.same {H H' : Hp} {v : V} (k : Kd H v) (s : L2.Same H H') : Kd H' v := by
  cases k with
  | non => exact .non
  | bl b => exact .bl b
  | int i => exact .int i
  | str x => exact .str x
  | lst h => exact .lst (s _ _ h)
  | tup h => exact .tup (s _ _ h)
  | dK h => exact .dK (s _ _ h)
end Gh
end
section
set_option Elab.async false
set_option linter.all false
set_option maxRecDepth 100000
set_option maxHeartbeats 4000000
namespace Gh
open PySem PySem.Spec PyProof.Rows L2
inductive Shw (K : PySem.W.Frag) (H : Hp) : V → Str → Prop
  | non : Shw K H .non "None"
  | bl (b : Bool) : Shw K H (.bl b) (if b then "True" else "False")
  | int (i : Int) : i.natAbs.log2 < 1920 → Shw K H (.int i) (toString i)
  | str (x : Str) : (reprText x).length ≤ sizeLine → Shw K H (.str x) (reprText x)
  | dp {a : Addr} {d : PyData} : Dp K H (.ref a) d → d.showable = true → d.hasDict = false → d.depth ≤ 100 → d.shown.length ≤ sizeLine → Shw K H (.ref a) d.shown
theorem sqL_same {K : PySem.W.Frag} {H H' : Hp} {a : Addr} {xs : List V} (h : SqL K H a xs) (s : L2.Same H H') : SqL K H' a xs := by
  rcases h with (h | ⟨o, h⟩) | h
  · exact .inl (.inl (s _ _ h))
  · exact .inl (.inr ⟨o, s _ _ h⟩)
  · exact .inr h
theorem sqT_same {K : PySem.W.Frag} {H H' : Hp} {a : Addr} {xs : List V} (h : SqT K H a xs) (s : L2.Same H H') : SqT K H' a xs := by
  rcases h with (h | ⟨o, h⟩) | h
  · exact .inl (.inl (s _ _ h))
  · exact .inl (.inr ⟨o, s _ _ h⟩)
  · exact .inr h
mutual
theorem dp_same {K : PySem.W.Frag} {H H' : Hp} (s : L2.Same H H') : ∀ {v : V} {d : PyData}, Dp K H v d → Dp K H' v d
  | _, _, .non => .non
  | _, _, .bl b => .bl b
  | _, _, .int i => .int i
  | _, _, .str x => .str x
  | _, _, .lst h a => .lst (sqL_same h s) (dpAll_same s a)
  | _, _, .tup h a => .tup (sqT_same h s) (dpAll_same s a)
theorem dpAll_same {K : PySem.W.Frag} {H H' : Hp} (s : L2.Same H H') : ∀ {vs : List V} {ds : List PyData}, DpAll K H vs ds → DpAll K H' vs ds
  | _, _, .nil => .nil
  | _, _, .cons a r => .cons (dp_same s a) (dpAll_same s r)
end
theorem Shw.same {K : PySem.W.Frag} {H H' : Hp} {v : V} {t : Str} (h : Shw K H v t) (s : L2.Same H H') : Shw K H' v t := by
  cases h with
  | non => exact .non
  | bl b => exact .bl b
  | int i h => exact .int i h
  | str x h => exact .str x h
  | dp a b c d e => exact .dp (dp_same s a) b c d e
section
variable {X : Cx} {K : PySem.W.Frag}
variable {CX : CXT} {x : Str} {C fI : Addr} {k : Nat} {sp : Sp} {dvs : List V} {e : Expr} {es : List Expr} {ta : TA} {p pos : Pos}
end
def iniB (x : Str) (K : PySem.W.Frag) : Bool := He.eqO (PySem.W.findIn K (.ref (gd x K)) "__init__") (some (some (.ref (md x "__init__" K)))) && decide (PySem.W.typeIn K (.ref (md x "__init__" K)) = some (.type "function"))
end Gh
end
section
set_option Elab.async false
set_option linter.all false
set_option maxRecDepth 100000
set_option maxHeartbeats 4000000
namespace Gh
open PySem PySem.Spec PyProof.Rows L2
structure Nw (H H' : Hp) (p : Addr) (o : HO) : Prop where
  no : H p = none
  same : L2.Same H H'
  at_ : H' p = some o
structure Mu (H H' : Hp) (p : Addr) (o : HO) : Prop where
  keep : Keep H H' p
  at_ : H' p = some o
section
variable {H H' : Hp} {p a l : Addr} {o u : HO}
theorem Nw.up (n : Nw H H' p o) (h : H a = some u) : H' a = some u := n.same _ _ h
theorem Mu.up (n : Mu H H' p o) (e : a ≠ p) (h : H a = some u) : H' a = some u := n.keep _ _ h e
theorem Mu.free (n : Mu H H' p o) (h : H' a = none) : H a = none := by
  cases e : H a with
  | none => rfl
  | some u =>
    by_cases q : a = p
    · subst q
      rw [n.at_] at h
      cases h
    · rw [n.up q e] at h
      cases h
end
def Pen (H : Hp) (p c : Addr) (b : Nat) : Prop := ∃ (ns : List Int) (i z : Int), H p = some (.lst [.ref c, .int i, .int z]) ∧ H c = some (.lst (ns.map V.int)) ∧ ns.length ≤ 63 ∧ 0 ≤ i ∧ i + b ≤ 1000000 ∧ 0 ≤ z
section
variable {H H' : Hp} {p c a l : Addr} {o u : HO} {b k : Nat} {xs : List V} {C dx : Addr} {fs : List (Str × V)}
theorem Pen.le (h : Pen H p c b) (q : k ≤ b) : Pen H p c k := by
  obtain ⟨ns, i, z, h1, h2, h3, h4, h5, h6⟩ := h
  exact ⟨ns, i, z, h1, h2, h3, h4, by omega, h6⟩
theorem Pen.same (n : L2.Same H H') (h : Pen H p c b) : Pen H' p c b := by
  obtain ⟨ns, i, z, h1, h2, h3⟩ := h
  exact ⟨ns, i, z, n _ _ h1, n _ _ h2, h3⟩
theorem Pen.keep (n : Keep H H' l) (e1 : l ≠ p) (e2 : l ≠ c) (h : Pen H p c b) : Pen H' p c b := by
  obtain ⟨ns, i, z, h1, h2, h3⟩ := h
  exact ⟨ns, i, z, n _ _ h1 e1.symm, n _ _ h2 e2.symm, h3⟩
theorem Pen.cells (h : Pen H p c b) : c ≠ p := by
  obtain ⟨ns, i, z, h1, h2, h3⟩ := h
  exact pen_ne h1 h2
end
section
variable {H H' : Hp} {a t l : Addr} {o u : HO} {xs ys : List V} {C dx : Addr} {fs : List (Str × V)}
end
section
variable {H : Hp} {E : XK} {Q : VK} {p c l : Addr} {b : Nat} {m : Int} {xs : List V}
end
section
variable {X : Cx} {K : PySem.W.Frag}
end
section
variable {K : PySem.W.Frag} {H : Hp} {σ : L2.St} {Q : VK} {D : Ends} {i j n : Int} {x y v : V} {ta tb tc te tf : TE} {t u : TS} {c d : TT} {k : Bool} {a l p C dx : Addr} {xs ys : List V} {A B : Prop}
end
end Gh
end
section
set_option Elab.async false
set_option linter.all false
set_option maxRecDepth 100000
set_option maxHeartbeats 4000000
namespace Gh
open PySem PySem.Spec PyProof.Rows L2
section
variable {X : Cx} {a b c d : Expr} {ta tb tc td : TE} {pos : Pos}
end
def CallK (X : Cx) (u : Value) (ks : List Str) (r : List V → List V → Hp → VK → Prop) : Prop := ∀ (pins : List (Addr × Obj)) (s : Shared) (σ : L2.St) (H : Hp) (vs zs : List V) (us ws : List Value) (Q : VK), Inv X pins σ H s → Vals vs us → Vals zs ws → r vs zs H Q → wpAny (model X.prog X.w) X.A (call u us (ks.zip ws)) (EP X pins σ Q) X.xe s
def PromK (P : Program) (w : World) (K : PySem.W.Frag) (mg : Str → Option Value) (base : Heap) (CX : CXT) (k : Nat) (f : Addr) (n : Nat) (ks : List Str) (gV : List V → List V → List V) (sp : Sp) : Prop :=
  ∃ (fd : FuncData) (ps : List Str) (g : List Value → List Value → List Value), FnOk P w K mg base CX k f fd ps sp ∧ KBn K fd ps n ks g gV
section
variable {K : PySem.W.Frag} {x qual : Str} {params : Arguments} {body : List Stmt} {scope : Scope} {dvs : List V} {kws : List (Str × V)} {f : Addr} {fd : FuncData} {ps : List Str}
end
section
variable {X : Cx} {CX : CXT} {k n : Nat} {f C : Addr} {ks : List Str} {sp : Sp} {E : XK} {x m : Str} {p pos apos : Pos} {e o : Expr} {es : List Expr} {kws : List Keyword} {t tk : TA} {ta : TE} {gV : List V → List V → List V} {r : List V → List V → Hp → VK → Prop}
def rSpK (n m : Nat) (gV : List V → List V → List V) (sp : Sp) (E : XK) : List V → List V → Hp → VK → Prop := fun vs zs H Q => vs.length = n ∧ zs.length = m ∧ sp (gV vs zs) H Q E
theorem PromK.call (F : PromK X.prog X.w X.K X.mg X.base CX k f n ks gV sp) (hr : Room k X.A) (hx : Passes CX X E) : CallK X (.ref f) ks (rSpK n ks.length gV sp E) := by
  intro pins s σ H vs zs us ws Q I rv rz ⟨l1, l2, h⟩
  obtain ⟨fd, ps, g, G, b⟩ := F
  exact run_fnN G hr b hx I rv rz l1 l2 h
end
section
variable {H : Hp} {σ : L2.St} {Q : VK} {ta : TE} {t tk : TA} {r : List V → List V → Hp → VK → Prop} {C : Addr} {m : Str} {n k : Nat} {gV : List V → List V → List V} {sp : Sp} {E : XK} {vs zs : List V}
end
end Gh
end
section
set_option Elab.async false
set_option linter.all false
set_option maxRecDepth 100000
set_option maxHeartbeats 4000000
namespace Gh
open PySem PySem.Spec PyProof.Rows L2
structure Fn (d : PyData) (n b : Nat) : Prop where
  cl : d.canLay0 = true
  sh : d.showable = true
  nd : d.hasDict = false
  ls : d.leavesShort 200 = true
  dp : d.depth ≤ n
  bk : d.bulk ≤ b
structure FnAll (ds : List PyData) (n b : Nat) : Prop where
  cl : PyData.canLayAll0 ds = true
  sh : PyData.showableAll ds = true
  nd : PyData.hasDictAll ds = false
  ls : PyData.leavesShortAll 200 ds = true
  dp : PyData.depthAll ds ≤ n
  bk : PyData.bulkAll ds ≤ b
theorem log_lt100 {i : Int} (h1 : -(10 ^ 100) < i) (h2 : i < 10 ^ 100) : i.natAbs.log2 < 1920 := by
  have h : i.natAbs < 2 ^ 1920 := Nat.lt_of_lt_of_le (show i.natAbs < 10 ^ 100 by omega) (by decide)
  by_cases h0 : i.natAbs = 0
  · rw [h0]
    decide
  · exact (Nat.log2_lt h0).mpr h
theorem Fn.int {i : Int} (h1 : -(10 ^ 100) < i) (h2 : i < 10 ^ 100) : Fn (.int i) 0 0 := by
  refine ⟨rfl, decide_eq_true (log_lt100 h1 h2), rfl, ?_, Nat.le_refl _, Nat.le_refl _⟩
  have e := int_text_length_le10 (a := i) (k := 100) (by decide) (by omega)
  refine decide_eq_true ?_
  show (Str.ofString (toString i)).length ≤ 200
  rw [PySem.ofString_length]
  omega
theorem Fn.bool (b : Bool) : Fn (.bool b) 0 0 := ⟨rfl, rfl, rfl, rfl, Nat.le_refl _, Nat.le_refl _⟩
theorem Fn.none : Fn .none 0 0 := ⟨rfl, rfl, rfl, rfl, Nat.le_refl _, Nat.le_refl _⟩
theorem Fn.str {x : Str} (h0 : (PyData.str x).canLay0 = true) (h : (x.cps.toList.all fun c => decide (c < 16 ^ 8)) = true) : Fn (.str x) 0 x.cps.size := ⟨h0, rfl, rfl, h, Nat.le_refl _, Nat.le_refl _⟩
theorem Fn.le {d : PyData} {n b n' b' : Nat} (h : Fn d n b) (h1 : n ≤ n') (h2 : b ≤ b') : Fn d n' b' := ⟨h.cl, h.sh, h.nd, h.ls, Nat.le_trans h.dp h1, Nat.le_trans h.bk h2⟩
theorem FnAll.nil {n b : Nat} : FnAll [] n b := ⟨rfl, rfl, rfl, rfl, Nat.zero_le _, Nat.zero_le _⟩
theorem FnAll.cons {d : PyData} {ds : List PyData} {n b c : Nat} (h : Fn d n b) (k : FnAll ds n c) : FnAll (d :: ds) n (b + 1 + c) := by
  refine ⟨?_, ?_, ?_, ?_, ?_, ?_⟩
  · show (d.canLay0 && _) = true
    rw [h.cl, k.cl] <;> rfl
  · show (d.showable && _) = true
    rw [h.sh, k.sh] <;> rfl
  · show (d.hasDict || _) = false
    rw [h.nd, k.nd] <;> rfl
  · show (d.leavesShort 200 && _) = true
    rw [h.ls, k.ls] <;> rfl
  · show max _ _ ≤ n
    exact Nat.max_le.mpr ⟨h.dp, k.dp⟩
  · show d.bulk + 1 + _ ≤ _
    have := h.bk
    have := k.bk
    omega
theorem Fn.list {ds : List PyData} {n b : Nat} (h : FnAll ds n b) : Fn (.list ds) (n + 1) b := ⟨h.cl, h.sh, h.nd, h.ls, Nat.succ_le_succ h.dp, h.bk⟩
theorem Fn.tuple {ds : List PyData} {n b : Nat} (h : FnAll ds n b) : Fn (.tuple ds) (n + 1) b := ⟨h.cl, h.sh, h.nd, h.ls, Nat.succ_le_succ h.dp, h.bk⟩
section
variable {K : PySem.W.Frag} {H : Hp} {a : Addr} {ns : List Int}
end
section
variable {H H' : Hp} {a l p c : Addr} {u : HO} {b : Nat}
end
section
variable {K : PySem.W.Frag} {H : Hp} {σ : L2.St} {Q : VK} {m : Nat} {tt : TT} {te tl : TE} {vs : List Nat} {t : TA} {a : Addr} {xs : List V}
end
section
variable {H H' : Hp} {a l p c : Addr} {u : HO} {b : Nat}
end
section
variable {K : PySem.W.Frag} {H : Hp} {σ : L2.St} {D : Ends} {m : Nat} {g : TG} {tb : TS} {tl : TE} {t : TA} {a : Addr} {xs : List V}
end
section
end
end Gh
end
section
set_option Elab.async false
set_option linter.all false
set_option maxRecDepth 100000
set_option maxHeartbeats 4000000
namespace Gh
open PySem PySem.Spec PyProof.Rows L2
section
variable {H H' : Hp} {a l p c t : Addr} {o u : HO} {b : Nat} {xs : List V} {T : List (Addr × Str)} {C dx : Addr} {fs : List (Str × V)}
def Fr (H H' : Hp) (p : Addr) : Prop := ∀ a o, H a = some o → a ≠ p → (∀ ps, o ≠ .tbl ps) → H' a = some o
theorem Fr.refl : Fr H H p := fun _ _ h _ _ => h
theorem Fr.trans {H1 : Hp} (n : Fr H H1 p) (k : Fr H1 H' p) : Fr H H' p := fun a o h e z => k a o (n a o h e z) e z
end
section
variable {X : Cx} {H : Hp} {σ : L2.St} {Q : VK} {T : List (Addr × Str)} {TT : (XK → Hp → VK → Prop) → Hp → VK → Prop} {t : XK → TE}
end
end Gh
end
section
set_option Elab.async false
set_option linter.all false
set_option maxRecDepth 100000
set_option maxHeartbeats 4000000
namespace Gh
open PySem PySem.Spec PyProof.Rows L2
section
variable {X : Cx} {CX : CXT} {k : Nat} {C f : Addr} {sp : Sp} {E : XK} {r : List V → Hp → VK → Prop}
def nfB (x : Str) (K : PySem.W.Frag) : Bool := (["NoneType", "bool", "int", "str", "list", "tuple", "dict"] : List String).all fun n => PySem.W.notFirst K (gd x K) (.type n)
theorem InsT.ty {K : PySem.W.Frag} {H : Hp} {a C dx : Addr} {fs : List (Str × V)} (t : InsT K C) (c : Cls K C) (h : H a = some (.ins C dx fs)) : TyX K H (.ref a) (.ref C) := .base (.ins h c t.ha t.hn t.htk t.hm)
end
end Gh
end
section
set_option Elab.async false
set_option linter.all false
set_option maxRecDepth 100000
set_option maxHeartbeats 4000000
namespace Gh
open PySem PySem.Spec PyProof.Rows L2
section
variable {prog : Program} {w : World} {A : Around} {E : Value → Shared → Prop} {s : Shared} {K : PySem.W.Frag} {x C f L : Addr} {h₀ : Heap} {m : Str → Option Value} {ox : Obj} {od : Option Obj} {b tb : Value}
open PySem.W in
open PySem.W in
end
section
variable {X : Cx} {CX : CXT} {k : Nat} {C f : Addr} {sp : Sp} {E : XK}
def neB (x : Str) (K : PySem.W.Frag) : Bool := He.eqO (PySem.W.findIn K (.ref (gd x K)) "__ne__") (some (some (.builtin "object.__ne__"))) && decide (PySem.W.subIn K (.ref (gd x K)) (.type "object") = some true)
end
end Gh
end
section
set_option Elab.async false
set_option linter.all false
set_option maxRecDepth 100000
set_option maxHeartbeats 4000000
namespace Gp
open PySem PySem.Spec PyProof.Rows L2 Gh
inductive D where
  | non | bl (b : Bool) | int (i : Int) | str (x : Str) | tup (ds : List D) | lst (ds : List D)
  | obj (c : Str) (fs : List (Str × D)) | err (c : Str) (fs : List (Str × D)) | pen
  | cls (c : Str) | dct | dic (ps : List (Key × D)) | dit (ps : List (List Key × D))
abbrev Fs := List (Str × D)
inductive Tr (α : Type) where
  | ok (a : α) | ex (c : Str) (fs : Fs) | bad | draw (m : Int) (k : Int → Tr α)
section
variable {α β γ : Type}
def bd : Tr α → (α → Tr β) → Tr β
  | .ok a, k => k a
  | .ex c fs, _ => .ex c fs
  | .bad, _ => .bad
  | .draw m f, k => .draw m fun d => bd (f d) k
def Al (P : α → Nat → Prop) (E : Str → Fs → Nat → Prop) : Tr α → Nat → Prop
  | .ok a, b => P a b
  | .ex c fs, b => E c fs b
  | .bad, _ => False
  | .draw m k, b => ∃ b', b = b' + 1 ∧ 0 < m ∧ m < 10 ^ 100 ∧ ∀ d, 0 ≤ d → d < m → Al P E (k d) b'
theorem al_bd {P : β → Nat → Prop} {E : Str → Fs → Nat → Prop} {m : Tr α} {k : α → Tr β} {b : Nat} : Al P E (bd m k) b ↔ Al (fun a b1 => Al P E (k a) b1) E m b := by
  induction m generalizing b with
  | draw m f ih =>
    constructor
    · rintro ⟨b', e, h1, h2, h3⟩
      exact ⟨b', e, h1, h2, fun d d0 d1 => (ih d).mp (h3 d d0 d1)⟩
    · rintro ⟨b', e, h1, h2, h3⟩
      exact ⟨b', e, h1, h2, fun d d0 d1 => (ih d).mpr (h3 d d0 d1)⟩
  | _ => exact Iff.rfl
theorem Al.mono {P P' : α → Nat → Prop} {E E' : Str → Fs → Nat → Prop} (hP : ∀ a b, P a b → P' a b) (hE : ∀ c fs b, E c fs b → E' c fs b) {m : Tr α} {b : Nat} (h : Al P E m b) : Al P' E' m b := by
  induction m generalizing b with
  | ok a => exact hP _ _ h
  | ex c fs => exact hE _ _ _ h
  | bad => exact h
  | draw m f ih =>
    obtain ⟨b', e, h1, h2, h3⟩ := h
    exact ⟨b', e, h1, h2, fun d d0 d1 => ih d (h3 d d0 d1)⟩
end
structure Gw where
  K : PySem.W.Frag
  T : List (Addr × Str)
  p : Addr
  c : Addr
mutual
inductive Den (g : Gw) (U : Addr → Prop) (H : Hp) : V → D → Prop
  | non : Den g U H .non .non
  | bl (b : Bool) : Den g U H (.bl b) (.bl b)
  | int (i : Int) : Den g U H (.int i) (.int i)
  | str (x : Str) : x.length ≤ sizeLine → Den g U H (.str x) (.str x)
  | tup {a : Addr} {vs : List V} {ds : List D} : H a = some (.tup vs) → ¬ U a → vs.length ≤ sizeLine → DenL g U H vs ds → Den g U H (.ref a) (.tup ds)
  | tupW {a : Addr} {vs : List V} {ds : List D} : (∀ H', SqT g.K H' a vs) → vs.length ≤ sizeLine → DenL g U H vs ds → Den g U H (.ref a) (.tup ds)
  | lst {a : Addr} {vs : List V} {ds : List D} : H a = some (.lst vs) → ¬ U a → vs.length ≤ sizeLine → DenL g U H vs ds → Den g U H (.ref a) (.lst ds)
  | obj {a dx : Addr} {c : Str} {fvs : List (Str × V)} {fs : List (Str × D)} : H a = some (.ins (gd c g.K) dx fvs) → ¬ U a → DenF g U H fvs fs → Den g U H (.ref a) (.obj c fs)
  | err {a d : Addr} {c : Str} {fvs : List (Str × V)} {fs : List (Str × D)} : H a = some (exk a (gd c g.K) d) → ¬ U a → H d = some (.xd fvs) → ¬ U d → DenF g U H fvs fs → Den g U H (.ref a) (.err c fs)
  | pen : Den g U H (.ref g.p) .pen
  | cls (c : Str) : Den g U H (.ref (gd c g.K)) (.cls c)
  | dct {a : Addr} : H a = some (.dK []) → ¬ U a → Den g U H (.ref a) .dct
  | dic {a : Addr} {kvs : List (Key × V)} {ps : List (Key × D)} : H a = some (.dK kvs) → ¬ U a → kvs.map (·.1) = ps.map (·.1) → DenL g U H (kvs.map (·.2)) (ps.map (·.2)) → Den g U H (.ref a) (.dic ps)
  | dit {a : Addr} {kvs : List (List Key × V)} {ps : List (List Key × D)} : H a = some (.dT kvs) → ¬ U a → kvs.map (·.1) = ps.map (·.1) → DenL g U H (kvs.map (·.2)) (ps.map (·.2)) → Den g U H (.ref a) (.dit ps)
inductive DenL (g : Gw) (U : Addr → Prop) (H : Hp) : List V → List D → Prop
  | nil : DenL g U H [] []
  | cons {v : V} {vs : List V} {d : D} {ds : List D} : Den g U H v d → DenL g U H vs ds → DenL g U H (v :: vs) (d :: ds)
inductive DenF (g : Gw) (U : Addr → Prop) (H : Hp) : List (Str × V) → List (Str × D) → Prop
  | nil : DenF g U H [] []
  | cons {n : Str} {v : V} {vs : List (Str × V)} {d : D} {ds : List (Str × D)} : Den g U H v d → DenF g U H vs ds → DenF g U H ((n, v) :: vs) ((n, d) :: ds)
end
section
variable {g : Gw} {U U' : Addr → Prop} {H H' : Hp}
def ExtU (U : Addr → Prop) (H H' : Hp) : Prop := ∀ a o, H a = some o → ¬ U a → (∀ ps, o ≠ .tbl ps) → H' a = some o
mutual
theorem Den.ext (e : ExtU U H H') : ∀ {v : V} {d : D}, Den g U H v d → Den g U H' v d
  | _, _, .non => .non
  | _, _, .bl b => .bl b
  | _, _, .int i => .int i
  | _, _, .str x h => .str x h
  | _, _, .tup h n l k => .tup (e _ _ h n (fun _ z => by cases z)) n l (DenL.ext e k)
  | _, _, .tupW h l k => .tupW h l (DenL.ext e k)
  | _, _, .lst h n l k => .lst (e _ _ h n (fun _ z => by cases z)) n l (DenL.ext e k)
  | _, _, .obj h n k => .obj (e _ _ h n (fun _ z => by cases z)) n (DenF.ext e k)
  | _, _, .err h n h2 n2 k => .err (e _ _ h n (fun _ z => by unfold exk at z; cases z)) n (e _ _ h2 n2 (fun _ z => by cases z)) n2 (DenF.ext e k)
  | _, _, .pen => .pen
  | _, _, .cls c => .cls c
  | _, _, .dct h n => .dct (e _ _ h n (fun _ z => by cases z)) n
  | _, _, .dic h n l k => .dic (e _ _ h n (fun _ z => by cases z)) n l (DenL.ext e k)
  | _, _, .dit h n l k => .dit (e _ _ h n (fun _ z => by cases z)) n l (DenL.ext e k)
theorem DenL.ext (e : ExtU U H H') : ∀ {vs : List V} {ds : List D}, DenL g U H vs ds → DenL g U H' vs ds
  | _, _, .nil => .nil
  | _, _, .cons a r => .cons (Den.ext e a) (DenL.ext e r)
theorem DenF.ext (e : ExtU U H H') : ∀ {vs : List (Str × V)} {ds : List (Str × D)}, DenF g U H vs ds → DenF g U H' vs ds
  | _, _, .nil => .nil
  | _, _, .cons a r => .cons (Den.ext e a) (DenF.ext e r)
end
mutual
theorem Den.sub (e : ∀ a, (∃ o, H a = some o) → U' a → U a) : ∀ {v : V} {d : D}, Den g U H v d → Den g U' H v d
  | _, _, .non => .non
  | _, _, .bl b => .bl b
  | _, _, .int i => .int i
  | _, _, .str x h => .str x h
  | _, _, .tup h n l k => .tup h (fun z => n (e _ ⟨_, h⟩ z)) l (DenL.sub e k)
  | _, _, .tupW h l k => .tupW h l (DenL.sub e k)
  | _, _, .lst h n l k => .lst h (fun z => n (e _ ⟨_, h⟩ z)) l (DenL.sub e k)
  | _, _, .obj h n k => .obj h (fun z => n (e _ ⟨_, h⟩ z)) (DenF.sub e k)
  | _, _, .err h n h2 n2 k => .err h (fun z => n (e _ ⟨_, h⟩ z)) h2 (fun z => n2 (e _ ⟨_, h2⟩ z)) (DenF.sub e k)
  | _, _, .pen => .pen
  | _, _, .cls c => .cls c
  | _, _, .dct h n => .dct h (fun z => n (e _ ⟨_, h⟩ z))
  | _, _, .dic h n l k => .dic h (fun z => n (e _ ⟨_, h⟩ z)) l (DenL.sub e k)
  | _, _, .dit h n l k => .dit h (fun z => n (e _ ⟨_, h⟩ z)) l (DenL.sub e k)
theorem DenL.sub (e : ∀ a, (∃ o, H a = some o) → U' a → U a) : ∀ {vs : List V} {ds : List D}, DenL g U H vs ds → DenL g U' H vs ds
  | _, _, .nil => .nil
  | _, _, .cons a r => .cons (Den.sub e a) (DenL.sub e r)
theorem DenF.sub (e : ∀ a, (∃ o, H a = some o) → U' a → U a) : ∀ {vs : List (Str × V)} {ds : List (Str × D)}, DenF g U H vs ds → DenF g U' H vs ds
  | _, _, .nil => .nil
  | _, _, .cons a r => .cons (Den.sub e a) (DenF.sub e r)
end
theorem DenL.length : ∀ {vs : List V} {ds : List D}, DenL g U H vs ds → vs.length = ds.length
  | _, _, .nil => rfl
  | _, _, .cons _ r => congrArg (· + 1) (DenL.length r)
theorem DenL.append : ∀ {vs ws : List V} {ds es : List D}, DenL g U H vs ds → DenL g U H ws es → DenL g U H (vs ++ ws) (ds ++ es)
  | _, _, _, _, .nil, k => k
  | _, _, _, _, .cons a r, k => .cons a (DenL.append r k)
theorem DenL.get : ∀ {vs : List V} {ds : List D} {i : Nat} {v : V}, DenL g U H vs ds → vs[i]? = some v → ∃ d, ds[i]? = some d ∧ Den g U H v d
  | _, _, i, v, .nil, e => by simp at e
  | _, _, 0, v, .cons a r, e => by simp at e; subst e; exact ⟨_, rfl, a⟩
  | _, _, i + 1, v, .cons a r, e => by
    obtain ⟨d, h1, h2⟩ := DenL.get (i := i) (v := v) r (by simpa using e)
    exact ⟨d, by simpa using h1, h2⟩
theorem DenL.getD : ∀ {vs : List V} {ds : List D} {i : Nat} {d : D}, DenL g U H vs ds → ds[i]? = some d → ∃ v, vs[i]? = some v ∧ Den g U H v d
  | _, _, i, v, .nil, e => by simp at e
  | _, _, 0, v, .cons a r, e => by simp at e; subst e; exact ⟨_, rfl, a⟩
  | _, _, i + 1, v, .cons a r, e => by
    obtain ⟨d, h1, h2⟩ := DenL.getD (i := i) (d := v) r (by simpa using e)
    exact ⟨d, by simpa using h1, h2⟩
theorem DenL.set : ∀ {vs : List V} {ds : List D} (n : Nat) {v : V} {d : D}, Den g U H v d → DenL g U H vs ds → DenL g U H (vs.set n v) (ds.set n d)
  | _, _, _, _, _, _, .nil => .nil
  | _, _, 0, _, _, h, .cons _ r => .cons h r
  | _, _, n + 1, _, _, h, .cons a r => .cons a (DenL.set n h r)
theorem DenF.look : ∀ {vs : List (Str × V)} {ds : List (Str × D)} {n : Str} {d : D}, DenF g U H vs ds → ds.lookup n = some d → ∃ v, vs.lookup n = some v ∧ Den g U H v d
  | _, _, _, _, .nil, e => by cases e
  | _, _, n, d, .cons (n := m) a r, e => by
    simp only [List.lookup] at e ⊢
    cases q : (n == m) with
    | true => rw [q] at e; cases e; exact ⟨_, rfl, a⟩
    | false => rw [q] at e; exact DenF.look r e
theorem DenF.length : ∀ {vs : List (Str × V)} {ds : List (Str × D)}, DenF g U H vs ds → vs.length = ds.length
  | _, _, .nil => rfl
  | _, _, .cons _ r => congrArg (· + 1) (DenF.length r)
end
structure Wd (g : Gw) (H : Hp) (b : Nat) : Prop where
  pen : Pen H g.p g.c b
  tabs : LamX.Tabs g.T H
structure UOk (g : Gw) (U : Addr → Prop) (H : Hp) : Prop where
  p : U g.p
  c : U g.c
  al : ∀ a, U a → ∃ o, H a = some o ∧ ∀ ps, o ≠ .tbl ps
section
variable {g : Gw} {U U' : Addr → Prop} {H H' H1 H2 : Hp} {b : Nat}
theorem Wd.same (w : Wd g H b) (s : L2.Same H H') : Wd g H' b := ⟨w.pen.same s, w.tabs.ext s⟩
end
inductive Sl where
  | no | fz (d : D) | ow (ds : List D) | oi (c : Str) (fs : Fs)
abbrev Env := List Sl
def SlR (g : Gw) (U : Addr → Prop) (H : Hp) (o : Option V) : Sl → Prop
  | .no => True
  | .fz d => ∃ v, o = some v ∧ Den g U H v d
  | .ow ds => ∃ a vs, o = some (.ref a) ∧ H a = some (.lst vs) ∧ vs.length ≤ sizeLine ∧ DenL g U H vs ds ∧ U a ∧ a ≠ g.p ∧ a ≠ g.c
  | .oi c fs => ∃ a dx fvs, o = some (.ref a) ∧ H a = some (.ins (gd c g.K) dx fvs) ∧ DenF g U H fvs fs ∧ U a ∧ a ≠ g.p ∧ a ≠ g.c
def OwnAt (σ : L2.St) (ε : Env) (i : Nat) (a : Addr) : Prop := σ[i]? = some (some (.ref a)) ∧ ((∃ ds, ε[i]? = some (.ow ds)) ∨ ∃ c fs, ε[i]? = some (.oi c fs))
structure Rel (g : Gw) (U : Addr → Prop) (H : Hp) (σ : L2.St) (ε : Env) : Prop where
  len : σ.length = ε.length
  at_ : ∀ (i : Nat) (s : Sl), ε[i]? = some s → ∃ o, σ[i]? = some o ∧ SlR g U H o s
  apart : ∀ (i j : Nat) (a : Addr), i ≠ j → OwnAt σ ε i a → OwnAt σ ε j a → False
section
variable {g : Gw} {U U' : Addr → Prop} {H H' H1 H2 : Hp} {b : Nat} {σ : L2.St} {ε : Env}
def okP (g : Gw) (U : Addr → Prop) (H : Hp) (Q : VK) : D → Nat → Prop := fun d b => ∀ v H', Den g U H' v d → Wd g H' b → Fr H H' g.p → Q v H'
def exP (g : Gw) (U : Addr → Prop) (E : XK) (H : Hp) : Str → Fs → Nat → Prop := fun c fs b => ∀ dd fvs H', H' dd = some (.xd fvs) → ¬ U dd → DenF g U H' fvs fs → Wd g H' b → Fr H H' g.p → E (.ref (gd c g.K)) (some dd) H'
theorem okP.here {Q : VK} {d : D} {v : V} (h : okP g U H Q d b) (w : Wd g H b) (dn : Den g U H v d) : Q v H := h v H dn w Fr.refl
variable {E : XK} {ta tb tc : TE} {ma mb : Tr D}
end
end Gp
end
section
set_option Elab.async false
set_option linter.all false
set_option maxRecDepth 100000
set_option maxHeartbeats 4000000
namespace Gp
open PySem PySem.Spec PyProof.Rows L2 Gh
inductive Fl (W L : Type) where
  | nx (w : W) | rt (d : D) | bk (l : L) | ct (l : L)
def FrM (g : Gw) (Mt : Addr → Prop) (H H' : Hp) : Prop := ∀ a o, H a = some o → a ≠ g.p → ¬ Mt a → (∀ ps, o ≠ .tbl ps) → H' a = some o
structure Stt (g : Gw) (Mt U0 : Addr → Prop) (H0 : Hp) (U : Addr → Prop) (σ : L2.St) (H : Hp) (b : Nat) (ε : Env) : Prop where
  rel : Rel g U H σ ε
  wd : Wd g H b
  uok : UOk g U H
  sub : ∀ a, U0 a → U a
  own : ∀ i a, OwnAt σ ε i a → Mt a ∨ ∀ o, H0 a = some o → ∃ ps, o = .tbl ps
  ext : FrM g Mt H0 H
  nu0 : ∀ (i : Nat) (ds : List D) (a : Addr), ε[i]? = some (.ow ds) → σ[i]? = some (some (.ref a)) → ¬ U0 a
  oim : ∀ (i : Nat) (c : Str) (fs : Fs) (a : Addr), ε[i]? = some (.oi c fs) → σ[i]? = some (some (.ref a)) → Mt a
section
variable {g : Gw} {Mt U0 U U' : Addr → Prop} {H0 H H' H1 H2 : Hp} {b b1 : Nat} {σ : L2.St} {ε ε' : Env} {E : XK} {W L W' : Type}
structure Ev (U : Addr → Prop) (H : Hp) (U' : Addr → Prop) (H' : Hp) : Prop where
  keep : ∀ a o, H a = some o → ¬ U a → (∀ ps, o ≠ .tbl ps) → H' a = some o
  out : ∀ a o, H a = some o → ¬ U a → (∀ ps, o ≠ .tbl ps) → ¬ U' a
theorem Ev.refl : Ev U H U H := ⟨fun _ _ h _ _ => h, fun _ _ _ n _ => n⟩
theorem Ev.trans {U1 : Addr → Prop} {H1 : Hp} (h : Ev U H U1 H1) (k : Ev U1 H1 U' H') : Ev U H U' H' := ⟨fun a o e n t => k.keep a o (h.keep a o e n t) (h.out a o e n t) t, fun a o e n t => k.out a o (h.keep a o e n t) (h.out a o e n t) t⟩
theorem UOk.ev (u : UOk g U H) (f : Fr H H' g.p) : Ev U H U H' := ⟨fun a o e n t => f a o e (fun z => n (z ▸ u.p)) t, fun _ _ _ n _ => n⟩
mutual
theorem Den.ev (e : Ev U H U' H') : ∀ {v : V} {d : D}, Den g U H v d → Den g U' H' v d
  | _, _, .non => .non
  | _, _, .bl b => .bl b
  | _, _, .int i => .int i
  | _, _, .str x h => .str x h
  | _, _, .tup h n l k => .tup (e.keep _ _ h n (fun _ z => by cases z)) (e.out _ _ h n (fun _ z => by cases z)) l (DenL.ev e k)
  | _, _, .tupW h l k => .tupW h l (DenL.ev e k)
  | _, _, .lst h n l k => .lst (e.keep _ _ h n (fun _ z => by cases z)) (e.out _ _ h n (fun _ z => by cases z)) l (DenL.ev e k)
  | _, _, .obj h n k => .obj (e.keep _ _ h n (fun _ z => by cases z)) (e.out _ _ h n (fun _ z => by cases z)) (DenF.ev e k)
  | _, _, .err h n h2 n2 k => .err (e.keep _ _ h n (fun _ z => by unfold exk at z; cases z)) (e.out _ _ h n (fun _ z => by unfold exk at z; cases z)) (e.keep _ _ h2 n2 (fun _ z => by cases z)) (e.out _ _ h2 n2 (fun _ z => by cases z)) (DenF.ev e k)
  | _, _, .pen => .pen
  | _, _, .cls c => .cls c
  | _, _, .dct h n => .dct (e.keep _ _ h n (fun _ z => by cases z)) (e.out _ _ h n (fun _ z => by cases z))
  | _, _, .dic h n l k => .dic (e.keep _ _ h n (fun _ z => by cases z)) (e.out _ _ h n (fun _ z => by cases z)) l (DenL.ev e k)
  | _, _, .dit h n l k => .dit (e.keep _ _ h n (fun _ z => by cases z)) (e.out _ _ h n (fun _ z => by cases z)) l (DenL.ev e k)
theorem DenL.ev (e : Ev U H U' H') : ∀ {vs : List V} {ds : List D}, DenL g U H vs ds → DenL g U' H' vs ds
  | _, _, .nil => .nil
  | _, _, .cons a r => .cons (Den.ev e a) (DenL.ev e r)
theorem DenF.ev (e : Ev U H U' H') : ∀ {vs : List (Str × V)} {ds : List (Str × D)}, DenF g U H vs ds → DenF g U' H' vs ds
  | _, _, .nil => .nil
  | _, _, .cons a r => .cons (Den.ev e a) (DenF.ev e r)
end
theorem FrM.trans (h : FrM g Mt H0 H) (f : Fr H H' g.p) : FrM g Mt H0 H' := fun a o e n1 n2 n3 => f a o (h a o e n1 n2 n3) n1 n3
def flP (g : Gw) (Mt U0 : Addr → Prop) (H0 : Hp) (U : Addr → Prop) (H : Hp) (D : Ends) (env : W → Env) (envL : L → Env) : Fl W L → Nat → Prop
  | .nx w, b => ∀ U' σ' H', Ev U H U' H' → Stt g Mt U0 H0 U' σ' H' b (env w) → D.nx σ' H'
  | .rt d, b => ∀ v H, Den g U0 H v d → Wd g H b → FrM g Mt H0 H → D.rt v H
  | .bk w, b => ∀ U' σ' H', Ev U H U' H' → Stt g Mt U0 H0 U' σ' H' b (envL w) → D.bk σ' H'
  | .ct w, b => ∀ U' σ' H', Ev U H U' H' → Stt g Mt U0 H0 U' σ' H' b (envL w) → D.ct σ' H'
theorem flP.ev {U1 : Addr → Prop} {H1 : Hp} {D : Ends} {env : W → Env} {envL : L → Env} (e : Ev U H U1 H1) : ∀ {f : Fl W L}, flP g Mt U0 H0 U H D env envL f b → flP g Mt U0 H0 U1 H1 D env envL f b
  | .nx w, h => fun U' σ' H' e1 => h U' σ' H' (e.trans e1)
  | .rt d, h => h
  | .bk w, h => fun U' σ' H' e1 => h U' σ' H' (e.trans e1)
  | .ct w, h => fun U' σ' H' e1 => h U' σ' H' (e.trans e1)
def exS (g : Gw) (Mt U0 : Addr → Prop) (H0 : Hp) (E : XK) : Str → Fs → Nat → Prop := fun c fs b => ∀ dd fvs H, H dd = some (.xd fvs) → ¬ U0 dd → DenF g U0 H fvs fs → Wd g H b → FrM g Mt H0 H → E (.ref (gd c g.K)) (some dd) H
def SS (g : Gw) (E : XK) (ε : Env) (t : TS) (env : W → Env) (envL : L → Env) (m : Tr (Fl W L)) : Prop := ∀ Mt U0 H0 U D σ H b, Stt g Mt U0 H0 U σ H b ε → Al (flP g Mt U0 H0 U H D env envL) (exS g Mt U0 H0 E) m b → t D σ H
theorem exS.exP (s : Stt g Mt U0 H0 U σ H b ε) {c : Str} {fs : Fs} (h : exS g Mt U0 H0 E c fs b1) : exP g U E H c fs b1 := fun dd fvs H' h1 h2 h3 h4 h5 =>
  h dd fvs H' h1 (fun z => h2 (s.sub _ z)) (h3.sub fun a _ z => s.sub a z) h4 (s.ext.trans h5)
theorem ownAt_set {i j : Nat} {v : V} {d : D} {a : Addr} (h : OwnAt (σ.set i (some v)) (ε.set i (.fz d)) j a) : i ≠ j ∧ OwnAt σ ε j a := by
  obtain ⟨h1, h2⟩ := h
  by_cases e : i = j
  · subst e
    exfalso
    rcases h2 with ⟨ds, h2⟩ | ⟨c, fs, h2⟩
    · rw [List.getElem?_set_self' ] at h2
      cases q : ε[i]? with
      | none => rw [q] at h2; cases h2
      | some z => rw [q] at h2; cases h2
    · rw [List.getElem?_set_self'] at h2
      cases q : ε[i]? with
      | none => rw [q] at h2; cases h2
      | some z => rw [q] at h2; cases h2
  · rw [List.getElem?_set_ne e] at h1 h2
    exact ⟨e, h1, h2⟩
theorem Rel.set (r : Rel g U H σ ε) {v : V} {d : D} (i : Nat) (h : Den g U H v d) : Rel g U H (σ.set i (some v)) (ε.set i (.fz d)) := by
  refine ⟨by rw [List.length_set, List.length_set]; exact r.len, fun j s e => ?_, fun j k a n h1 h2 => r.apart j k a n (ownAt_set h1).2 (ownAt_set h2).2⟩
  by_cases q : i = j
  · subst q
    have hl : i < ε.length := by
      cases z : ε[i]? with
      | none => rw [List.getElem?_set_self', z] at e; cases e
      | some w => exact (List.getElem?_eq_some_iff.mp z).1
    rw [List.getElem?_set_self hl] at e
    cases e
    exact ⟨some v, List.getElem?_set_self (by rw [r.len]; exact hl), v, rfl, h⟩
  · rw [List.getElem?_set_ne q] at e ⊢
    exact r.at_ j s e
theorem Stt.set (s : Stt g Mt U0 H0 U σ H b ε) {v : V} {d : D} (i : Nat) (h : Den g U H v d) : Stt g Mt U0 H0 U (σ.set i (some v)) H b (ε.set i (.fz d)) :=
  ⟨s.rel.set i h, s.wd, s.uok, s.sub, fun j a o => s.own j a (ownAt_set o).2, s.ext, fun j ds a e1 e2 => (by
    obtain ⟨_, e3, e4⟩ := ownAt_set (a := a) (j := j) ⟨e2, .inl ⟨ds, e1⟩⟩
    rcases e4 with ⟨ds', e4⟩ | ⟨_, _, e4⟩
    · exact s.nu0 j ds' a e4 e3
    · by_cases q : i = j
      · subst q
        cases z : ε[i]? with
        | none => rw [List.getElem?_set_self', z] at e1; cases e1
        | some w => rw [List.getElem?_set_self', z] at e1; cases e1
      · rw [List.getElem?_set_ne q, e4] at e1
        cases e1), fun j c fs a e1 e2 => by
    by_cases q : i = j
    · subst q
      cases z : ε[i]? with
      | none => rw [List.getElem?_set_self', z] at e1; cases e1
      | some w => rw [List.getElem?_set_self', z] at e1; cases e1
    · rw [List.getElem?_set_ne q] at e1 e2
      exact s.oim j c fs a e1 e2⟩
inductive Le : Env → Env → Prop
  | nil : Le [] []
  | s {x : Sl} {a b : Env} : Le a b → Le (x :: a) (x :: b)
  | n {x : Sl} {a b : Env} : Le a b → Le (.no :: a) (x :: b)
theorem Le.refl : ∀ ε : Env, Le ε ε
  | [] => .nil
  | _ :: r => .s (Le.refl r)
theorem Le.len : ∀ {a b : Env}, Le a b → a.length = b.length
  | _, _, .nil => rfl
  | _, _, .s h => congrArg (· + 1) h.len
  | _, _, .n h => congrArg (· + 1) h.len
theorem Le.get : ∀ {a b : Env}, Le a b → ∀ {i : Nat} {s : Sl}, a[i]? = some s → s = .no ∧ (∃ z, b[i]? = some z) ∨ b[i]? = some s
  | _, _, .nil, _, _, e => by simp at e
  | _, _, .s h, 0, _, e => .inr e
  | _, _, .n h, 0, _, e => by simp at e; exact .inl ⟨e.symm, _, rfl⟩
  | _, _, .s h, i + 1, z, e => by simpa using h.get (i := i) (s := z) (by simpa using e)
  | _, _, .n h, i + 1, z, e => by simpa using h.get (i := i) (s := z) (by simpa using e)
theorem ownAt_le (l : Le ε' ε) {i : Nat} {a : Addr} (h : OwnAt σ ε' i a) : OwnAt σ ε i a := by
  obtain ⟨h1, h2⟩ := h
  refine ⟨h1, ?_⟩
  rcases h2 with ⟨ds, h2⟩ | ⟨c, fs, h2⟩
  · rcases l.get h2 with ⟨z, _⟩ | z
    · cases z
    · exact .inl ⟨ds, z⟩
  · rcases l.get h2 with ⟨z, _⟩ | z
    · cases z
    · exact .inr ⟨c, fs, z⟩
theorem Stt.le (s : Stt g Mt U0 H0 U σ H b ε) (l : Le ε' ε) : Stt g Mt U0 H0 U σ H b ε' :=
  ⟨⟨s.rel.len.trans l.len.symm, fun i x e => by
    rcases l.get e with ⟨rfl, z, h⟩ | h
    · obtain ⟨o, h1, _⟩ := s.rel.at_ i z h
      exact ⟨o, h1, trivial⟩
    · exact s.rel.at_ i x h, fun i j a n h1 h2 => s.rel.apart i j a n (ownAt_le l h1) (ownAt_le l h2)⟩, s.wd, s.uok, s.sub, fun i a o => s.own i a (ownAt_le l o), s.ext, fun i ds a e1 e2 => (by
    rcases l.get e1 with ⟨z, _⟩ | z
    · cases z
    · exact s.nu0 i ds a z e2), fun i c fs a e1 e2 => by
    rcases l.get e1 with ⟨z, _⟩ | z
    · cases z
    · exact s.oim i c fs a z e2⟩
variable {env : W → Env} {envL : L → Env} {env' : W' → Env} {u ta tb : TS} {te : TE} {me : Tr D}
section
variable {α : Type} {P : α → Nat → Prop} {X : Str → Fs → Nat → Prop} {ds : List D}
end
def bdF (m : Tr (Fl W' L)) (k : W' → Tr (Fl W L)) : Tr (Fl W L) := bd m fun f => match f with
  | .nx w => k w
  | .rt d => .ok (.rt d)
  | .bk l => .ok (.bk l)
  | .ct l => .ok (.ct l)
theorem SS.seq {m : Tr (Fl W' L)} {k : W' → Tr (Fl W L)} (h1 : SS g E ε ta env' envL m) (h2 : ∀ w, SS g E (env' w) u env envL (k w)) : SS g E ε (tSeq ta u) env envL (bdF m k) := fun Mt U0 H0 U D σ H b s q => by
  refine h1 Mt U0 H0 U { D with nx := u D } σ H b s ((al_bd.mp q).mono (fun f b1 h => ?_) (fun _ _ _ h => h))
  cases f with
  | nx w => exact fun U1 σ1 H1 e1 s1 => h2 w Mt U0 H0 U1 D σ1 H1 b1 s1 (Al.mono (fun _ _ z => z.ev e1) (fun _ _ _ z => z) h)
  | rt d => exact h
  | bk l => exact h
  | ct l => exact h
def SX (g : Gw) (E : XK) (ε : Env) (d : D) (gt : TG) (tb : TS) (env : W → Env) (envL : L → Env) (m : Tr (Fl W L)) : Prop := ∀ Mt U0 H0 U D σ H b v, Stt g Mt U0 H0 U σ H b ε → Den g U H v d → Al (flP g Mt U0 H0 U H D env envL) (exS g Mt U0 H0 E) m b → gt v σ H fun σ2 H2 => tb D σ2 H2
end
end Gp
end
section
set_option Elab.async false
set_option linter.all false
set_option maxRecDepth 100000
set_option maxHeartbeats 4000000
namespace Gp
open PySem PySem.Spec PyProof.Rows L2 Gh
section
variable {g : Gw} {Mt U0 U U' : Addr → Prop} {H0 H H' H1 H2 : Hp} {b b1 : Nat} {σ : L2.St} {ε ε' : Env} {E : XK} {W L W' : Type}
variable {env : W → Env} {envL : L → Env} {env' : W' → Env} {u ta tb : TS} {te : TE} {me : Tr D}
abbrev EF : XK := fun _ _ _ => False
theorem exP.F {c : Str} {fs : Fs} (h : False) : exP g U EF H c fs b := h.elim
end
end Gp
end
section
set_option Elab.async false
set_option linter.all false
set_option maxRecDepth 100000
set_option maxHeartbeats 4000000
namespace Gp
open PySem PySem.Spec PyProof.Rows L2 Gh
section
variable {g : Gw} {Mt U0 U U' : Addr → Prop} {H0 H H' H1 H2 : Hp} {b b1 : Nat} {σ : L2.St} {ε ε' : Env} {E : XK} {W L W' : Type}
variable {env : W → Env} {envL : L → Env} {env' : W' → Env} {u ta tb : TS} {te : TE} {me : Tr D}
def fin (m : Tr (Fl Unit Empty)) : Tr D := bd m fun f => match f with
  | .nx _ => .ok .non
  | .rt d => .ok d
  | .bk e => nomatch e
  | .ct e => nomatch e
def isO {α : Type} (c : Str) (o : D) (k : Fs → Tr α) : Tr α := match o with
  | .obj c' fs => if c' = c then k fs else .bad
  | _ => .bad
end
end Gp
end
section
set_option Elab.async false
set_option linter.all false
set_option maxRecDepth 100000
set_option maxHeartbeats 4000000
namespace Gp
open PySem PySem.Spec PyProof.Rows L2 Gh
mutual
def toPy : D → Option PyData
  | .non => some .none
  | .bl b => some (.bool b)
  | .int i => some (.int i)
  | .str x => some (.str x)
  | .tup ds => (toPyL ds).map .tuple
  | .lst ds => (toPyL ds).map .list
  | .obj _ _ => none
  | .err _ _ => none
  | .pen => none
  | .cls _ => none
  | .dct => none
  | .dic _ => none
  | .dit _ => none
def toPyL : List D → Option (List PyData)
  | [] => some []
  | d :: ds => match toPy d, toPyL ds with
    | some e, some es => some (e :: es)
    | _, _ => none
end
section
variable {g : Gw} {U : Addr → Prop} {H H' H1 : Hp} {b : Nat} {E : XK} {Q : VK}
end
end Gp
end
section
set_option Elab.async false
set_option linter.all false
set_option maxRecDepth 100000
set_option maxHeartbeats 4000000
namespace Gp
open PySem PySem.Spec PyProof.Rows L2 Gh
section
variable {g : Gw} {Mt U0 U U' : Addr → Prop} {H0 H H' H1 H2 : Hp} {b b1 : Nat} {σ : L2.St} {ε ε' : Env} {E : XK} {Q : VK} {W L W' : Type}
variable {env : W → Env} {envL : L → Env} {env' : W' → Env} {u ta tb : TS} {te : TE} {me : Tr D}
def shwD (d : D) : Option Str := match d with
  | .non => some "None"
  | .bl b => some (if b then "True" else "False")
  | .int i => if i.natAbs.log2 < 1920 then some (toString i) else none
  | .str x => if (reprText x).length ≤ sizeLine then some (reprText x) else none
  | d => match toPy d with
    | some e => if e.showable = true ∧ e.hasDict = false ∧ e.depth ≤ 100 ∧ e.shown.length ≤ sizeLine then some e.shown else none
    | none => none
def reprD (d : D) : Tr D := match shwD d with
  | some x => if x.length ≤ sizeLine then .ok (.str x) else .bad
  | none => .bad
def strD (d : D) : Tr D := match d with
  | .int i => if i.natAbs.log2 < 1920 ∧ (Str.ofString (toString i)).length ≤ sizeLine then .ok (.str (toString i)) else .bad
  | _ => .bad
end
end Gp
end
section
set_option Elab.async false
set_option linter.all false
set_option maxRecDepth 100000
set_option maxHeartbeats 4000000
namespace Gp
open PySem PySem.Spec PyProof.Rows L2 Gh
section
variable {g : Gw} {Mt U0 U U' : Addr → Prop} {H0 H H' H1 H2 : Hp} {b b1 : Nat} {σ : L2.St} {ε ε' : Env} {E : XK} {Q : VK} {W L W' : Type}
variable {env : W → Env} {envL : L → Env} {env' : W' → Env} {u ta tb : TS} {te : TE} {me : Tr D}
theorem look_cons {α : Type} {a c : Str} {x k : α} {r : List (Str × α)} (h : ((a, x) :: r).lookup c = some k) : (c = a ∧ k = x) ∨ r.lookup c = some k := by
  simp only [List.lookup] at h
  split at h
  · rename_i z
    cases h
    exact .inl ⟨beq_iff_eq.mp z, rfl⟩
  · exact .inr h
section
variable {K : PySem.W.Frag} {T : List (Addr × Str)} {N : List Str} {cn : Str} {vs : List V} {t : TS} {envI : Fs → Env}
end
def Yes (F : Tr D) : Prop := Al (fun d _ => d = .bl true) (fun _ _ _ => False) F 1000000
def eqO (c : Str) (f : D → Bool) (F : List D → Tr D) (x y : D) : Tr D := isO c x fun _ => if f y = true then F [x, y] else .bad
end
end Gp
namespace Gp
open PySem PySem.Spec PyProof.Rows L2 Gh
section
variable {g : Gw}
end
end Gp
namespace Gp
open PySem PySem.Spec PyProof.Rows L2 Gh
end Gp
end
section
set_option Elab.async false
set_option linter.all false
set_option maxRecDepth 100000
set_option maxHeartbeats 4000000
namespace Gp
open PySem PySem.Spec PyProof.Rows L2 Gh
structure SupX (X : Cx) (D f cda cc : Addr) (ar : Str) : Prop where
  fu : X.env.func = some f
  co : X.env.code = .ref cda
  lkf : ∃ oc od fd osl a, X.K.lookup f = some ⟨oc, od, .func fd, osl⟩ ∧ (fd.params.posonlyargs ++ fd.params.args).head? = some a ∧ a.arg = ar
  lkc : ∃ ccl cdd vs ccs file tf, X.K.lookup cda = some ⟨ccl, cdd, .fields vs, ccs⟩ ∧ vs[2]? = some (.str file tf) ∧ ((X.prog.main.file : Str) == file) = true
  top : (X.prog.main.scope.names.lookup ("super" : Str)).isSome = false
  ks : X.env.kindOf "super" = some .globalImplicit
  kc : X.env.kindOf "__class__" = some .free
  cell : X.env.cells.lookup ("__class__" : Str) = some cc
  lkl : ∃ cl cld csl, X.K.lookup cc = some ⟨cl, cld, .cell (some (.ref D)), csl⟩
  cD : ∃ cd, PySem.W.clsIn X.K D = some cd
  mg : X.mg "super" = none
  st : PySem.W.nsIn X.K cStatics "thirdparty.any" = some none
  n0 : X.N[0]? = some ar
  ka : X.env.kindOf ar = some .local
structure SupC (K : PySem.W.Frag) (C D : Addr) (m : Str) (f2 : Addr) : Prop where
  sub : PySem.W.mroIn K C (.ref D) = some true
  sup : PySem.W.ks_superIn K C D m = some (some (.ref f2))
  ty : PySem.W.typeIn K (.ref f2) = some (.type "function")
  fn : PySem.W.fnIn K f2 = true
theorem sup_run {X : Cx} {D f cda cc f2 : Addr} {ar m : Str} {body : List Stmt} {p0 p1 apos pos epos : Pos} {e : Expr} {es : List Expr} {ta : TA} {CX : CXT} {k : Nat} {dvs : List V} {sp : Sp} {E : XK} {pl : Sem Bool} {pins : List (Addr × Obj)} {s : Shared} {σ : L2.St} {H : Hp} {Dn : L2.St → Hp → Prop}
    (S : SupX X D f cda cc ar) (hm : (m == ("__class__" : Str)) = false) (ha : PA X (e :: es) ta) (G : PromOX X CX k f2 dvs sp) (hr : Room k X.A) (hx : Passes CX X E) (I : Inv X pins σ H s)
    (h : ∃ a C dx fs, σ[0]? = some (some (.ref a)) ∧ H a = some (.ins C dx fs) ∧ SupC X.K C D m f2 ∧ ta σ H fun vs H1 => sp (.ref a :: (vs ++ dvs)) H1 (fun _ H2 => Dn σ H2) E)
    (hst : starEach (e :: es) X.env = (false, eval e X.env) :: starEach es X.env := by rfl) (hpl : (backTo pos (starEach es X.env)).any (·.1) = false := by rfl)
    (he : eval (.Call (.Attribute (.Call (.Name "super" p0) [] [] p1) m apos) (e :: es) [] pos) X.env = (do
      let ov ← attributeBase (.Call (.Name "super" p0) [] [] p1) m X.env (eval (.Call (.Name "super" p0) [] [] p1) X.env)
      standAt apos.atName
      let (f, first) ← holding [ov] (getMethod ov m pl)
      callWith pos f first (backTo pos (starEach (e :: es) X.env)) []) := by rfl)
    (hsw : swapsWith (.Call (.Attribute (.Call (.Name "super" p0) [] [] p1) m apos) (e :: es) [] pos) none epos.line X.env = pure false := by rfl) :
    _root_.PySem.wpAt (model X.prog X.w) X.A (.func body X.env) (exec (.Expr (.Call (.Attribute (.Call (.Name "super" p0) [] [] p1) m apos) (e :: es) [] pos) epos) X.env) (fun fl s' => fl = .next ∧ ∃ H', Inv X pins σ H' s' ∧ Dn σ H') X.xe s := by
  obtain ⟨a, C, dx, fs, h0, hi, sc, q⟩ := h
  have KX := I.kIn
  obtain ⟨oc, od, fd, osl, ag, lkf, hp, rfl⟩ := S.lkf
  obtain ⟨ccl, cdd, vs, ccs, file, tf, lkc, hvs, hfile⟩ := S.lkc
  obtain ⟨cl, cld, csl, lkl⟩ := S.lkl
  obtain ⟨cdD, hD⟩ := S.cD
  obtain ⟨ox, od', J⟩ := ins_look I hi
  obtain ⟨oD, hD1, hD2⟩ : ∃ oD, s.heap.get? D = some oD ∧ oD.data = .cls cdD := by
    unfold PySem.W.clsIn at hD
    split at hD
    · rename_i ho
      cases hD
      exact ⟨_, KX _ _ ho, rfl⟩
    · cases hD
  have nc : ∀ c, ox.data ≠ .cls c := fun c e => by
    have := J.no
    unfold PySem.W.notCls at this
    rw [e] at this
    exact Bool.noConfusion this
  refine ks_wpAt_Expr_any (ks_wpAt_MethodCall (pl := pl) (ks_wpAt_super_base S.ks S.kc hm S.fu (KX _ _ lkf) rfl hp S.co (KX _ _ lkc) rfl hvs hfile S.top ?_) he) I.quiet hsw
  obtain ⟨mb, b1, b2⟩ := I.mod.blt
  refine PySem.W.ks_loadName_global I.ok.kind S.ks (Calls.loadGlobal_builtin (by rw [I.ok.glob]; exact I.mod.glob.keeps I.bk) S.mg (by rw [I.ok.blt]; exact b1.keeps I.bk) ((b2 "super" (by decide)).trans (show bootBuiltins "super" = some (.type "super") by decide +kernel)) ⟨rfl, ?_⟩)
  refine wpAny_loadName_free I.ok.kind S.kc S.cell ⟨_, KX _ _ lkl, rfl⟩ ?_
  obtain ⟨mm, hn, hl⟩ := I.loc
  obtain ⟨u, ru, hu⟩ := hl 0 ag.arg (.ref a) S.n0 h0 (.inl S.ka)
  have eu : u = Value.ref a := ru
  subst eu
  have hv : mm ag.arg = some (.ref a) := by
    rcases hu with z | ⟨z, _⟩
    · exact z.2
    · rcases z with z | z <;> rw [S.ka] at z <;> cases z
  refine wpAny_loadName_local I.ok.kind S.ka hn hv ?_
  obtain ⟨hh, g, d, t, os⟩ := s
  refine ks_wpAny_isType_cls hD1 hD2 ⟨rfl, ?_⟩
  refine ks_wpAny_call_super hD1 hD2 J.at_ J.cls nc (PySem.W.looks_mroIn KX sc.sub) (fun h1 e1 k1 => ?_)
  cases hcC : PySem.W.clsIn X.K C with
  | none =>
    have z := sc.sup
    unfold PySem.W.ks_superIn at z
    rw [hcC] at z
    cases z
  | some cdC =>
    have K1 : X.K.In h1 := KX.keeps k1
    obtain ⟨of, hof, hofc⟩ : ∃ of, h1.get? f2 = some of ∧ of.cls = .type "function" := by
      have ht' : (X.K.lookup f2).map (·.cls) = some (.type "function") := sc.ty
      cases z : X.K.lookup f2 with
      | none => rw [z] at ht'; cases ht'
      | some of => rw [z] at ht'; exact ⟨of, K1 _ _ z, Option.some.inj ht'⟩
    have hsup := sc.sup
    unfold PySem.W.ks_superIn at hsup
    rw [hcC] at hsup
    refine ks_wpAny_getMethod_super e1 (PySem.W.looks_opaque K1 S.st) (l₀ := cdC.mro) ?_ rfl K1 hsup hof hofc (PySem.W.ks_ne KX J hcC) hm ?_
    · exact fun A Q E s k q => wpAny_bind ((PySem.W.looks_clsIn K1 hcC) A _ E s k (wpAny_pure q))
    · have k2 : ∀ b o, hh.get? b = some o → (h1.push { cls := .type "method", data := .fields #[.ref f2, .ref a] }).get? b = some o := fun b o eb => Heap.get?_push_of_some _ (k1 b o eb)
      have I2 : Inv X pins σ H ⟨h1.push { cls := .type "method", data := .fields #[.ref f2, .ref a] }, g, d, t + 1, os⟩ := I.kept (t' := t + 1) k2
      have hsz : hh.objs.size ≤ h1.objs.size := by
        have := Heap.lt_size e1
        exact Nat.le_of_lt this
      have fp := I.fpOk (H' := H) (b := h1.objs.size) hsz (I.hok.fresh hsz)
      have hq1 : (h1.push { cls := .type "method", data := .fields #[.ref f2, .ref a] }).get? h1.objs.size = some (PySem.W.methodObj (.ref f2) (.ref a)) := Heap.get?_push_size _ rfl
      have I3 : Inv X ((h1.objs.size, PySem.W.methodObj (.ref f2) (.ref a)) :: pins) σ H ⟨h1.push { cls := .type "method", data := .fields #[.ref f2, .ref a] }, g, d, t + 1, os⟩ := I2.pins_of fun p hp => by
        rcases List.mem_cons.mp hp with rfl | hp
        · exact ⟨hq1, fp.1, fp.2.1, fp.2.2.1, fun v z => by cases z⟩
        · exact I2.pin p (List.mem_append_right _ hp)
      show wpAny _ _ (callWith pos (.ref h1.objs.size) [] (backTo pos (starEach (e :: es) X.env)) []) _ _ _
      rw [hst]
      refine PySem.W.callWith_of (P := PySem.W.MethP X.K h1.objs.size f2 (.ref a)) (by show ((false || (backTo pos (starEach es X.env)).any (·.1)) || false) = false; rw [hpl]; rfl) (PySem.W.keeps_M sc.fn) (PySem.Calls.evalArgs_plain ?_)
      show wpAny _ _ (spliced (backTo pos ((false, eval e X.env) :: starEach es X.env))) _ _ _
      rw [← hst]
      refine thn (ha.run pos _ _ σ H _ I3 q) fun us s3 ⟨ws, H1, I4, rv, q2⟩ => ?_
      have pq := (I4.pin (h1.objs.size, PySem.W.methodObj (.ref f2) (.ref a)) (List.mem_append_right _ List.mem_cons_self)).1
      refine ⟨⟨pq, I4.kIn⟩, ?_⟩
      have I5 : Inv X pins σ H1 s3 := I4.pins_of fun p hp => I4.pin p (List.mem_append_right _ (List.mem_cons_of_mem _ hp))
      obtain ⟨fd2, ps2, ds2, G2, b2', hd2⟩ := G
      have r2 : Vals (.ref a :: (ws ++ dvs)) (.ref a :: (us ++ ds2)) := .cons rfl (rv.append hd2)
      have hl2 : ((Value.ref a :: us) ++ ds2).length = ps2.length := by
        rw [← G2.len _ _ _ _ q2]
        exact r2.length.symm
      refine wpAny_call (ks_codeAny_call_bound pq (codeAny_mono (G2.run X.A X.stack s3 H1 ⟨.ref a :: us, []⟩ (.ref a :: (us ++ ds2)) (.ref a :: (ws ++ dvs)) _ E hr I5.env0 (b2' s3 (.ref a :: us) I5.kIn hl2) r2 q2) fun r s' hq => ?_))
      cases r with
      | error er => exact hx pins σ H1 s3 er s' I5 hq
      | ok fl =>
        cases fl with
        | ret u =>
          obtain ⟨v, H', I6, _, q3⟩ := I5.after hq
          exact ⟨rfl, H', I6, q3⟩
        | next => exact False.elim hq
        | brk => exact False.elim hq
        | cont => exact False.elim hq
end Gp
end
section
set_option Elab.async false
set_option linter.all false
set_option maxRecDepth 100000
set_option maxHeartbeats 4000000
namespace Gp
open PySem PySem.Spec PyProof.Rows L2 Gh
theorem execs_app (env : PySem.Env) (rest : List Stmt) : ∀ pre : List Stmt, execs (pre ++ rest) env = (execs pre env >>= fun f => match f with
  | .next => execs rest env
  | f => pure f)
  | [] => by
    show execs rest env = (pure Flow.next >>= _)
    rw [pure_bind]
  | st :: pre => by
    show execs (st :: (pre ++ rest)) env = _
    rw [execs_cons, execs_cons, bind_assoc]
    congr 1
    funext f
    cases f with
    | next => exact execs_app env rest pre
    | _ => rw [pure_bind]
theorem wpAt_app {M : Model} {A : Around} {c : Code} {env : PySem.Env} {pre rest : List Stmt} {Q : Flow → Shared → Prop} {E : Value → Shared → Prop} {s : Shared}
    (h : wpAny M A (execs pre env) (fun f s' => match f with
      | .next => _root_.PySem.wpAt M A c (execs rest env) Q E s'
      | f => Q f s') E s) : _root_.PySem.wpAt M A c (execs (pre ++ rest) env) Q E s := by
  rw [execs_app]
  refine _root_.PySem.wpAt_bind (_root_.PySem.wpAt_of_wpAny (wpAny_mono h (fun f s' hf => ?_) fun _ _ z => z))
  cases f with
  | next => exact hf
  | _ => exact _root_.PySem.wpAt_of_wpAny (wpAny_pure hf)
structure SupF (K : PySem.W.Frag) (x qual : Str) (params : Arguments) (body : List Stmt) (scope : Scope) (dvs : List V) (f D : Addr) (file : Str) (fd : FuncData) : Prop where
  ex : ∃ (oc : Value) (od : Option Addr) (dV kV doc pm : Value) (an : Option Addr) (cda : Addr) (ct : Value) (osl : Array (Option Value)) (cc : Addr),
    fd = PySem.W.fnX x qual params body scope [("__class__", cc)] dV kV doc pm an (.ref cda) ct ∧ K.lookup f = some ⟨oc, od, .func fd, osl⟩ ∧ PySem.W.codeIn K (.ref cda) qual = true ∧ DflV K dV dvs ∧
    (∃ cl cld csl, K.lookup cc = some ⟨cl, cld, .cell (some (.ref D)), csl⟩) ∧ ∃ ccl cdd vs ccs tf, K.lookup cda = some ⟨ccl, cdd, .fields vs, ccs⟩ ∧ vs[2]? = some (.str file tf)
  kp : PySem.W.keepIn K (.ref f) = true
structure SupT (K : PySem.W.Frag) (mg : Str → Option Value) (D : Addr) : Prop where
  cD : ∃ cd, PySem.W.clsIn K D = some cd
  mg : mg "super" = none
  st : PySem.W.nsIn K cStatics "thirdparty.any" = some none
section
variable {P : Program} {w : World} {K : PySem.W.Frag} {mg : Str → Option Value} {base : Heap} {CX : CXT} {k : Nat} {x qual file m ar : Str} {params : Arguments} {body : List Stmt} {scope : Scope} {dvs : List V} {f D : Addr} {fd : FuncData} {N ps : List Str} {sp : Sp}
abbrev scx (CX : CXT) (P : Program) (w : World) (K : PySem.W.Frag) (mg : Str → Option Value) (base : Heap) (N : List Str) (x qual : Str) (params : Arguments) (body : List Stmt) (scope : Scope) (cc cda f : Addr) (A : Around) (outer : List PySem.Env) (s : Shared) (H : Hp) (E : XK) : Cx :=
  NdefX.ncx CX P w K mg base N ⟨x, qual, params, body, scope, [("__class__", cc)], cda⟩ f A outer s H E
theorem SupF.ok {pre post : List Stmt} {p0 p1 apos pos epos : Pos} {e : Expr} {es : List Expr} (eb : body = pre ++ .Expr (.Call (.Attribute (.Call (.Name "super" p0) [] [] p1) m apos) (e :: es) [] pos) epos :: post) (F : SupF K x qual params body scope dvs f D file fd) (T : SupT K mg D) (S : NdefX.NScope N ps ["__class__"] scope)
    (len : ∀ vs H Q E, sp vs H Q E → vs.length = ps.length) (hfile : ((P.main.file : Str) == file) = true) (htop : (P.main.scope.names.lookup ("super" : Str)).isSome = false) (hm : (m == ("__class__" : Str)) = false) (hks : scope.names.lookup ("super" : Str) = some .globalImplicit)
    (har : ((params.posonlyargs ++ params.args).head?).map (·.arg) = some ar) (hn0 : N[0]? = some ar) (hka : scope.names.lookup ar = some .local)
    (hbody : ∀ (cc cda : Addr) (A : Around) (outer : List PySem.Env) (s : Shared) (H : Hp) (vs : List V) (Q : VK) (E : XK), Room k (scx CX P w K mg base N x qual params body scope cc cda f A outer s H E).A → sp vs H Q E →
      ∃ t1 ta t2 CX2 k2 f2 dvs2 sp2 E2, PSs (scx CX P w K mg base N x qual params body scope cc cda f A outer s H E) pre t1 ∧
        PA (scx CX P w K mg base N x qual params body scope cc cda f A outer s H E) (e :: es) ta ∧
        PSs (scx CX P w K mg base N x qual params body scope cc cda f A outer s H E) post t2 ∧
        PromO P w K mg base CX2 k2 f2 dvs2 sp2 ∧ k2 ≤ k ∧ Passes CX2 (scx CX P w K mg base N x qual params body scope cc cda f A outer s H E) E2 ∧
        t1 { nx := fun σ1 H1 => ∃ a C dx fs, σ1[0]? = some (some (.ref a)) ∧ H1 a = some (.ins C dx fs) ∧ SupC K C D m f2 ∧ ta σ1 H1 fun us H2 => sp2 (.ref a :: (us ++ dvs2)) H2 (fun _ H3 => t2 { nx := fun _ H' => Q .non H', rt := Q } σ1 H3) E2, rt := Q } (L2.start N vs) H)
    (hst : ∀ env : PySem.Env, starEach (e :: es) env = (false, eval e env) :: starEach es env := by intro _; rfl) (hpl : ∀ env : PySem.Env, (backTo pos (starEach es env)).any (·.1) = false := by intro _; rfl)
    (pl : PySem.Env → Sem Bool)
    (he : ∀ env : PySem.Env, eval (.Call (.Attribute (.Call (.Name "super" p0) [] [] p1) m apos) (e :: es) [] pos) env = (do
      let ov ← attributeBase (.Call (.Name "super" p0) [] [] p1) m env (eval (.Call (.Name "super" p0) [] [] p1) env)
      standAt apos.atName
      let (f, first) ← holding [ov] (getMethod ov m (pl env))
      callWith pos f first (backTo pos (starEach (e :: es) env)) []))
    (hsw : ∀ env : PySem.Env, swapsWith (.Call (.Attribute (.Call (.Name "super" p0) [] [] p1) m apos) (e :: es) [] pos) none epos.line env = pure false := by intro _; rfl) :
    FnOk P w K mg base CX (k + 1) f fd ps sp := by
  obtain ⟨oc, od, dV, kV, doc, pm, an, cda, ct, osl, cc, rfl, lk, hcd, _, ⟨cl, cld, csl, lkl⟩, ccl, cdd, vsc, ccs, tf, lkc, hvs⟩ := F.ex
  refine ⟨len, fun A outer s H args us vs Q E hr e0 hb r hsp => ?_⟩
  have KX : K.In s.heap := e0.mod.kin.keeps fun b o e => (e0.bs b o e).1
  have lim : s.heap.NoLimit := e0.mod.nolimit.keeps fun b o e => (e0.bs b o e).1
  have hl := len _ _ _ _ hsp
  have hpl2 : ps.length + 1 ≤ N.length := by
    have q := congrArg List.length S.pre
    rw [List.length_take, List.length_append] at q
    have : (["__class__"] : List Str).length = 1 := rfl
    omega
  refine ks_codeAny_call_defAt hr.depth (KX _ _ lk) rfl lim (PySem.W.codeRec_of KX hcd) rfl hb S.nocell (fun ⟨n, _⟩ hy => S.par n (List.of_mem_zip hy).1) (fun h₁ hns kp => ?_) S.co S.gen S.kind
  obtain ⟨t1, ta, t2, CX2, k2, f2, dvs2, sp2, E2, h1, h2, h3, G, hk2, hx2, hq⟩ := hbody cc cda A outer s H vs Q E (hr.deeper _) hsp
  have C : NdefX.CellsAt [(("__class__" : Str), cc)] ["__class__"] [none] s.heap H := by
    have hc : s.heap.get? cc = some ⟨cl, cld, .cell (some (.ref D)), csl⟩ := KX _ _ lkl
    have hH : H cc = none := by
      have hb : base.get? cc = some ⟨cl, cld, .cell (some (.ref D)), csl⟩ := e0.mod.kin _ _ lkl
      exact (e0.bs _ _ hb).2
    have one : ∀ (y : Str) (c : Addr), ([(("__class__" : Str), cc)] : List (Str × Addr)).lookup y = some c → y = "__class__" ∧ c = cc := fun y c hy => by
      rcases look_cons hy with ⟨e1, e2⟩ | z
      · exact ⟨e1, e2⟩
      · cases z
    refine ⟨rfl, fun y c hy => ?_, fun x y c hx hy => (one x c hx).1.trans (one y c hy).1.symm, fun i y hy => ?_⟩
    · obtain ⟨_, rfl⟩ := one y c hy
      exact ⟨hH, _, _, hc, rfl⟩
    · have e2 : y = "__class__" := by
        cases i with
        | zero => cases hy; rfl
        | succ i => cases hy
      subst e2
      refine ⟨cc, rfl, fun v hv => ?_⟩
      cases i with
      | zero => cases hv
      | succ i => cases hv
  have I := NdefX.inv_startN (CX := CX) (P := P) (w := w) (K := K) (mg := mg) (base := base) (N := N) (F := ⟨x, qual, params, body, scope, [("__class__", cc)], cda⟩) (f := f) (E := E) (tk := s.toks + (ps.zip us).length) S hr.hd e0 hl r C hns kp
  have est : NdefX.startF N vs [none] = L2.start N vs := by
    unfold NdefX.startF L2.start
    congr 1
    rw [List.length_singleton, ← List.singleton_append]
    have : N.length - vs.length = (N.length - vs.length - 1) + 1 := by omega
    rw [this, List.replicate_succ]
    rfl
  rw [est] at I
  have SX : SupX (scx CX P w K mg base N x qual params body scope cc cda f A outer s H E) D f cda cc ar := by
    refine ⟨rfl, rfl, ?_, ⟨ccl, cdd, vsc, ccs, file, tf, lkc, hvs, hfile⟩, htop, hks, S.frk _ (List.mem_singleton.mpr rfl), rfl, ⟨cl, cld, csl, lkl⟩, T.cD, T.mg, T.st, hn0, hka⟩
    cases z : (params.posonlyargs ++ params.args).head? with
    | none => rw [z] at har; cases har
    | some a =>
      rw [z] at har
      exact ⟨_, _, _, _, a, lk, z, Option.some.inj har⟩
  have fin : ∀ {s' : Shared} {σ' : L2.St} {H' : Hp} {v : V} {u : Value}, Inv (scx CX P w K mg base N x qual params body scope cc cda f A outer s H E) [] σ' H' s' → L2.RelV v u → Q v H' → CE outer P w H s Q u s' :=
    fun {s' σ' H' v u} J rv q => ⟨v, H', J.os, J.bare, J.base, J.hok, rv, q⟩
  have eb2 : execs body (scx CX P w K mg base N x qual params body scope cc cda f A outer s H E).env = execs (pre ++ .Expr (.Call (.Attribute (.Call (.Name "super" p0) [] [] p1) m apos) (e :: es) [] pos) epos :: post) (scx CX P w K mg base N x qual params body scope cc cda f A outer s H E).env := by rw [← eb]
  show _root_.PySem.wpAt _ _ _ (execs body _) _ _ _
  refine eb2 ▸ wpAt_app (wpAny_mono (h1.run [] _ (L2.start N vs) H _ I hq) (fun fl s' hs => ?_) fun _ _ z => z)
  cases fl with
  | ret u =>
    obtain ⟨v, σ', H', J, rv, q⟩ := hs
    exact fin J rv q
  | brk =>
    obtain ⟨_, _, _, q⟩ := hs
    exact False.elim q
  | cont =>
    obtain ⟨_, _, _, q⟩ := hs
    exact False.elim q
  | next =>
    obtain ⟨σ', H', J, q⟩ := hs
    refine ks_wpAt_execs_cons (_root_.PySem.wpAt_mono (sup_run (pl := pl _) SX hm h2 G ((hr.deeper _).mono hk2) hx2 J q (hst _) (hpl _) (he _) (hsw _)) (fun fl2 s2 hq2 => ?_) fun _ _ z => z)
    obtain ⟨rfl, H2, J2, q2⟩ := hq2
    refine _root_.PySem.wpAt_of_wpAny (wpAny_mono (h3.run [] s2 σ' H2 _ J2 q2) (fun fl s' hs => ?_) fun _ _ z => z)
    cases fl with
    | ret u =>
      obtain ⟨v, σ', H', J, rv, q⟩ := hs
      exact fin J rv q
    | next =>
      obtain ⟨σ', H', J, q⟩ := hs
      exact fin (v := V.non) (u := Value.none) J rfl q
    | brk =>
      obtain ⟨_, _, _, q⟩ := hs
      exact False.elim q
    | cont =>
      obtain ⟨_, _, _, q⟩ := hs
      exact False.elim q
end
end Gp
end
section
set_option Elab.async false
set_option linter.all false
set_option maxRecDepth 100000
set_option maxHeartbeats 4000000
namespace Gp
open PySem PySem.Spec PyProof.Rows L2 Gh
structure Ds where
  d : Df
  own : PySem.W.Frag → Addr
def fnAtS (K : PySem.W.Frag) (a : Addr) : He.FnW := match K.lookup a with
  | some ⟨_, _, .func fd, _⟩ => some (fd.name, fd.qualname, fd.params, fd.body, fd.scope, fd.globals, fd.closure.map (fun q => (q.1, 0)), fd.builtins)
  | _ => none
def Ds.val (d : Ds) : He.FnW := some (d.d.name, d.d.qual, defArgs d.d.st, .stmts (defBody d.d.st), defScope d.d.st, mainGlobals, [("__class__", 0)], builtinsNs)
def fileB (K : PySem.W.Frag) (file : Str) : Value → Bool
  | .ref c => (match K.lookup c with
    | some ⟨_, _, Data.fields vs, _⟩ => (match (vs[2]? : Option Value) with
      | some (Value.str f _) => decide (f = file)
      | _ => false)
    | _ => false)
  | _ => false
def cellB (K : PySem.W.Frag) (B : Addr) : List (Str × Addr) → Bool
  | [(_, c)] => (match K.lookup c with
    | some ⟨_, _, .cell (some (.ref b)), _⟩ => decide (b = B)
    | _ => false)
  | _ => false
def Ds.ok (file : Str) (K : PySem.W.Frag) (d : Ds) : Bool := PySem.W.keepIn K (.ref (d.d.adr K)) && (match K.lookup (d.d.adr K) with
  | some ⟨_, _, .func fd, _⟩ => PySem.W.codeIn K fd.code d.d.qual && (He.dflB K fd.defaults (d.d.dvs K) && (fileB K file fd.code && cellB K (d.own K) fd.closure))
  | _ => false)
structure SaysS (ex : List (PySem.W.Frag → Bool)) (fn : List Df) (tf : List He.Defn) (fs : List Ds) (file : Str) (h : Heap) (K : PySem.W.Frag) : Prop where
  s : SaysT ex fn tf h K
  o : (fs.all fun d => d.ok file K) = true
  v : (fs.map fun d => fnAtS K (d.d.adr K)) = fs.map Ds.val
abbrev AlS : Type := AlT × Bool × List He.FnW
def supCB (c b : Str) (m : Str) (f2 : PySem.W.Frag → Addr) (K : PySem.W.Frag) : Bool := decide (PySem.W.mroIn K (gd c K) (.ref (gd b K)) = some true) && (He.eqO (PySem.W.ks_superIn K (gd c K) (gd b K) m) (some (some (.ref (f2 K)))) && (decide (PySem.W.typeIn K (.ref (f2 K)) = some (.type "function")) && PySem.W.fnIn K (f2 K)))
end Gp
end
section
set_option Elab.async false
set_option linter.all false
set_option maxRecDepth 100000
set_option maxHeartbeats 4000000
namespace Gp
open PySem PySem.Spec PyProof.Rows L2 Gh
section
variable {P : Program} {w : World} {K : PySem.W.Frag} {mg : Str → Option Value} {base : Heap} {CX : CXT} {k : Nat} {x qual file m ar : Str} {params : Arguments} {body : List Stmt} {scope : Scope} {dvs : List V} {f D : Addr} {fd : FuncData} {N ps : List Str} {sp : Sp}
theorem SupF.run {A : Around} {outer : List PySem.Env} {s : Shared} {H : Hp} {args : Args} {Q : VK} {E : XK} {G : List V → Hp → Prop} {pre post : List Stmt} {p0 p1 apos pos epos : Pos} {e : Expr} {es : List Expr} (eb : body = pre ++ .Expr (.Call (.Attribute (.Call (.Name "super" p0) [] [] p1) m apos) (e :: es) [] pos) epos :: post) (F : SupF K x qual params body scope dvs f D file fd) (T : SupT K mg D) (S : NdefX.NScope N ps ["__class__"] scope)
    (hr : Room (k + 1) A) (e0 : Env0 P w K mg base A outer s H) (hb : StX.Bnd CX P w K mg base fd args ps A outer s H E G) (hfile : ((P.main.file : Str) == file) = true) (htop : (P.main.scope.names.lookup ("super" : Str)).isSome = false) (hm : (m == ("__class__" : Str)) = false) (hks : scope.names.lookup ("super" : Str) = some .globalImplicit)
    (har : ((params.posonlyargs ++ params.args).head?).map (·.arg) = some ar) (hn0 : N[0]? = some ar) (hka : scope.names.lookup ar = some .local)
    (hbody : ∀ (cc cda : Addr) (s : Shared) (H : Hp) (vs : List V), Room k (scx CX P w K mg base N x qual params body scope cc cda f A outer s H E).A → G vs H →
      ∃ t1 ta t2 CX2 k2 f2 dvs2 sp2 E2, PSs (scx CX P w K mg base N x qual params body scope cc cda f A outer s H E) pre t1 ∧
        PA (scx CX P w K mg base N x qual params body scope cc cda f A outer s H E) (e :: es) ta ∧
        PSs (scx CX P w K mg base N x qual params body scope cc cda f A outer s H E) post t2 ∧
        PromO P w K mg base CX2 k2 f2 dvs2 sp2 ∧ k2 ≤ k ∧ Passes CX2 (scx CX P w K mg base N x qual params body scope cc cda f A outer s H E) E2 ∧
        t1 { nx := fun σ1 H1 => ∃ a C dx fs, σ1[0]? = some (some (.ref a)) ∧ H1 a = some (.ins C dx fs) ∧ SupC K C D m f2 ∧ ta σ1 H1 fun us H2 => sp2 (.ref a :: (us ++ dvs2)) H2 (fun _ H3 => t2 { nx := fun _ H' => Q .non H', rt := Q } σ1 H3) E2, rt := Q } (L2.start N vs) H)
    (hst : ∀ env : PySem.Env, starEach (e :: es) env = (false, eval e env) :: starEach es env := by intro _; rfl) (hpl : ∀ env : PySem.Env, (backTo pos (starEach es env)).any (·.1) = false := by intro _; rfl)
    (pl : PySem.Env → Sem Bool)
    (he : ∀ env : PySem.Env, eval (.Call (.Attribute (.Call (.Name "super" p0) [] [] p1) m apos) (e :: es) [] pos) env = (do
      let ov ← attributeBase (.Call (.Name "super" p0) [] [] p1) m env (eval (.Call (.Name "super" p0) [] [] p1) env)
      standAt apos.atName
      let (f, first) ← holding [ov] (getMethod ov m (pl env))
      callWith pos f first (backTo pos (starEach (e :: es) env)) []))
    (hsw : ∀ env : PySem.Env, swapsWith (.Call (.Attribute (.Call (.Name "super" p0) [] [] p1) m apos) (e :: es) [] pos) none epos.line env = pure false := by intro _; rfl) :
    codeAny (model P w) A (.call (.ref f) args) (CR CX outer P w H s Q E) s := by
  obtain ⟨oc, od, dV, kV, doc, pm, an, cda, ct, osl, cc, rfl, lk, hcd, _, ⟨cl, cld, csl, lkl⟩, ccl, cdd, vsc, ccs, tf, lkc, hvs⟩ := F.ex
  have KX0 : K.In s.heap := e0.mod.kin.keeps fun b o e => (e0.bs b o e).1
  refine codeAny_call_function hr.depth (KX0 _ _ lk) rfl S.co S.gen rfl (PySem.W.codeRec_of KX0 hcd) ?_
  refine hb _ _ _ fun s2 H2 vs us e2 un ho hxx r hl gg => ?_
  have KX : K.In s2.heap := e0.mod.kin.keeps fun b o e => (e2.bs b o e).1
  have lim : s2.heap.NoLimit := e0.mod.nolimit.keeps fun b o e => (e2.bs b o e).1
  have hpl2 : ps.length + 1 ≤ N.length := by
    have q := congrArg List.length S.pre
    rw [List.length_take, List.length_append] at q
    have : (["__class__"] : List Str).length = 1 := rfl
    omega
  refine wpAny_newFunctionEnv S.nocell (fun ⟨n, _⟩ hy => S.par n (List.of_mem_zip hy).1) (fun h₁ hns hsb => ⟨lim.fresh _ hsb, ks_codeAny_funcAt ?_⟩) S.kind
  have kp : ∀ b o, s2.heap.get? b = some o → h₁.get? b = some o := fun b o e => hsb.extBut b o (Nat.ne_of_lt (Heap.lt_size e)) (Heap.get?_push_of_some _ e)
  refine _root_.PySem.wpAt_mono (Q := fun fl s' => CR CX outer P w H s Q E (.ok (.ret (match fl with | .ret v => v | _ => .none))) s') (E := (scx CX P w K mg base N x qual params body scope cc cda f A outer s2 H2 E).xe) ?_ (fun _ _ z => z) (fun e s' hs => wpAny_mono hs (fun _ s'' z => hxx e s'' z) fun e' s'' z => hxx e' s'' z)
  obtain ⟨t1, ta, t2, CX2, k2, f2, dvs2, sp2, E2, h1, h2, h3, G, hk2, hx2, hq⟩ := hbody cc cda s2 H2 vs (hr.deeper _) gg
  have C : NdefX.CellsAt [(("__class__" : Str), cc)] ["__class__"] [none] s2.heap H2 := by
    have hc : s2.heap.get? cc = some ⟨cl, cld, .cell (some (.ref D)), csl⟩ := KX _ _ lkl
    have hH : H2 cc = none := by
      have hb : base.get? cc = some ⟨cl, cld, .cell (some (.ref D)), csl⟩ := e0.mod.kin _ _ lkl
      exact (e2.bs _ _ hb).2
    have one : ∀ (y : Str) (c : Addr), ([(("__class__" : Str), cc)] : List (Str × Addr)).lookup y = some c → y = "__class__" ∧ c = cc := fun y c hy => by
      rcases look_cons hy with ⟨e1, e2⟩ | z
      · exact ⟨e1, e2⟩
      · cases z
    refine ⟨rfl, fun y c hy => ?_, fun x y c hx hy => (one x c hx).1.trans (one y c hy).1.symm, fun i y hy => ?_⟩
    · obtain ⟨_, rfl⟩ := one y c hy
      exact ⟨hH, _, _, hc, rfl⟩
    · have e2 : y = "__class__" := by
        cases i with
        | zero => cases hy; rfl
        | succ i => cases hy
      subst e2
      refine ⟨cc, rfl, fun v hv => ?_⟩
      cases i with
      | zero => cases hv
      | succ i => cases hv
  have I := NdefX.inv_startN (CX := CX) (P := P) (w := w) (K := K) (mg := mg) (base := base) (N := N) (F := ⟨x, qual, params, body, scope, [("__class__", cc)], cda⟩) (f := f) (E := E) (tk := s2.toks + (ps.zip us).length) S hr.hd e2 hl r C hns kp
  have est : NdefX.startF N vs [none] = L2.start N vs := by
    unfold NdefX.startF L2.start
    congr 1
    rw [List.length_singleton, ← List.singleton_append]
    have : N.length - vs.length = (N.length - vs.length - 1) + 1 := by omega
    rw [this, List.replicate_succ]
    rfl
  rw [est] at I
  have SX : SupX (scx CX P w K mg base N x qual params body scope cc cda f A outer s2 H2 E) D f cda cc ar := by
    refine ⟨rfl, rfl, ?_, ⟨ccl, cdd, vsc, ccs, file, tf, lkc, hvs, hfile⟩, htop, hks, S.frk _ (List.mem_singleton.mpr rfl), rfl, ⟨cl, cld, csl, lkl⟩, T.cD, T.mg, T.st, hn0, hka⟩
    cases z : (params.posonlyargs ++ params.args).head? with
    | none => rw [z] at har; cases har
    | some a =>
      rw [z] at har
      exact ⟨_, _, _, _, a, lk, z, Option.some.inj har⟩
  have fin : ∀ {s' : Shared} {σ' : L2.St} {H' : Hp} {v : V} {u : Value}, Inv (scx CX P w K mg base N x qual params body scope cc cda f A outer s2 H2 E) [] σ' H' s' → L2.RelV v u → Q v H' → CE outer P w H s Q u s' :=
    fun {s' σ' H' v u} J rv q => ⟨v, H', J.os.trans ho, J.bare, un.trans J.base, J.hok, rv, q⟩
  have eb2 : execs body (scx CX P w K mg base N x qual params body scope cc cda f A outer s2 H2 E).env = execs (pre ++ .Expr (.Call (.Attribute (.Call (.Name "super" p0) [] [] p1) m apos) (e :: es) [] pos) epos :: post) (scx CX P w K mg base N x qual params body scope cc cda f A outer s2 H2 E).env := by rw [← eb]
  show _root_.PySem.wpAt _ _ _ (execs body _) _ _ _
  refine eb2 ▸ wpAt_app (wpAny_mono (h1.run [] _ (L2.start N vs) H2 _ I hq) (fun fl s' hs => ?_) fun _ _ z => z)
  cases fl with
  | ret u =>
    obtain ⟨v, σ', H', J, rv, q⟩ := hs
    exact fin J rv q
  | brk =>
    obtain ⟨_, _, _, q⟩ := hs
    exact False.elim q
  | cont =>
    obtain ⟨_, _, _, q⟩ := hs
    exact False.elim q
  | next =>
    obtain ⟨σ', H', J, q⟩ := hs
    refine ks_wpAt_execs_cons (_root_.PySem.wpAt_mono (sup_run (pl := pl _) SX hm h2 G ((hr.deeper _).mono hk2) hx2 J q (hst _) (hpl _) (he _) (hsw _)) (fun fl2 s3 hq2 => ?_) fun _ _ z => z)
    obtain ⟨rfl, H3, J2, q2⟩ := hq2
    refine _root_.PySem.wpAt_of_wpAny (wpAny_mono (h3.run [] s3 σ' H3 _ J2 q2) (fun fl s' hs => ?_) fun _ _ z => z)
    cases fl with
    | ret u =>
      obtain ⟨v, σ', H', J, rv, q⟩ := hs
      exact fin J rv q
    | next =>
      obtain ⟨σ', H', J, q⟩ := hs
      exact fin (v := V.non) (u := Value.none) J rfl q
    | brk =>
      obtain ⟨_, _, _, q⟩ := hs
      exact False.elim q
    | cont =>
      obtain ⟨_, _, _, q⟩ := hs
      exact False.elim q
end
section
variable {g : Gw} {Mt U0 U U' : Addr → Prop} {H0 H H' H1 H2 : Hp} {b b1 b2 : Nat} {σ : L2.St} {ε ε' : Env} {E : XK}
end
end Gp
end
section
set_option Elab.async false
set_option linter.all false
set_option maxRecDepth 100000
set_option maxHeartbeats 4000000
namespace Gp
open PySem PySem.Spec PyProof.Rows L2 Gh
def cvB (c f : Str) (i : Int) (K : PySem.W.Frag) : Bool := PySem.W.readsIn K (gd c K) (.type "type") && (match PySem.W.findCls K (.ref (gd c K)) (.type "type") f with
  | some (.val (.int j _)) => decide (j = i)
  | _ => false)
section
variable {g : Gw} {Mt U0 U U' : Addr → Prop} {H0 H H' H1 H2 : Hp} {b b1 b2 : Nat} {σ : L2.St} {ε ε' : Env} {E : XK}
variable {W L : Type} {env : W → Env} {envL : L → Env} {a r : TS} {t : TS} {m : Tr (Fl W L)}
end
end Gp
end
section
set_option Elab.async false
set_option linter.all false
set_option maxRecDepth 100000
set_option maxHeartbeats 4000000
namespace Gp
open PySem PySem.Spec PyProof.Rows L2 Gh
def frL {α : Type} : List (Addr × Obj) → (List (Addr × Obj) → α) → α
  | [], k => k []
  | (a, o) :: r, k => frL r fun r' => k ((a, o) :: r')
theorem frL_eq {α : Type} : ∀ (l : List (Addr × Obj)) (k : List (Addr × Obj) → α), frL l k = k l
  | [], _ => rfl
  | (a, o) :: r, k => by
    show frL r (fun r' => k ((a, o) :: r')) = _
    rw [frL_eq r]
def obsK (ex : List (PySem.W.Frag → Bool)) (fn : List Df) (tf : List He.Defn) (fs : List Ds) (file : Str) (g : Addr → Option Obj) (K : PySem.W.Frag) : AlS :=
  ((obs ex fn K, He.tabsB g tf K), (fs.all fun d => d.ok file K), fs.map fun d => fnAtS K (d.d.adr K))
def obsL (as : List Addr) (ex : List (PySem.W.Frag → Bool)) (fn : List Df) (tf : List He.Defn) (fs : List Ds) (file : Str) (g : Addr → Option Obj) : AlS := frL (He.frT g as) fun K => obsK ex fn tf fs file g K
theorem saysL_of {as : List Addr} {ex : List (PySem.W.Frag → Bool)} {fn : List Df} {tf : List He.Defn} {h : Heap} (e1 : obs ex fn (He.frT h.get? as) = val fn) (e2 : He.tabsB h.get? tf (He.frT h.get? as) = true) : SaysT ex fn tf h (He.frT h.get? as) := by
  have key : ∀ p ∈ tf, PySem.W.codeHdIn (He.frT h.get? as) (He.cT (He.frT h.get? as) p).1 (He.cT (He.frT h.get? as) p).2 = true ∧ ∃ o, h.get? (He.cT (He.frT h.get? as) p).2 = some o ∧ He.emptyTab o = true := fun p hp => by
    obtain ⟨h3, h4⟩ := He.ba (List.all_eq_true.mp e2 p hp)
    refine ⟨h3, ?_⟩
    cases q : h.get? (He.cT (He.frT h.get? as) p).2 with
    | none =>
      rw [q] at h4
      cases h4
    | some o =>
      rw [q] at h4
      exact ⟨o, rfl, h4⟩
  exact ⟨e1, fun p hp => (key p hp).1, fun p hp => by
    obtain ⟨_, o, q, z⟩ := key p hp
    exact He.frT_none q z, fun p hp => by
    obtain ⟨_, o, q, z⟩ := key p hp
    rw [q, He.emptyTab_eq z]⟩
def hookL (as : List Addr) (ex : List (PySem.W.Frag → Bool)) (fn : List Df) (tf : List He.Defn) (fs : List Ds) (file : Str) : PySem.W.Hook where
  α := AlS
  obs := fun s => obsL as ex fn tf fs file s.heap.get?
  val := fun _ => ((Gh.val fn, true), true, fs.map Ds.val)
  says := fun _ h => ∃ K : PySem.W.Frag, K.In h ∧ SaysS ex fn tf fs file h K
  of := fun _ s e => by
    have e' : obsK ex fn tf fs file _ (He.frT _ as) = ((Gh.val fn, true), true, fs.map Ds.val) := (frL_eq _ _).symm.trans e
    exact ⟨_, He.frT_in, ⟨saysL_of (congrArg (fun z : AlS => z.1.1) e') (congrArg (fun z : AlS => z.1.2) e'), congrArg (fun z : AlS => z.2.1) e', congrArg (fun z : AlS => z.2.2) e'⟩⟩
  keeps := fun _ _ _ ⟨K, hK, c⟩ k => ⟨K, PySem.W.Frag.In.keeps hK k, ⟨⟨c.s.t, c.s.hd, c.s.out, fun p hp => k _ _ (c.s.empty p hp)⟩, c.o, c.v⟩⟩
end Gp
end
section
set_option Elab.async false
set_option linter.all false
set_option maxRecDepth 100000
set_option maxHeartbeats 4000000
namespace Gp
open PySem PySem.Spec PyProof.Rows L2 Gh
section
variable {g : Gw} {Mt U0 U U' : Addr → Prop} {H0 H H' H1 H2 : Hp} {b b1 : Nat} {σ : L2.St} {ε ε' : Env} {W L W' : Type} {yd : List D}
variable {env : W → Env} {envL : L → Env} {env' : W' → Env} {u ta tb : TGn} {te : TE} {me : Tr D}
def gflP (g : Gw) (Mt U0 : Addr → Prop) (H0 : Hp) (U : Addr → Prop) (H : Hp) (D : GEnds) (env : W → Env) (envL : L → Env) : List Gp.D × Fl W L → Nat → Prop
  | (zs, .nx w), b => ∀ U' σ' H' ys', Ev U H U' H' → Stt g Mt U0 H0 U' σ' H' b (env w) → DenL g U' H' ys' zs → D.nx ys' σ' H'
  | (_, .rt _), _ => False
  | (zs, .bk w), b => ∀ U' σ' H' ys', Ev U H U' H' → Stt g Mt U0 H0 U' σ' H' b (envL w) → DenL g U' H' ys' zs → D.bk ys' σ' H'
  | (zs, .ct w), b => ∀ U' σ' H' ys', Ev U H U' H' → Stt g Mt U0 H0 U' σ' H' b (envL w) → DenL g U' H' ys' zs → D.ct ys' σ' H'
theorem gflP.ev {U1 : Addr → Prop} {H1 : Hp} {D : GEnds} {env : W → Env} {envL : L → Env} (e : Ev U H U1 H1) : ∀ {f : List Gp.D × Fl W L}, gflP g Mt U0 H0 U H D env envL f b → gflP g Mt U0 H0 U1 H1 D env envL f b
  | (_, .nx w), h => fun U' σ' H' ys' e1 => h U' σ' H' ys' (e.trans e1)
  | (_, .rt d), h => h
  | (_, .bk w), h => fun U' σ' H' ys' e1 => h U' σ' H' ys' (e.trans e1)
  | (_, .ct w), h => fun U' σ' H' ys' e1 => h U' σ' H' ys' (e.trans e1)
def SG (g : Gw) (ε : Env) (t : TGn) (env : W → Env) (envL : L → Env) (m : List D → Tr (List D × Fl W L)) : Prop := ∀ Mt U0 H0 U D ys yd σ H b, Stt g Mt U0 H0 U σ H b ε → DenL g U H ys yd → Al (gflP g Mt U0 H0 U H D env envL) (fun _ _ _ => False) (m yd) b → t D ys σ H
def bdG (m : Tr (List D × Fl W' L)) (k : W' → List D → Tr (List D × Fl W L)) : Tr (List D × Fl W L) := bd m fun r => match r with
  | (zs, .nx w) => k w zs
  | (zs, .rt d) => .ok (zs, .rt d)
  | (zs, .bk l) => .ok (zs, .bk l)
  | (zs, .ct l) => .ok (zs, .ct l)
theorem SG.seq {m : List D → Tr (List D × Fl W' L)} {k : W' → List D → Tr (List D × Fl W L)} (h1 : SG g ε ta env' envL m) (h2 : ∀ w, SG g (env' w) u env envL (k w)) : SG g ε (tGThen ta u) env envL (fun yd => bdG (m yd) k) := fun Mt U0 H0 U D ys yd σ H b s dn q => by
  refine h1 Mt U0 H0 U { D with nx := fun ys' σ' H' => u D ys' σ' H' } ys yd σ H b s dn ((al_bd.mp q).mono (fun r b1 h => ?_) (fun _ _ _ z => z))
  obtain ⟨zs, f⟩ := r
  cases f with
  | nx w => exact fun U1 σ1 H1 ys1 e1 s1 d1 => h2 w Mt U0 H0 U1 D ys1 zs σ1 H1 b1 s1 d1 (Al.mono (fun _ _ z => z.ev e1) (fun _ _ _ z => z) h)
  | rt d => exact h.elim
  | bk l => exact h
  | ct l => exact h
end
section
variable {P : Program} {w : World} {K : PySem.W.Frag} {mg : Str → Option Value} {base : Heap}
end
end Gp
end
section
set_option Elab.async false
set_option linter.all false
set_option maxRecDepth 100000
set_option maxHeartbeats 4000000
namespace Gp
open PySem PySem.Spec PyProof.Rows L2 Gh
def clsG (x m : Str) (K : PySem.W.Frag) : Addr := match PySem.W.recIn K (He.ma K (He.ga K x) m) "classmethod" with
  | some (.ref g :: _) => g
  | _ => 0
def clmB (x m : Str) (K : PySem.W.Frag) : Bool := PySem.W.readsIn K (gd x K) (.type "type") && (He.eqO (PySem.W.specialIn K (.ref (gd x K)) "__getattribute__") (some (some (.builtin "type.__getattribute__"))) &&
  ((match PySem.W.findCls K (.ref (gd x K)) (.type "type") m with
    | some (.get (.builtin b) (.ref p) .none (.ref C)) => decide (b = "classmethod.__get__") && (decide (p = He.ma K (He.ga K x) m) && decide (C = gd x K))
    | _ => false) && ((match PySem.W.recIn K (He.ma K (He.ga K x) m) "classmethod" with
    | some (.ref _ :: _) => true
    | _ => false) && PySem.W.fnIn K (clsG x m K))))
section
variable {g : Gw} {U : Addr → Prop} {H : Hp} {σ : L2.St} {ε : Env} {E : XK} {Q : VK}
end
end Gp
end
section
set_option Elab.async false
set_option linter.all false
set_option maxRecDepth 100000
set_option maxHeartbeats 4000000
namespace Gp
open PySem PySem.Spec PyProof.Rows L2 Gh
section
variable {g : Gw} {Mt U0 U U' : Addr → Prop} {H0 H H' H1 H2 : Hp} {b b1 : Nat} {σ : L2.St} {ε ε' : Env} {E : XK} {W L W' : Type}
variable {env : W → Env} {envL : L → Env} {env' : W' → Env} {u ta tb : TS} {te ti : TE} {me mi : Tr D}
structure Pnd (g : Gw) (Mt U0 : Addr → Prop) (H0 : Hp) (U : Addr → Prop) (σ : L2.St) (H : Hp) (ε : Env) (A : Addr) (ds : List D) : Prop where
  at_ : ∃ vs, H A = some (.lst vs) ∧ vs.length ≤ sizeLine ∧ DenL g U H vs ds
  u : U A
  np : A ≠ g.p
  nc : A ≠ g.c
  n0 : ¬ U0 A
  no : ∀ j, ¬ OwnAt σ ε j A
  mt : Mt A ∨ ∀ o, H0 A = some o → ∃ ps, o = .tbl ps
theorem Pnd.set {A : Addr} {ds : List D} (p : Pnd g Mt U0 H0 U σ H ε A ds) (i : Nat) (v : V) (d : D) : Pnd g Mt U0 H0 U (σ.set i (some v)) H (ε.set i (.fz d)) A ds :=
  ⟨p.at_, p.u, p.np, p.nc, p.n0, fun j h => p.no j (ownAt_set h).2, p.mt⟩
inductive QR (g : Gw) (Mt U0 : Addr → Prop) (H0 : Hp) (U : Addr → Prop) (σ : L2.St) (H : Hp) (ε : Env) : Nat → List V → List D → Prop
  | here {A : Addr} {ds : List D} {vs : List V} {xs : List D} : Pnd g Mt U0 H0 U σ H ε A ds → DenL g U H vs xs → QR g Mt U0 H0 U σ H ε 0 (.ref A :: vs) (.lst ds :: xs)
  | next {n : Nat} {v : V} {d : D} {vs : List V} {ds : List D} : Den g U H v d → QR g Mt U0 H0 U σ H ε n vs ds → QR g Mt U0 H0 U σ H ε (n + 1) (v :: vs) (d :: ds)
theorem QR.length {n : Nat} : ∀ {vs : List V} {ds : List D}, QR g Mt U0 H0 U σ H ε n vs ds → vs.length = ds.length
  | _, _, .here _ k => congrArg (· + 1) k.length
  | _, _, .next _ r => congrArg (· + 1) r.length
end
end Gp
end
section
set_option Elab.async false
set_option linter.all false
set_option maxRecDepth 100000
set_option maxHeartbeats 4000000
namespace Gp
open PySem PySem.Spec PyProof.Rows L2 Gh
theorem obsK_and {as : List Addr} {e1 e2 : List (PySem.W.Frag → Bool)} {f1 f2 : List Df} {t1 : List He.Defn} {s1 s2 : List Ds} {file : Str} {g : Addr → Option Obj} {K : PySem.W.Frag}
    (h1 : obsK e1 f1 t1 s1 file g K = ((Gh.val f1, true), true, s1.map Ds.val)) (h2 : obsK e2 f2 [] s2 file g K = ((Gh.val f2, true), true, s2.map Ds.val)) :
    obsK (e1 ++ e2) (f1 ++ f2) t1 (s1 ++ s2) file g K = ((Gh.val (f1 ++ f2), true), true, (s1 ++ s2).map Ds.val) := by
  have a1 : obs e1 f1 K = Gh.val f1 := congrArg (fun z : AlS => z.1.1) h1
  have a2 : obs e2 f2 K = Gh.val f2 := congrArg (fun z : AlS => z.1.1) h2
  have b1 : He.tabsB g t1 K = true := congrArg (fun z : AlS => z.1.2) h1
  have c1 : (s1.all fun d => d.ok file K) = true := congrArg (fun z : AlS => z.2.1) h1
  have c2 : (s2.all fun d => d.ok file K) = true := congrArg (fun z : AlS => z.2.1) h2
  have d1 : (s1.map fun d => fnAtS K (d.d.adr K)) = s1.map Ds.val := congrArg (fun z : AlS => z.2.2) h1
  have d2 : (s2.map fun d => fnAtS K (d.d.adr K)) = s2.map Ds.val := congrArg (fun z : AlS => z.2.2) h2
  have x1 : ((e1.all fun f => f K) && f1.all fun d => d.ok K) = true := congrArg (fun z : Gh.Al => z.1) a1
  have x2 : ((e2.all fun f => f K) && f2.all fun d => d.ok K) = true := congrArg (fun z : Gh.Al => z.1) a2
  have y1 : (f1.map fun d => fnAt K (d.adr K)) = f1.map Df.val := congrArg (fun z : Gh.Al => z.2) a1
  have y2 : (f2.map fun d => fnAt K (d.adr K)) = f2.map Df.val := congrArg (fun z : Gh.Al => z.2) a2
  obtain ⟨p1, q1⟩ := He.ba x1
  obtain ⟨p2, q2⟩ := He.ba x2
  unfold obsK obs Gh.val
  rw [List.all_append, List.all_append, List.all_append, p1, p2, q1, q2, c1, c2, b1, List.map_append, List.map_append, List.map_append, List.map_append, y1, y2, d1, d2]
  rfl
theorem run_and {r : PySem.W.OpenRow} {q : Program} {as : List Addr} {e1 e2 : List (PySem.W.Frag → Bool)} {f1 f2 : List Df} {t1 : List He.Defn} {s1 s2 : List Ds} {file : Str} {M : Nat} {loose : List Str} {w : World}
    (h1 : HandSHeadRun.RunEq r q (hookL as e1 f1 t1 s1 file) (fun s => obsL as e1 f1 t1 s1 file (HandSHeadRun.getT s)) M loose w) (h2 : HandSHeadRun.RunEq r q (hookL as e2 f2 [] s2 file) (fun s => obsL as e2 f2 [] s2 file (HandSHeadRun.getT s)) M loose w) :
    HandSHeadRun.RunEq r q (hookL as (e1 ++ e2) (f1 ++ f2) t1 (s1 ++ s2) file) (fun s => obsL as (e1 ++ e2) (f1 ++ f2) t1 (s1 ++ s2) file (HandSHeadRun.getT s)) M loose w := fun os => by
  have z1 := h1 os
  have z2 := h2 os
  cases e : HandSHeadRun.endF (HandSHeadRun.stepQ (HandSHeadRun.denQ HandSHeadRun.tabQ) r.prog w) M r.prog w os with
  | none => rw [e] at z1; cases z1
  | some s =>
    rw [e] at z1 z2
    have z1' := Option.some.inj z1
    have z2' := Option.some.inj z2
    have a1 := congrArg Prod.fst z1'
    have a2 := congrArg (fun z => z.2.1) z1'
    have a3 : obsL as e1 f1 t1 s1 file (HandSHeadRun.getT s) = ((Gh.val f1, true), true, s1.map Ds.val) := congrArg (fun z => z.2.2) z1'
    have a4 : obsL as e2 f2 [] s2 file (HandSHeadRun.getT s) = ((Gh.val f2, true), true, s2.map Ds.val) := congrArg (fun z => z.2.2) z2'
    have a5 : obsL as (e1 ++ e2) (f1 ++ f2) t1 (s1 ++ s2) file (HandSHeadRun.getT s) = ((Gh.val (f1 ++ f2), true), true, (s1 ++ s2).map Ds.val) := by
      unfold obsL at a3 a4 ⊢
      rw [frL_eq] at a3 a4 ⊢
      exact obsK_and (as := as) a3 a4
    exact congrArg some (Prod.ext a1 (Prod.ext a2 a5))
end Gp
end
section
set_option Elab.async false
set_option linter.all false
set_option maxRecDepth 100000
set_option maxHeartbeats 4000000
namespace Gp
open PySem PySem.Spec PyProof.Rows L2 Gh
section
variable {prog : Program} {w : World} {M : Model} {A : Around} {E : Value → Shared → Prop} {s : Shared} {K : PySem.W.Frag} {x C C2 L f : Addr} {h₀ h : Heap} {m : Str → Option Value} {ox : Obj} {od : Option Obj} {nm : String}
open PySem.W in
open PySem.W in
open PySem.W in
end
def dtB (f : Str × Option Str) (i : Nat) (K : PySem.W.Frag) : Bool := match K.lookup (He.dflAt f i K) with
  | some o => (o.cls == .type "tuple") && (match o.data with
    | .seq its _ => its.toList.isEmpty
    | _ => false)
  | none => false
end Gp
end
section
set_option Elab.async false
set_option linter.all false
set_option maxRecDepth 100000
set_option maxHeartbeats 4000000
namespace Gp
open PySem PySem.Spec PyProof.Rows L2 Gh
inductive ItH where
  | s (x : Str) | n (i : Int) | f (x : Str)
def ItH.d (fs : Fs) : ItH → Option D
  | .s x => if x.length ≤ sizeLine then some (.str x) else none
  | .n k => some (.int k)
  | .f x => fs.lookup x
section
variable {g : Gw} {U : Addr → Prop} {H H' : Hp} {b : Nat} {σ : L2.St} {ε : Env}
def Fz (ε : Env) : Prop := ∀ s ∈ ε, (∃ d, s = .fz d) ∨ s = .no
theorem Fz.set {j : Nat} {d : D} (h : Fz ε) : Fz (ε.set j (.fz d)) := fun s m => by
  rcases List.mem_or_eq_of_mem_set m with m | m
  · exact h s m
  · exact .inl ⟨_, m⟩
theorem Fz.own (h : Fz ε) : ∀ i a, ¬ OwnAt σ ε i a := fun i a ⟨_, z⟩ => by
  rcases z with ⟨x, z⟩ | ⟨x, y, z⟩
  · rcases h _ (List.mem_of_getElem? z) with ⟨d, e⟩ | e <;> cases e
  · rcases h _ (List.mem_of_getElem? z) with ⟨d, e⟩ | e <;> cases e
end
end Gp
end
section
set_option Elab.async false
set_option linter.all false
set_option maxRecDepth 100000
set_option maxHeartbeats 0
namespace Lw
open PySem PySem.Spec PyProof.Rows L2 Gh Gp
def top (i : Nat) : Stmt := PySem.Challenge.pw_everyhunt_k27_blocks_made.main.body.getD i (.Pass ⟨0, 0, 0, 0⟩)
abbrev s_TooMany___init__ : Stmt := inClass (top 11) 0
def d_TooMany___init__ : Df := ⟨md "TooMany" "__init__", "__init__", "TooMany.__init__", s_TooMany___init__, []⟩
abbrev s_BadStep___init__ : Stmt := inClass (top 8) 0
def d_BadStep___init__ : Df := ⟨md "BadStep" "__init__", "__init__", "BadStep.__init__", s_BadStep___init__, []⟩
abbrev s__law_pen : Stmt := top 66
def d__law_pen : Df := ⟨gd "_law_pen", "_law_pen", "_law_pen", s__law_pen, []⟩
abbrev s__law_draw : Stmt := top 67
def d__law_draw : Df := ⟨gd "_law_draw", "_law_draw", "_law_draw", s__law_draw, []⟩
abbrev s_is_integer : Stmt := top 15
def d_is_integer : Df := ⟨gd "is_integer", "is_integer", "is_integer", s_is_integer, []⟩
abbrev s_is_within : Stmt := top 16
def d_is_within : Df := ⟨gd "is_within", "is_within", "is_within", s_is_within, []⟩
abbrev s_Span___init__ : Stmt := inClass (top 30) 1
def d_Span___init__ : Df := ⟨md "Span" "__init__", "__init__", "Span.__init__", s_Span___init__, [.int 0, .int 0]⟩
abbrev s_Span_halves : Stmt := inClass (top 30) 4
def d_Span_halves : Df := ⟨propG "Span" "halves", "halves", "Span.halves", s_Span_halves, []⟩
abbrev s_Span_more : Stmt := inClass (top 30) 5
def d_Span_more : Df := ⟨propG "Span" "more", "more", "Span.more", s_Span_more, []⟩
abbrev s_Span_odd : Stmt := inClass (top 30) 6
def d_Span_odd : Df := ⟨propG "Span" "odd", "odd", "Span.odd", s_Span_odd, []⟩
abbrev s_Span___eq__ : Stmt := inClass (top 30) 16
def d_Span___eq__ : Df := ⟨md "Span" "__eq__", "__eq__", "Span.__eq__", s_Span___eq__, []⟩
abbrev s_are_told : Stmt := top 39
def d_are_told : Df := ⟨gd "are_told", "are_told", "are_told", s_are_told, []⟩
abbrev s_ascending : Stmt := top 40
def d_ascending : Df := ⟨gd "ascending", "ascending", "ascending", s_ascending, []⟩
abbrev s_Sided___init___at_Change : Stmt := inClass (top 22) 0
def d_Sided___init___at_Change : Df := ⟨md "Sided" "__init__", "__init__", "Sided.__init__", s_Sided___init___at_Change, []⟩
abbrev s_Sided___init___at_Stretch : Stmt := inClass (top 22) 0
def d_Sided___init___at_Stretch : Df := ⟨md "Sided" "__init__", "__init__", "Sided.__init__", s_Sided___init___at_Stretch, []⟩
abbrev s_Change___init__ : Stmt := inClass (top 41) 2
def ds_Change___init__ : Gp.Ds := ⟨⟨md "Change" "__init__", "__init__", "Change.__init__", s_Change___init__, [.adr (He.dflAt ("Change", some "__init__") 0), .adr (He.dflAt ("Change", some "__init__") 1), .str "front"]⟩, gd "Change"⟩
abbrev s_Change_weight : Stmt := inClass (top 41) 5
def d_Change_weight : Df := ⟨propG "Change" "weight", "weight", "Change.weight", s_Change_weight, []⟩
abbrev s_Change___eq__ : Stmt := inClass (top 41) 17
def d_Change___eq__ : Df := ⟨md "Change" "__eq__", "__eq__", "Change.__eq__", s_Change___eq__, []⟩
abbrev s_Stretch___init__ : Stmt := inClass (top 53) 0
def ds_Stretch___init__ : Gp.Ds := ⟨⟨md "Stretch" "__init__", "__init__", "Stretch.__init__", s_Stretch___init__, [.str "front", .bl false]⟩, gd "Stretch"⟩
abbrev s_Stretch_weight : Stmt := inClass (top 53) 1
def d_Stretch_weight : Df := ⟨propG "Stretch" "weight", "weight", "Stretch.weight", s_Stretch_weight, []⟩
abbrev s_Stretch___eq__ : Stmt := inClass (top 53) 8
def d_Stretch___eq__ : Df := ⟨md "Stretch" "__eq__", "__eq__", "Stretch.__eq__", s_Stretch___eq__, []⟩
abbrev s_Step_said_at_Change : Stmt := inClass (top 21) 0
def d_Step_said_at_Change : Df := ⟨propG "Change" "said", "said", "Step.said", s_Step_said_at_Change, []⟩
abbrev s_Step_done_at_Change : Stmt := inClass (top 21) 1
def d_Step_done_at_Change : Df := ⟨propG "Change" "done", "done", "Step.done", s_Step_done_at_Change, []⟩
abbrev s_Step_deep_at_Change : Stmt := inClass (top 21) 2
def d_Step_deep_at_Change : Df := ⟨propG "Change" "deep", "deep", "Step.deep", s_Step_deep_at_Change, []⟩
abbrev s_Step_said_at_Stretch : Stmt := inClass (top 21) 0
def d_Step_said_at_Stretch : Df := ⟨propG "Stretch" "said", "said", "Step.said", s_Step_said_at_Stretch, []⟩
abbrev s_Step_done_at_Stretch : Stmt := inClass (top 21) 1
def d_Step_done_at_Stretch : Df := ⟨propG "Stretch" "done", "done", "Step.done", s_Step_done_at_Stretch, []⟩
abbrev s_Step_deep_at_Stretch : Stmt := inClass (top 21) 2
def d_Step_deep_at_Stretch : Df := ⟨propG "Stretch" "deep", "deep", "Step.deep", s_Step_deep_at_Stretch, []⟩
abbrev s_Block_said : Stmt := inClass (top 54) 2
def d_Block_said : Df := ⟨propG "Block" "said", "said", "Block.said", s_Block_said, []⟩
abbrev s_Block_done : Stmt := inClass (top 54) 3
def d_Block_done : Df := ⟨propG "Block" "done", "done", "Block.done", s_Block_done, []⟩
abbrev s_Block_weight : Stmt := inClass (top 54) 4
def d_Block_weight : Df := ⟨propG "Block" "weight", "weight", "Block.weight", s_Block_weight, []⟩
abbrev s_deepest : Stmt := top 24
def d_deepest : Df := ⟨gd "deepest", "deepest", "deepest", s_deepest, []⟩
abbrev s_Block_deep : Stmt := inClass (top 54) 5
def d_Block_deep : Df := ⟨propG "Block" "deep", "deep", "Block.deep", s_Block_deep, []⟩
abbrev s_need_steps : Stmt := top 51
def d_need_steps : Df := ⟨gd "need_steps", "need_steps", "need_steps", s_need_steps, []⟩
abbrev s_need_size : Stmt := top 25
def d_need_size : Df := ⟨gd "need_size", "need_size", "need_size", s_need_size, []⟩
abbrev s_Holder___init___at_Block : Stmt := inClass (top 23) 4
def d_Holder___init___at_Block : Df := ⟨md "Holder" "__init__", "__init__", "Holder.__init__", s_Holder___init___at_Block, []⟩
abbrev s_Block___init__ : Stmt := inClass (top 54) 0
def ds_Block___init__ : Gp.Ds := ⟨⟨md "Block" "__init__", "__init__", "Block.__init__", s_Block___init__, []⟩, gd "Block"⟩
abbrev s_Block___eq__ : Stmt := inClass (top 54) 10
def d_Block___eq__ : Df := ⟨md "Block" "__eq__", "__eq__", "Block.__eq__", s_Block___eq__, []⟩
abbrev s_Block_of : Stmt := inClass (top 54) 1
def d_Block_of : Df := ⟨clsG "Block" "of", "of", "Block.of", s_Block_of, []⟩
abbrev s_Program_said : Stmt := inClass (top 64) 3
def d_Program_said : Df := ⟨propG "Program" "said", "said", "Program.said", s_Program_said, []⟩
abbrev s_Program_done : Stmt := inClass (top 64) 4
def d_Program_done : Df := ⟨propG "Program" "done", "done", "Program.done", s_Program_done, []⟩
abbrev s_Program_weight : Stmt := inClass (top 64) 5
def d_Program_weight : Df := ⟨propG "Program" "weight", "weight", "Program.weight", s_Program_weight, []⟩
abbrev s_Program_deep : Stmt := inClass (top 64) 6
def d_Program_deep : Df := ⟨propG "Program" "deep", "deep", "Program.deep", s_Program_deep, []⟩
abbrev s_Holder___init___at_Program : Stmt := inClass (top 23) 4
def d_Holder___init___at_Program : Df := ⟨md "Holder" "__init__", "__init__", "Holder.__init__", s_Holder___init___at_Program, []⟩
abbrev s_Program___init__ : Stmt := inClass (top 64) 0
def ds_Program___init__ : Gp.Ds := ⟨⟨md "Program" "__init__", "__init__", "Program.__init__", s_Program___init__, []⟩, gd "Program"⟩
abbrev s__law_pick : Stmt := top 68
def d__law_pick : Df := ⟨gd "_law_pick", "_law_pick", "_law_pick", s__law_pick, []⟩
abbrev s__law_places : Stmt := top 69
def d__law_places : Df := ⟨gd "_law_places", "_law_places", "_law_places", s__law_places, []⟩
abbrev s__law_span : Stmt := top 70
def d__law_span : Df := ⟨gd "_law_span", "_law_span", "_law_span", s__law_span, []⟩
abbrev s__law_weight : Stmt := top 72
def d__law_weight : Df := ⟨gd "_law_weight", "_law_weight", "_law_weight", s__law_weight, []⟩
abbrev s__law_step : Stmt := top 71
def d__law_step : Df := ⟨gd "_law_step", "_law_step", "_law_step", s__law_step, []⟩
abbrev s__law_said : Stmt := top 73
def d__law_said : Df := ⟨gd "_law_said", "_law_said", "_law_said", s__law_said, []⟩
abbrev s__law_parts : Stmt := top 74
def d__law_parts : Df := ⟨gd "_law_parts", "_law_parts", "_law_parts", s__law_parts, []⟩
abbrev s__law_made : Stmt := top 75
def d__law_made : Df := ⟨gd "_law_made", "_law_made", "_law_made", s__law_made, []⟩
abbrev s__law_heard : Stmt := top 76
def d__law_heard : Df := ⟨gd "_law_heard", "_law_heard", "_law_heard", s__law_heard, []⟩
abbrev s__law_deep : Stmt := top 78
def d__law_deep : Df := ⟨gd "_law_deep", "_law_deep", "_law_deep", s__law_deep, []⟩
abbrev s__law_kept_right : Stmt := top 77
def d__law_kept_right : Df := ⟨gd "_law_kept_right", "_law_kept_right", "_law_kept_right", s__law_kept_right, []⟩
abbrev s__law_spoilt_right : Stmt := top 79
def d__law_spoilt_right : Df := ⟨gd "_law_spoilt_right", "_law_spoilt_right", "_law_spoilt_right", s__law_spoilt_right, []⟩
abbrev s__law_bounds_right : Stmt := top 80
def d__law_bounds_right : Df := ⟨gd "_law_bounds_right", "_law_bounds_right", "_law_bounds_right", s__law_bounds_right, []⟩
abbrev s_law : Stmt := top 81
def d_law : Df := ⟨gd "law", "law", "law", s_law, []⟩
def fns1 : List Df := [d_TooMany___init__, d_BadStep___init__, d__law_pen, d__law_draw, d_is_integer, d_is_within, d_Span___init__, d_Span_halves, d_Span_more, d_Span_odd, d_Span___eq__, d_are_told, d_ascending, d_Sided___init___at_Change, d_Sided___init___at_Stretch, d_Change_weight, d_Change___eq__, d_Stretch_weight]
def fns2 : List Df := [d_Stretch___eq__, d_Step_said_at_Change, d_Step_done_at_Change, d_Step_deep_at_Change, d_Step_said_at_Stretch, d_Step_done_at_Stretch, d_Step_deep_at_Stretch, d_Block_said, d_Block_done, d_Block_weight, d_deepest, d_Block_deep, d_need_steps, d_need_size, d_Holder___init___at_Block, d_Block___eq__, d_Block_of, d_Program_said]
def fns3 : List Df := [d_Program_done, d_Program_weight, d_Program_deep, d_Holder___init___at_Program, d__law_pick, d__law_places, d__law_span, d__law_weight, d__law_step, d__law_said, d__law_parts, d__law_made, d__law_heard, d__law_deep, d__law_kept_right, d__law_spoilt_right, d__law_bounds_right, d_law]
def fns : List Df := (fns1 ++ (fns2 ++ fns3))
def sds1 : List Gp.Ds := [ds_Change___init__, ds_Stretch___init__, ds_Block___init__, ds_Program___init__]
def sds2 : List Gp.Ds := []
def sds3 : List Gp.Ds := []
def sds : List Gp.Ds := (sds1 ++ (sds2 ++ sds3))
def pfile : Str := PySem.Challenge.pw_everyhunt_k27_blocks_made.main.file
def exs1 : List (PySem.W.Frag → Bool) := [fa (.free "abs"), fa (.free "all"), fa (.free "bool"), fa (.free "enumerate"), fa (.free "int"), fa (.free "isinstance"), fa (.free "len"), fa (.free "list"), fa (.free "range"), fa (.free "repr"), fa (.free "set"), fa (.free "sorted"), fa (.free "str"), fa (.free "sum"), fa (.free "super"), fa (.free "tuple"), fa (.glo "_law_pen"), fa (.keep "_law_pen"), fa (.glo "_law_draw"), fa (.keep "_law_draw"), fa (.glo "is_integer"), fa (.keep "is_integer"), fa (.glo "is_within"), fa (.keep "is_within"), fa (.glo "are_told"), fa (.keep "are_told"), fa (.glo "ascending"), fa (.keep "ascending"), fa (.glo "deepest"), fa (.keep "deepest"),
  fa (.glo "need_steps"), fa (.keep "need_steps"), fa (.glo "need_size"), fa (.keep "need_size"), fa (.glo "_law_pick"), fa (.keep "_law_pick"), fa (.glo "_law_places"), fa (.keep "_law_places"), fa (.glo "_law_span"), fa (.keep "_law_span"), fa (.glo "_law_weight"), fa (.keep "_law_weight"), fa (.glo "_law_step"), fa (.keep "_law_step"), fa (.glo "_law_said"), fa (.keep "_law_said"), fa (.glo "_law_parts"), fa (.keep "_law_parts"), fa (.glo "_law_made"), fa (.keep "_law_made"), fa (.glo "_law_heard"), fa (.keep "_law_heard"), fa (.glo "_law_deep"), fa (.keep "_law_deep"), fa (.glo "_law_kept_right"), fa (.keep "_law_kept_right"), fa (.glo "_law_spoilt_right"), fa (.keep "_law_spoilt_right"), fa (.glo "_law_bounds_right"), fa (.keep "_law_bounds_right"),
  fa (.glo "TooMany"), fa (.keep "TooMany"), fa (.glo "BadStep"), fa (.keep "BadStep"), fa (.glo "Span"), fa (.keep "Span"), fa (.glo "Sided"), fa (.keep "Sided"), fa (.glo "Change"), fa (.keep "Change"), fa (.glo "Stretch"), fa (.keep "Stretch"), fa (.glo "Step"), fa (.keep "Step"), fa (.glo "Block"), fa (.keep "Block"), fa (.glo "Holder"), fa (.keep "Holder"), fa (.glo "Program"), fa (.keep "Program"), fa (.glo "HuntError"), fa (.keep "HuntError"), fa (.int "FARTHEST" 15), fa (.int "MOST_HALVES" 8), fa (.int "MOST_MORE" 60), fa (.int "MOST_ODD" 9), fa (.int "MOST_TIMES" 12), fa (.int "MOST_TOLD" 8), fa (.noat "TooMany" "what"), fa (.noat "TooMany" "most")]
def exs2 : List (PySem.W.Frag → Bool) := [errB "TooMany", oexB "TooMany", iniB "TooMany", (fun K => decide (PySem.W.exmOne K (.ref (gd "TooMany" K)) (.ref (gd "HuntError" K)) = some true)), fa (.noat "BadStep" "at"), errB "BadStep", oexB "BadStep", iniB "BadStep", (fun K => decide (PySem.W.exmOne K (.ref (gd "BadStep" K)) (.ref (gd "HuntError" K)) = some true)), fa (.cls "Span"), insB "Span", fa (.noat "Span" "own_parts"), fa (.mkr "Span"), propB "Span" "halves", propB "Span" "more", propB "Span" "odd", fa (.meth "Span" "__eq__"), ownB "Span", fa (.cls "Sided"), insB "Sided", fa (.cls "Change"), insB "Change", fa (.noat "Change" "side"), fa (.noat "Change" "front"), fa (.noat "Change" "back"), fa (.mkr "Change"), propB "Change" "weight", fa (.meth "Change" "__eq__"), ownB "Change", propB "Change" "said",
  propB "Change" "done", propB "Change" "deep", fa (.cls "Stretch"), insB "Stretch", fa (.noat "Stretch" "side"), fa (.noat "Stretch" "first"), fa (.noat "Stretch" "span"), fa (.noat "Stretch" "late"), fa (.mkr "Stretch"), propB "Stretch" "weight", fa (.meth "Stretch" "__eq__"), ownB "Stretch", propB "Stretch" "said", propB "Stretch" "done", propB "Stretch" "deep", fa (.cls "Step"), insB "Step", fa (.cls "Block"), insB "Block", fa (.noat "Block" "steps"), fa (.noat "Block" "times"), propB "Block" "said", propB "Block" "done", propB "Block" "weight", propB "Block" "deep", fa (.mkr "Block"), fa (.meth "Block" "__eq__"), ownB "Block", fa (.cls "Holder"), insB "Holder",
  fa (.cls "Program"), insB "Program", fa (.noat "Program" "steps"), propB "Program" "said", propB "Program" "done", propB "Program" "weight", propB "Program" "deep", fa (.mkr "Program"), Gp.dtB ("Change", some "__init__") 0, Gp.dtB ("Change", some "__init__") 1, fa (.glo "SIDES_changes"), (fun K => He.tupB K "SIDES_changes" [.str "front", .str "back"]), fa (.glo "SIDES_steps"), (fun K => He.tupB K "SIDES_steps" [.str "front", .str "back"]), cvB "Holder" "MOST_DEEP" 3, cvB "Holder" "MOST_DONE" 120, cvB "Holder" "MOST_SAID" 40, cvB "Holder" "MOST_WEIGHT" 80, clmB "Block" "of", (fun K => He.eqO (PySem.W.nsIn K cStatics "thirdparty.any") (some none)), (fun K => (PySem.W.clsIn K (gd "Block" K)).isSome), (fun K => (PySem.W.clsIn K (gd "Change" K)).isSome), (fun K => (PySem.W.clsIn K (gd "Program" K)).isSome), (fun K => (PySem.W.clsIn K (gd "Stretch" K)).isSome), supCB "Block" "Block" "__init__" (md "Holder" "__init__"), supCB "Change" "Change" "__init__" (md "Sided" "__init__"), supCB "Program" "Program" "__init__" (md "Holder" "__init__"), supCB "Stretch" "Stretch" "__init__" (md "Sided" "__init__"), (fun K => xfB K (gd "BadStep" K)), (fun K => xfB K (gd "TooMany" K))]
def exs3 : List (PySem.W.Frag → Bool) := [(fun K => decide (PySem.W.exmOne K (.ref (gd "BadStep" K)) (.ref (gd "BadStep" K)) = some true)), (fun K => decide (PySem.W.exmOne K (.ref (gd "BadStep" K)) (.ref (gd "TooMany" K)) = some false)), (fun K => decide (PySem.W.exmOne K (.ref (gd "TooMany" K)) (.ref (gd "TooMany" K)) = some true)), (fun K => decide ((He.cT K ("_law_kept_right", none)).2 ≠ (He.cT K ("_law_spoilt_right", none)).2)), (fun K => decide ((He.cT K ("_law_kept_right", none)).2 ≠ (He.cT K ("_law_bounds_right", none)).2)), (fun K => decide ((He.cT K ("_law_spoilt_right", none)).2 ≠ (He.cT K ("_law_bounds_right", none)).2)), (fun K => decide (PySem.W.kitOne K (.ref (gd "Change" K)) (.ref (gd "Span" K)) = some false)), (fun K => decide (PySem.W.kitOne K (.ref (gd "Stretch" K)) (.ref (gd "Span" K)) = some false)), (fun K => decide (PySem.W.kitOne K (.ref (gd "Block" K)) (.ref (gd "Span" K)) = some false)), (fun K => decide (PySem.W.kitOne K (.ref (gd "Program" K)) (.ref (gd "Span" K)) = some false)), (fun K => decide (PySem.W.kitOne K (.ref (gd "Span" K)) (.ref (gd "Change" K)) = some false)), (fun K => decide (PySem.W.kitOne K (.ref (gd "Stretch" K)) (.ref (gd "Change" K)) = some false)), (fun K => decide (PySem.W.kitOne K (.ref (gd "Block" K)) (.ref (gd "Change" K)) = some false)), (fun K => decide (PySem.W.kitOne K (.ref (gd "Program" K)) (.ref (gd "Change" K)) = some false)), (fun K => decide (PySem.W.kitOne K (.ref (gd "Span" K)) (.ref (gd "Stretch" K)) = some false)), (fun K => decide (PySem.W.kitOne K (.ref (gd "Change" K)) (.ref (gd "Stretch" K)) = some false)), (fun K => decide (PySem.W.kitOne K (.ref (gd "Block" K)) (.ref (gd "Stretch" K)) = some false)), (fun K => decide (PySem.W.kitOne K (.ref (gd "Program" K)) (.ref (gd "Stretch" K)) = some false)), (fun K => decide (PySem.W.kitOne K (.ref (gd "Span" K)) (.ref (gd "Step" K)) = some false)), (fun K => decide (PySem.W.kitOne K (.ref (gd "Change" K)) (.ref (gd "Step" K)) = some true)), (fun K => decide (PySem.W.kitOne K (.ref (gd "Stretch" K)) (.ref (gd "Step" K)) = some true)), (fun K => decide (PySem.W.kitOne K (.ref (gd "Block" K)) (.ref (gd "Step" K)) = some true)), (fun K => decide (PySem.W.kitOne K (.ref (gd "Program" K)) (.ref (gd "Step" K)) = some false)), (fun K => decide (PySem.W.kitOne K (.ref (gd "Span" K)) (.ref (gd "Block" K)) = some false)), (fun K => decide (PySem.W.kitOne K (.ref (gd "Change" K)) (.ref (gd "Block" K)) = some false)), (fun K => decide (PySem.W.kitOne K (.ref (gd "Stretch" K)) (.ref (gd "Block" K)) = some false)), (fun K => decide (PySem.W.kitOne K (.ref (gd "Program" K)) (.ref (gd "Block" K)) = some false)), (fun K => decide (PySem.W.kitOne K (.ref (gd "Span" K)) (.ref (gd "Holder" K)) = some false)), (fun K => decide (PySem.W.kitOne K (.ref (gd "Change" K)) (.ref (gd "Holder" K)) = some false)), (fun K => decide (PySem.W.kitOne K (.ref (gd "Stretch" K)) (.ref (gd "Holder" K)) = some false)),
  (fun K => decide (PySem.W.kitOne K (.ref (gd "Block" K)) (.ref (gd "Holder" K)) = some true)), (fun K => decide (PySem.W.kitOne K (.ref (gd "Program" K)) (.ref (gd "Holder" K)) = some true)), nfB "Block", neB "Block", (fun K => PySem.W.notFirst K (gd "Block" K) (.ref (gd "Span" K))), (fun K => PySem.W.notFirst K (gd "Block" K) (.ref (gd "Change" K))), (fun K => PySem.W.notFirst K (gd "Block" K) (.ref (gd "Stretch" K))), (fun K => PySem.W.notFirst K (gd "Block" K) (.ref (gd "Block" K))), (fun K => PySem.W.notFirst K (gd "Block" K) (.ref (gd "Program" K))), nfB "Change", neB "Change", (fun K => PySem.W.notFirst K (gd "Change" K) (.ref (gd "Span" K))), (fun K => PySem.W.notFirst K (gd "Change" K) (.ref (gd "Change" K))), (fun K => PySem.W.notFirst K (gd "Change" K) (.ref (gd "Stretch" K))), (fun K => PySem.W.notFirst K (gd "Change" K) (.ref (gd "Block" K))), (fun K => PySem.W.notFirst K (gd "Change" K) (.ref (gd "Program" K))), nfB "Span", neB "Span", (fun K => PySem.W.notFirst K (gd "Span" K) (.ref (gd "Span" K))), (fun K => PySem.W.notFirst K (gd "Span" K) (.ref (gd "Change" K))), (fun K => PySem.W.notFirst K (gd "Span" K) (.ref (gd "Stretch" K))), (fun K => PySem.W.notFirst K (gd "Span" K) (.ref (gd "Block" K))), (fun K => PySem.W.notFirst K (gd "Span" K) (.ref (gd "Program" K))), nfB "Stretch", neB "Stretch", (fun K => PySem.W.notFirst K (gd "Stretch" K) (.ref (gd "Span" K))), (fun K => PySem.W.notFirst K (gd "Stretch" K) (.ref (gd "Change" K))), (fun K => PySem.W.notFirst K (gd "Stretch" K) (.ref (gd "Stretch" K))), (fun K => PySem.W.notFirst K (gd "Stretch" K) (.ref (gd "Block" K))), (fun K => PySem.W.notFirst K (gd "Stretch" K) (.ref (gd "Program" K))),
  fa (.glo "law")]
def exs : List (PySem.W.Frag → Bool) := (exs1 ++ (exs2 ++ exs3))
def loose0 : List Str := ["_wall", "__name__", "HuntError", "BadLength", "BadPlace", "BadRow", "BadChange", "BadSpan", "BadStep", "BadNumber", "NoStep", "TooMany"]
def loose1 : List Str := ["BadText", "GREATEST_LENGTH", "is_integer", "is_within", "is_length", "need_length", "need_place", "Step", "Sided", "Holder", "deepest", "need_size"]
def loose2 : List Str := ["MOST_HALVES", "MOST_MORE", "MOST_ODD", "Span", "number_in", "are_parts", "Words", "FARTHEST", "MOST_TOLD", "SIDES_changes", "are_told", "ascending"]
def loose3 : List Str := ["Change", "places_in", "side_in", "change_in", "seat_at", "place_at", "SIDES_steps", "MOST_TIMES", "need_steps", "seat_behind", "Stretch", "Block"]
def loose4 : List Str := ["MOST_ITEMS", "BEYOND_ITEMS", "is_item", "need_items", "Row", "need_row_length", "block_of", "Program", "_law_pen", "_law_draw", "_law_pick", "_law_places"]
def loose5 : List Str := ["_law_span", "_law_step", "_law_weight", "_law_said", "_law_parts", "_law_made", "_law_heard", "_law_kept_right", "_law_deep", "_law_spoilt_right", "_law_bounds_right"]
def loose : List Str := loose0 ++ loose1 ++ loose2 ++ loose3 ++ loose4 ++ loose5
abbrev R : PySem.W.OpenRow := PySem.W.OpenLaw.row PySem.Challenge.rw_everyhunt_k27_blocks_made
def tfs : List He.Defn := [("_law_kept_right", none), ("_law_spoilt_right", none), ("_law_bounds_right", none)]
def adrs : List Addr := [3, 31, 146, 203, 231, 238, 293, 314, 366, 377, 384, 557, 638, 643, 648, 786, 824, 831, 915, 1001, 1422, 1431, 1438, 1445, 1450, 1457, 1462, 1467, 1472, 1479, 1484, 1491, 1496, 1503, 1510, 1517, 1524, 30, 145, 202, 230, 237, 292, 313, 365, 376, 383, 556, 642, 647, 785, 830, 914, 1000, 1421, 1430, 1437, 1444, 1449, 1456, 1461, 1466, 1471, 1478, 1483, 1490, 1495, 1502, 1509, 1516, 1523, 143, 200, 274, 282, 290, 311, 330, 399, 426, 434, 442, 512, 667, 696, 778, 855, 863, 912, 933, 942, 949, 955, 961, 969, 998, 1232, 1258, 1264, 1270, 1278, 142, 199, 273, 281, 289, 310, 329, 398, 392, 425, 433, 441, 511, 666, 659, 652, 695, 777, 854, 847, 842, 862, 911, 932, 921, 940, 948, 954, 960, 968, 997, 1231, 1220, 1257, 1263, 1269, 1277, 272, 280, 288, 424, 432, 440, 657, 658, 694, 861, 939, 947, 953, 959, 967, 1256, 1262, 1268, 1276, 2]
abbrev hk : PySem.W.Hook := Gp.hookL adrs exs fns tfs sds pfile
def ob (s : PySem.W.SharedT) : Gp.AlS := Gp.obsL adrs exs fns tfs sds pfile (HandSHeadRun.getT s)
theorem run1 (w : World) : HandSHeadRun.RunEq R (PySem.W.view R.prog [81]) (Gp.hookL adrs exs1 fns1 tfs sds1 pfile) (fun s => Gp.obsL adrs exs1 fns1 tfs sds1 pfile (HandSHeadRun.getT s)) 30000 loose w := by
  intro os
  kernel_rfl
theorem run2 (w : World) : HandSHeadRun.RunEq R (PySem.W.view R.prog [81]) (Gp.hookL adrs exs2 fns2 [] sds2 pfile) (fun s => Gp.obsL adrs exs2 fns2 [] sds2 pfile (HandSHeadRun.getT s)) 30000 loose w := by
  intro os
  kernel_rfl
theorem run3 (w : World) : HandSHeadRun.RunEq R (PySem.W.view R.prog [81]) (Gp.hookL adrs exs3 fns3 [] sds3 pfile) (fun s => Gp.obsL adrs exs3 fns3 [] sds3 pfile (HandSHeadRun.getT s)) 30000 loose w := by
  intro os
  kernel_rfl
theorem run (w : World) : HandSHeadRun.RunEq R (PySem.W.view R.prog [81]) hk ob 30000 loose w := (Gp.run_and (run1 w) (Gp.run_and (run2 w) (run3 w)))
section
variable {K : PySem.W.Frag} {mg : Str → Option Value} {Tb : List (Addr × Str)} {p c : Addr}
end
end Lw
end
section
set_option Elab.async false
set_option linter.all false
set_option maxRecDepth 100000
namespace Gh
open PySem PySem.Spec PyProof.Rows L2
abbrev FnA (K : PySem.W.Frag) (d : Df) (fd : FuncData) : Prop := FunD K d.name d.qual (defArgs d.st) (defBody d.st) (defScope d.st) (d.dvs K) [] (d.adr K) fd
theorem Df.funD {K : PySem.W.Frag} {d : Df} (e : fnAt K (d.adr K) = d.val) (c : d.ok K = true) : ∃ fd, FnA K d fd := by
  obtain ⟨kp, c2⟩ := He.ba c
  unfold fnAt at e
  cases q : K.lookup (d.adr K) with
  | none =>
    rw [q] at c2
    cases c2
  | some o =>
    obtain ⟨oc, od, dt, osl⟩ := o
    rw [q] at c2 e
    cases dt with
    | func fd =>
      obtain ⟨n1, n2, n3, n4, n5, n6, n7, n8, n9, n10, n11, n12, n13, n14, n15⟩ := fd
      have e2 : (some (n1, n2, n3, n4, n5, n6, n7, n15) : He.FnW) = some (d.name, d.qual, defArgs d.st, .stmts (defBody d.st), defScope d.st, mainGlobals, [], builtinsNs) := e
      simp only [Option.some.injEq, Prod.mk.injEq] at e2
      obtain ⟨h1, h2, h3, h4, h5, h6, h7, h8⟩ := e2
      subst h1 h2 h3 h4 h5 h6 h7 h8
      have c3 : (PySem.W.codeIn K n13 d.qual && (He.dflB K n8 (d.dvs K) && He.kwdB K n9 [])) = true := c2
      obtain ⟨k1, k2⟩ := He.ba c3
      obtain ⟨k3, k4⟩ := He.ba k2
      exact ⟨_, ⟨oc, od, n8, n9, n10, n11, n12, n13, n14, osl, rfl, q, k1, He.dflB_ok k3, He.kwdB_ok k4⟩, kp⟩
    | _ => cases c2
theorem Says.fact {ex : List (PySem.W.Frag → Bool)} {fn : List Df} {K : PySem.W.Frag} (c : Says ex fn K) (i : Nat) {f : PySem.W.Frag → Bool} (h : ex[i]? = some f := by rfl) : f K = true := by
  have c1 := (He.ba (show ((ex.all fun f => f K) && fn.all fun d => d.ok K) = true from congrArg (fun z : Al => z.1) c)).1
  exact List.all_eq_true.mp c1 f (List.mem_of_getElem? h)
theorem Says.def_ {ex : List (PySem.W.Frag → Bool)} {fn : List Df} {K : PySem.W.Frag} (c : Says ex fn K) (i : Nat) {d : Df} (h : fn[i]? = some d := by rfl) : ∃ fd, FnA K d fd := by
  have c2 := (He.ba (show ((ex.all fun f => f K) && fn.all fun d => d.ok K) = true from congrArg (fun z : Al => z.1) c)).2
  have e : fn.map (fun d => fnAt K (d.adr K)) = fn.map Df.val := congrArg (fun z : Al => z.2) c
  have e2 : (fn.map fun d => fnAt K (d.adr K))[i]? = (fn.map Df.val)[i]? := by rw [e]
  rw [List.getElem?_map, List.getElem?_map, h] at e2
  exact Df.funD (Option.some.inj e2) (List.all_eq_true.mp c2 d (List.mem_of_getElem? h))
theorem propB_ok {x m : Str} {K : PySem.W.Frag} (h : propB x m K = true) : PropOf K (He.ga K x) m (He.ma K (He.ga K x) m) (propG x m K) := by
  obtain ⟨h1, h2⟩ := He.ba h
  obtain ⟨h3, h4⟩ := He.ba h2
  obtain ⟨h5, h6⟩ := He.ba h4
  refine ⟨He.eqO_ok h1, He.eqO_ok h3, of_decide_eq_true h5, ?_⟩
  unfold propG
  cases q : PySem.W.recIn K (He.ma K (He.ga K x) m) "property" with
  | none =>
    rw [q] at h6
    cases h6
  | some l =>
    rw [q] at h6
    cases l with
    | nil => cases h6
    | cons v r =>
      cases v with
      | ref g => exact ⟨r, rfl⟩
      | _ => cases h6
theorem insB_ok {x : Str} {K : PySem.W.Frag} (h : insB x K = true) : InsT K (gd x K) := by
  obtain ⟨h1, h⟩ := He.ba h
  obtain ⟨h2, h⟩ := He.ba h
  obtain ⟨h3, h⟩ := He.ba h
  obtain ⟨h4, h⟩ := He.ba h
  obtain ⟨h5, h⟩ := He.ba h
  obtain ⟨h6, h7⟩ := He.ba h
  exact ⟨He.eqO_ok h1, He.eqO_ok h2, of_decide_eq_true h3, of_decide_eq_true h4, of_decide_eq_true h5, fun n hn => of_decide_eq_true (List.all_eq_true.mp h6 n hn), fun n hn => of_decide_eq_true (List.all_eq_true.mp h7 n hn)⟩
structure OwnT (K : PySem.W.Frag) (C : Addr) : Prop where
  first : PySem.W.selfFirst K C = true
  nf : PySem.W.notFirst K C (.ref C) = true
  sub : PySem.W.subIn K (.type "int") (.ref C) = some false
theorem ownB_ok {x : Str} {K : PySem.W.Frag} (h : ownB x K = true) : OwnT K (gd x K) := by
  obtain ⟨h1, h⟩ := He.ba h
  obtain ⟨h2, h3⟩ := He.ba h
  exact ⟨h1, h2, of_decide_eq_true h3⟩
theorem pe_gi {X : Cx} {x : Str} {i : Int} {pos : Pos} (h : ∃ t, X.mg x = some (.int i t)) (hg : Gl X x) (hd : (x == ("__debug__" : Str)) = false := by decide) : PE X (.Name x pos) (tC (.int i)) := by
  obtain ⟨t, e⟩ := h
  exact pe_glob hg e ⟨t, rfl⟩ hd
end Gh
end
section
set_option Elab.async false
set_option linter.all false
set_option maxRecDepth 100000
set_option maxHeartbeats 4000000
namespace Gh
open PySem PySem.Spec PyProof.Rows L2
section
variable {P : Program} {w : World} {K : PySem.W.Frag} {mg : Str → Option Value} {base : Heap} {CX : CXT} {j k : Nat} {f : Addr} {fd : FuncData} {ps : List Str} {sp : Sp} {dvs : List V}
theorem fnG_of {x qual : Str} {params : Arguments} {body : List Stmt} {scope : Scope} {kws : List (Str × V)} {N : List Str} (F : FunD K x qual params body scope dvs kws f fd) (S : FnScope N ps scope) (len : ∀ vs H Q E, sp vs H Q E → vs.length = ps.length)
    (hbody : ∀ (cdv : Value) (A : Around) (outer : List Env) (s : Shared) (H : Hp) (vs : List V) (Q : VK) (E : XK), Room k (A.deeper (envOfC qual scope s.heap.objs.size f cdv)) → (A.deeper (envOfC qual scope s.heap.objs.size f cdv)).guards = some [] → sp vs H Q E →
      ∃ t, PSs (cxOf CX P w K mg base N qual scope f cdv A outer s H E) body t ∧ t { nx := fun _ H' => Q .non H', rt := Q } (start N vs) H) : FnG P w K mg base CX (k + 1) f fd ps sp := by
  obtain ⟨oc, od, dV, kV, doc, pm, an, cdv, ct, osl, rfl, lk, hcd, _, _⟩ := F.ex
  refine ⟨len, fun A outer s H args us vs Q E hr hg e0 hb r hsp => ?_⟩
  have hl := len _ _ _ _ hsp
  have KX : K.In s.heap := e0.mod.kin.keeps fun b o e => (e0.bs b o e).1
  have lim : s.heap.NoLimit := e0.mod.nolimit.keeps fun b o e => (e0.bs b o e).1
  have hkind : ∀ y ∈ ps.zip us, scope.names.lookup y.1 = some .local ∨ (scope.names.lookup y.1 = some .cell ∧ ((cellsFrom (s.heap.objs.size + 1) scope.names []).lookup y.1).isSome = true) := fun ⟨n, v⟩ hy => by
    rcases S.par n (List.of_mem_zip hy).1 with q | q
    · exact .inl q
    · exact .inr ⟨q, PySem.W.cellsFrom_some _ _ _ (.inl q)⟩
  refine codeAny_call_function hr.depth (KX _ _ lk) rfl S.co S.gen rfl (PySem.W.codeRec_of KX hcd) (hb _ _ _ _ ?_)
  refine wpAny_newFunctionEnv_cells S.kind hkind fun env he s1 x => ?_
  subst he
  refine ⟨lim.keeps x.toInCall.keep, codeAny_func ?_⟩
  obtain ⟨t, ht, hq⟩ := hbody cdv A outer s H vs Q E (hr.deeper _) hg hsp
  have I : Inv (cxOf CX P w K mg base N qual scope f cdv A outer s H E) [] (start N vs) H s1 := inv_start S hr.hd e0 hl r x
  refine wpAny_mono (ht.run [] s1 (start N vs) H _ I hq) (fun fl s' hs => ?_) fun e s' hs => hs
  cases fl with
  | ret u =>
    obtain ⟨v, σ', H', J, rv, q⟩ := hs
    exact ⟨v, H', J.os, J.bare, J.base, J.hok, rv, q⟩
  | next =>
    obtain ⟨σ', H', J, q⟩ := hs
    exact ⟨V.non, H', J.os, J.bare, J.base, J.hok, rfl, q⟩
  | brk =>
    obtain ⟨_, _, _, q⟩ := hs
    exact False.elim q
  | cont =>
    obtain ⟨_, _, _, q⟩ := hs
    exact False.elim q
end
section
variable {X : Cx} {CX : CXT} {k : Nat} {f g C : Addr} {sp : Sp} {dvs : List V} {E : XK} {x m : Str} {p pos apos : Pos} {e o : Expr} {es : List Expr} {ta tb : TE} {t : TA} {r : List V → Hp → VK → Prop}
@[irreducible] def rMk (C : Addr) (sp : Sp) (dvs : List V) (E : XK) : List V → Hp → VK → Prop := fun vs H Q =>
  ∀ x dx, H x = none → H dx = none → dx ≠ x → sp (.ref x :: (vs ++ dvs)) (upd (upd H dx (.own x)) x (.ins C dx [])) (fun v H2 => v = .non ∧ Q (.ref x) H2) E
theorem guards_make {A : Around} {us : List Value} {kw : List (Str × Value)} (h : A.guards = some []) : (A.under (.builtin "type.__call__" ⟨.ref C :: us, kw⟩)).guards = some [] := by
  show pushGuards (Code.guards (.builtin "type.__call__" ⟨.ref C :: us, kw⟩)) A.guards = some []
  have e : Code.guards (.builtin "type.__call__" ⟨.ref C :: us, kw⟩) = [] := by
    unfold Code.guards
    rw [if_neg (by show ¬ (guardIds.contains "type.__call__" = true); decide)]
  rw [e]
  exact h
theorem Prom.make (M : Mk X.K C f) (F : PromX X CX k f dvs sp) (hr : Room (k + 1) X.A) (hg : X.A.guards = some []) (hx : Passes CX X E) : CallR X (.ref C) (rMk C sp dvs E) := by
  intro pins s σ H vs us Q I r h
  unfold rMk at h
  obtain ⟨fd, ps, ds, G, b, hd⟩ := F
  have hq := h (s.heap.objs.size + 1) s.heap.objs.size (I.hok.fresh (Nat.le_succ _)) (I.hok.fresh (Nat.le_refl _)) (Nat.ne_of_lt (Nat.lt_succ_self _))
  have I2 := Inv.made (C := C) I
  have r2 : Vals (V.ref (s.heap.objs.size + 1) :: (vs ++ dvs)) (Value.ref (s.heap.objs.size + 1) :: (us ++ ds)) := .cons rfl (r.append hd)
  have hl : (Value.ref (s.heap.objs.size + 1) :: us ++ ds).length = ps.length := by
    have e := r2.length
    rw [G.len _ _ _ _ hq] at e
    exact e.symm
  refine wpAny_call (make_map (f := f) I.kIn M.makes M.init (beq_iff_eq.mp M.fn) (codeAny_mono (G.run _ X.stack _ _ ⟨Value.ref (s.heap.objs.size + 1) :: us, []⟩ (Value.ref (s.heap.objs.size + 1) :: (us ++ ds)) _ _ E (hr.make C us []) (guards_make hg)
    (I2.env0.make C us []) (b _ (Value.ref (s.heap.objs.size + 1) :: us) I2.kIn hl) r2 hq) fun r s' hq' => ?_))
  cases r with
  | error e => exact hx pins σ _ _ e s' I2 hq'
  | ok fl =>
    cases fl with
    | ret u =>
      obtain ⟨v, H', I3, rv, ev, q3⟩ := I2.after hq'
      subst ev
      exact ⟨rv, ⟨V.ref (s.heap.objs.size + 1), H', I3, rfl, q3⟩⟩
    | next => exact False.elim hq'
    | brk => exact False.elim hq'
    | cont => exact False.elim hq'
def tCl (r : List V → Hp → VK → Prop) (t : TA) : TE := fun σ H Q => t σ H fun vs H1 => r vs H1 Q
theorem pe_g (R : CallR X (.ref f) r) (hg : Gl X x) (hm : X.mg x = some (.ref f)) (hk : PySem.W.keepIn X.K (.ref f) = true)
    (ha : PA X (e :: es) t) (hdb : (x == ("__debug__" : Str)) = false := by decide) (he : starEach (e :: es) X.env = (false, eval e X.env) :: starEach es X.env := by rfl) (hpl : (backTo pos (starEach es X.env)).any (·.1) = false := by rfl) :
    PE X (.Call (.Name x p) (e :: es) [] pos) (tCl r t) := by
  refine ⟨fun pins s σ H Q I h => ?_⟩
  refine wpAny_Call_Name_kw (ld_glob I hg hm ?_ hdb)
  refine PySem.W.callWith_K (h₀ := X.base) I.ok.mod.kin hk (thn (ha.run pos pins s σ H _ I h) fun us s1 ⟨vs, H1, I1, r, q⟩ => ⟨I1.kIn, ?_⟩) he hpl
  exact R pins s1 σ H1 vs us Q I1 r q
theorem pe_g0 (R : CallR X (.ref f) r) (hg : Gl X x) (hm : X.mg x = some (.ref f)) (hk : PySem.W.keepIn X.K (.ref f) = true) (hdb : (x == ("__debug__" : Str)) = false := by decide) : PE X (.Call (.Name x p) [] [] pos) (tCl r tNil) := by
  refine ⟨fun pins s σ H Q I h => ?_⟩
  refine wpAny_Call_Name_kw (ld_glob I hg hm ?_ hdb)
  exact PySem.W.callWith_K0 I.kIn hk (R pins s σ H [] [] Q I .nil h)
def tMt (C : Addr) (m : Str) (r : List V → Hp → VK → Prop) (ta : TE) (t : TA) : TE := fun σ H Q => ta σ H fun x H1 => ∃ a dx fs, x = .ref a ∧ H1 a = some (.ins C dx fs) ∧ fs.lookup m = none ∧ t σ H1 fun vs H2 => r (x :: vs) H2 Q
def tPr (C : Addr) (sp : Sp) (dvs : List V) (E : XK) (ta : TE) : TE := fun σ H Q => ta σ H fun x H1 => ∃ a dx fs, x = .ref a ∧ H1 a = some (.ins C dx fs) ∧ sp (.ref a :: dvs) H1 Q E
theorem cmp_back {pins : List (Addr × Obj)} {σ : L2.St} {Q : VK} {u : Value} {s' : Shared} (h : EP X pins σ Q u s') : PySem.W.CmpBack (EP X pins σ Q) u s' := by
  obtain ⟨v, H', I', rv, q⟩ := h
  cases v with
  | non => cases (show u = Value.none from rv); exact ⟨.non, H', I', rfl, q⟩
  | bl b => cases (show u = Value.bool b from rv); exact ⟨.bl b, H', I', rfl, q⟩
  | int i => obtain ⟨t, z⟩ := (show ∃ t, u = Value.int i t from rv); subst z; exact ⟨.int i, H', I', ⟨t, rfl⟩, q⟩
  | str i => obtain ⟨t, z⟩ := (show ∃ t, u = Value.str i t from rv); subst z; exact ⟨.str i, H', I', ⟨t, rfl⟩, q⟩
  | byt i => obtain ⟨t, z⟩ := (show ∃ t, u = Value.bytes i t from rv); subst z; exact ⟨.byt i, H', I', ⟨t, rfl⟩, q⟩
  | flt i => obtain ⟨t, z⟩ := (show ∃ t, u = Value.float i t from rv); subst z; exact ⟨.flt i, H', I', ⟨t, rfl⟩, q⟩
  | ref a => cases (show u = Value.ref a from rv); exact ⟨.ref a, H', I', rfl, q⟩
  | ty n => cases (show u = Value.type n from rv); exact ⟨.ty n, H', I', rfl, q⟩
end
end Gh
end
section
set_option Elab.async false
set_option linter.all false
set_option maxRecDepth 100000
set_option maxHeartbeats 4000000
namespace Gh
open PySem PySem.Spec PyProof.Rows L2
theorem Keep.new {H H' : Hp} {p q : Addr} {o : HO} (h : Keep H H' p) (n : H' q = none) : Keep H (upd H' q o) p := fun a u e ne => by
  rw [upd_ne (ne_of_none (h a u e ne) n)]
  exact h a u e ne
theorem Keep.put {H H' : Hp} {p : Addr} {o : HO} (h : Keep H H' p) : Keep H (upd H' p o) p := fun a u e ne => by
  rw [upd_ne ne]
  exact h a u e ne
theorem PenAt.new {H : Hp} {p q : Addr} {b : Nat} {o : HO} (h : PenAt H p b) (n : H q = none) : PenAt (upd H q o) p b := by
  obtain ⟨c, ns, i, z, h1, h2, h3⟩ := h
  exact ⟨c, ns, i, z, by rw [upd_ne (ne_of_none h1 n)]; exact h1, by rw [upd_ne (ne_of_none h2 n)]; exact h2, h3⟩
theorem dp_ints (K : PySem.W.Frag) (H : Hp) : ∀ ns : List Int, DpAll K H (ns.map V.int) (ns.map PyData.int)
  | [] => .nil
  | n :: r => .cons (.int n) (dp_ints K H r)
theorem eqv_nil (ds : List PyData) : PyData.eqv (.list ds) (.list []) = ds.isEmpty := by
  cases ds <;> rfl
theorem same_new {H : Hp} {q : Addr} {o : HO} (n : H q = none) : L2.Same H (upd H q o) := fun a u e => by
  rw [upd_ne (ne_of_none e n)]
  exact e
theorem atI_int {ns : List Int} {i : Int} (h0 : 0 ≤ i) (h1 : i < ns.length) : ∃ v, atI (ns.map V.int) i = some (.int v) ∧ v ∈ ns := by
  obtain ⟨j, rfl⟩ : ∃ j : Nat, i = j := ⟨i.toNat, by omega⟩
  have hl : j < ns.length := by omega
  refine ⟨ns[j], atI_nat ?_, List.getElem_mem hl⟩
  rw [List.getElem?_map, List.getElem?_eq_getElem hl]
  rfl
theorem pow_lt {i : Int} (h0 : 0 ≤ i) (h1 : i < 18446744073709551616) : i.natAbs < 2 ^ 64 := by
  have e : (2 : Nat) ^ 64 = 18446744073709551616 := by decide
  rw [e]
  omega
theorem mix_ok {x i a b c : Int} (h0 : 0 ≤ x) (h1 : x < 4294967296) (h2 : 0 ≤ i) (h3 : i ≤ 1000000) (ha : 0 ≤ a ∧ a ≤ 1000000) (hb : 0 ≤ b ∧ b ≤ 1000000) (hc : 0 ≤ c ∧ c ≤ 1000000) : (x * (2 * i + a) + b * i * i + c).natAbs < 2 ^ 64 := by
  have hii : 0 ≤ i * i ∧ i * i ≤ 1000000 * 1000000 := ⟨Int.mul_nonneg h2 h2, Int.mul_le_mul h3 h3 h2 (by decide)⟩
  have hxi : 0 ≤ x * (2 * i + a) ∧ x * (2 * i + a) ≤ 4294967296 * 4000000 := ⟨Int.mul_nonneg h0 (by omega), Int.mul_le_mul (by omega) (by omega) (by omega) (by decide)⟩
  have hbi : 0 ≤ b * (i * i) ∧ b * (i * i) ≤ 1000000 * (1000000 * 1000000) := ⟨Int.mul_nonneg hb.1 hii.1, Int.mul_le_mul hb.2 hii.2 hii.1 (by decide)⟩
  have e : b * i * i = b * (i * i) := Int.mul_assoc _ _ _
  refine pow_lt ?_ ?_ <;> (rw [e]; omega)
theorem mod_lt (x : Int) {m : Int} (h : 0 < m) : 0 ≤ x % m ∧ x % m < m := ⟨Int.emod_nonneg _ (by omega), Int.emod_lt_of_pos _ h⟩
theorem cut_all {xs : List V} {n : Nat} (h : xs.length ≤ n) : cutV xs none (some (n : Int)) = xs := by
  unfold cutV
  rw [HT.sIx_none, HT.sIx_nat, Nat.min_eq_right h, List.drop_zero, Nat.sub_zero]
  exact List.take_length
abbrev rInt1 : List V → Hp → VK → Prop := fun xs H Q => (∃ i, xs = [V.int i] ∧ Q (V.int i) H) ∨ ∃ k, xs = [V.bl k] ∧ Q (V.int (if k = true then 1 else 0)) H
def tCut (t u : TS) : TS := fun D σ H => ∃ M : L2.St → Hp → Prop, t { D with nx := M } σ H ∧ ∀ σ' H', M σ' H' → u D σ' H'
theorem pss_cut {X : Cx} {st : Stmt} {rest : List Stmt} {t u : TS} (h1 : PS X st t) (h2 : PSs X rest u) : PSs X (st :: rest) (tCut t u) := by
  refine ⟨fun pins s σ H D I h => ?_⟩
  obtain ⟨M, hm, hu⟩ := h
  refine wpAny_execs_cons (thn (h1.run pins s σ H { D with nx := M } I hm) fun f s1 q => ?_)
  cases f with
  | next =>
    obtain ⟨σ1, H1, I1, q1⟩ := q
    exact h2.run pins s1 σ1 H1 D I1 (hu σ1 H1 q1)
  | ret v => exact q
  | brk => exact q
  | cont => exact q
end Gh
end
section
set_option Elab.async false
set_option linter.all false
set_option maxRecDepth 100000
set_option maxHeartbeats 4000000
namespace Gh
open PySem PySem.Spec PyProof.Rows L2
theorem PenAt.ne {H : Hp} {p c : Addr} {b : Nat} (h : PenAt H p b) (n : H c = none) : c ≠ p := by
  obtain ⟨d, ns, i, z, h1, _⟩ := h
  exact (ne_of_none h1 n).symm
theorem fnG0 {P : Program} {w : World} {K : PySem.W.Frag} {mg : Str → Option Value} {base : Heap} {CX : CXT} {k : Nat} {f : Addr} {fd : FuncData} {ps : List Str} {sp : Sp} {dvs : List V} {x qual : Str} {params : Arguments} {body : List Stmt} {scope : Scope} {kws : List (Str × V)} {N : List Str}
    (F : FunD K x qual params body scope dvs kws f fd) (S : FnScope N ps scope) (len : ∀ vs H Q E, sp vs H Q E → vs.length = ps.length)
    (hbody : ∀ (cdv : Value) (A : Around) (outer : List Env) (s : Shared) (H : Hp) (vs : List V) (Q : VK) (E : XK), Room k (A.deeper (envOfC qual scope s.heap.objs.size f cdv)) → (A.deeper (envOfC qual scope s.heap.objs.size f cdv)).guards = some [] → sp vs H Q E →
      ∃ t, PSs (cxOf CX P w K mg base N qual scope f cdv A outer s H E).nox body t ∧ t { nx := fun _ H' => Q .non H', rt := Q } (start N vs) H) : FnG P w K mg base CX (k + 1) f fd ps sp :=
  fnG_of F S len fun cdv A outer s H vs Q E hr hg h => by
    obtain ⟨t, ht, q⟩ := hbody cdv A outer s H vs Q E hr hg h
    exact ⟨t, PSs.nox ht, q⟩
section
variable {X : Cx} {K : PySem.W.Frag}
theorem ix_listK (h : X.K = K) : IxR X (rIxL K) := h ▸ ix_list
end
end Gh
end
section
set_option Elab.async false
set_option linter.all false
set_option maxRecDepth 100000
set_option maxHeartbeats 4000000
namespace Gh
open PySem PySem.Spec PyProof.Rows L2
theorem exk_ok {P : Program} {w : World} {H : Hp} {h : Heap} {a C d : Addr} {o : Obj} {vs : Array Value} (h1 : h.get? a = some o) (h2 : o.cls = .ref C) (h3 : o.dict = some d) (h4 : o.data = .fields vs) : ObjOk P w H h a (exk a C d) :=
  ⟨⟨o, vs, h1, h2, h3, h4⟩, ⟨o, h1⟩, fun _ _ z k => by
    obtain ⟨o, vs, h1, h2, h3, h4⟩ := z
    exact ⟨o, vs, k _ h1, h2, h3, h4⟩⟩
theorem exk_at {P : Program} {w : World} {H : Hp} {h : Heap} {a C d : Addr} (hok : HOk P w H h) (e : H a = some (exk a C d)) : ∃ (o : Obj) (vs : Array Value), h.get? a = some o ∧ o.cls = .ref C ∧ o.dict = some d ∧ o.data = .fields vs :=
  (show ObjOk P w H h a (exk a C d) from hok a _ e).1
structure ErrT (K : PySem.W.Frag) (C : Addr) : Prop where
  hg : PySem.W.findIn K (.ref C) "__getattribute__" = some (some (.builtin "BaseException.__getattribute__"))
  hk : PySem.W.findIn K (.ref C) "__getattr__" = some none
  hs : PySem.W.subIn K (.ref C) (.type "BaseException") = some true
  hd : PySem.W.hasDictIn K C = true
  ha : PySem.W.findIn K (.ref C) "__class__" = some (some (.builtin "object.__class__"))
  hn : PySem.W.specialIn K (.builtin "object.__class__") "__get__" = some (some (.builtin "getset_descriptor.__get__"))
  htk : PySem.W.takesIn K (.builtin "object.__class__") = some true
  hm : PySem.W.mroIn K C (.type "object") = some true
theorem errB_ok {x : Str} {K : PySem.W.Frag} (h : errB x K = true) : ErrT K (gd x K) := by
  obtain ⟨h1, h⟩ := He.ba h
  obtain ⟨h2, h⟩ := He.ba h
  obtain ⟨h3, h⟩ := He.ba h
  obtain ⟨h4, h⟩ := He.ba h
  obtain ⟨h5, h⟩ := He.ba h
  obtain ⟨h6, h⟩ := He.ba h
  obtain ⟨h7, h8⟩ := He.ba h
  exact ⟨He.eqO_ok h1, He.eqO_ok h2, of_decide_eq_true h3, h4, He.eqO_ok h5, He.eqO_ok h6, of_decide_eq_true h7, of_decide_eq_true h8⟩
section
variable {X : Cx} {e : Expr} {te : TE} {pos : Pos} {n : Str}
theorem exk_inst {pins : List (Addr × Obj)} {σ : L2.St} {H : Hp} {s : Shared} {a C d : Addr} {fs : List (Str × V)} (I : Inv X pins σ H s) (h1 : H a = some (exk a C d)) (h2 : H d = some (.xd fs)) :
    ∃ o od mA, PySem.W.InstAt s.heap a o C (some od) ∧ s.heap.Ns1 d mA ∧ (∀ f, RelO (fs.lookup f) (mA f)) ∧ s.heap.get? d = some od := by
  obtain ⟨o, vs, k1, k2, k3, k4⟩ := exk_at I.hok h1
  obtain ⟨mA, hns, hr⟩ := (show ObjOk X.prog X.w H s.heap d (.xd fs) from I.hok d _ h2)
  obtain ⟨od, ho, hl⟩ := lookIn_ns hns
  exact ⟨o, od, mA, ⟨k1, k2, by unfold PySem.W.notCls; rw [k4] <;> rfl, by rw [k3]; exact ho⟩, hns, hr, ho⟩
def rIsiZ (K : PySem.W.Frag) : List V → Hp → VK → Prop := fun xs H Q => rIsi K xs H Q ∨ ∃ (a C d : Addr) (fs : List (Str × V)) (c : V) (u : Value) (b : Bool), xs = [.ref a, c] ∧ ClsV c u ∧ H a = some (exk a C d) ∧ H d = some (.xd fs) ∧ ErrT K C ∧ PySem.W.kitOne K (.ref C) u = some b ∧ Q (.bl b) H
theorem call_isiZ {K : PySem.W.Frag} (hK : X.K = K) : CallR X (.builtin "isinstance") (rIsiZ K) := by
  subst hK
  intro pins s σ H xs us Q I r h
  rcases h with h | ⟨a, C, d, fs, c, u, b, rfl, k, ea, ed, T, e, q⟩
  · exact call_isi pins s σ H xs us Q I r h
  · obtain ⟨u1, u2, rfl, r1, r2⟩ := vals2 r
    obtain rfl : u1 = Value.ref a := r1
    have e2 := k.eq r2
    subst e2
    obtain ⟨o, od, mA, J, _⟩ := exk_inst I ea ed
    have hcl : (PySem.W.clsIn X.K C).isSome = true := by
      obtain ⟨cd, hc, _⟩ := PySem.W.any_some T.hd
      rw [hc]
      rfl
    exact PySem.W.kia_one (PySem.W.kitx_exc hcl T.hg T.hk T.hs T.ha T.hn T.htk T.hm) I.kIn J e (fun z => nomatch z) fun tk => ⟨.bl b, H, I.tok tk, rfl, q⟩
end
theorem inv_track {X : Cx} {pins : List (Addr × Obj)} {σ : L2.St} {H : Hp} {s : Shared} {a : Addr} {o : HO} (I : Inv X pins σ H s) (hn : H a = none) (n0 : X.s_0.heap.get? a = none) (nL : a ≠ X.env.locals) (nC : ∀ x c, X.env.cells.lookup x = some c → c ≠ a) (nP : ∀ p ∈ X.pn ++ pins, p.1 ≠ a)
    (ok : ObjOk X.prog X.w (upd H a o) s.heap a o) : Inv X pins σ (upd H a o) s := by
  have ne : ∀ {b : Addr} {u : HO}, H b = some u → b ≠ a := fun e => ne_of_none e hn
  refine ⟨I.ok, I.os, I.bare, ⟨I.base.keep, I.base.slot, fun b u e n hx => ?_, I.base.there, fun b xs e => ?_, fun b u v e => ?_, fun b ps e => ?_⟩, I.loc, I.cell, ?_, fun x c e => ?_, fun p hp => ?_, fun b u e => ?_, I.len⟩
  · rw [upd_ne (fun z => by rw [z, n0] at e; cases e)]
    exact I.base.free b u e n hx
  · have z := I.base.tups b xs e
    rw [upd_ne (ne z)]
    exact z
  · have z := I.base.frzs b u v e
    rw [upd_ne (ne z)]
    exact z
  · obtain ⟨more, z⟩ := I.base.tbls b ps e
    exact ⟨more, by rw [upd_ne (ne z)]; exact z⟩
  · rw [upd_ne nL.symm]
    exact I.free
  · rw [upd_ne (nC x c e)]
    exact I.freeC x c e
  · obtain ⟨z1, z2, z3⟩ := I.pin p hp
    exact ⟨z1, by rw [upd_ne (nP p hp)]; exact z2, z3⟩
  · by_cases hb : b = a
    · subst hb
      rw [upd_same] at e
      cases e
      exact ok
    · rw [upd_ne hb] at e
      exact (I.hok b u e).stay (fun _ _ _ q => q) (fun c hc => by rw [upd_ne (ne hc)]; exact hc) (fun c xs hc => by rw [upd_ne (ne hc)]; exact hc)
section
variable {X : Cx} {x n : Str} {c : Value} {i : Nat} {body suite : List Stmt} {b₀ : Stmt} {np pos pos' : Pos} {tb : WX → TS} {ts : Addr → Value → Option Addr → TS} {Wout : WX}
end
end Gh
end
section
set_option Elab.async false
set_option linter.all false
set_option maxRecDepth 100000
set_option maxHeartbeats 4000000
namespace Gh
open PySem PySem.Spec PyProof.Rows L2
theorem law_callTsG {P : Program} {w : World} {K : PySem.W.Frag} {mg mb : Str → Option Value} {CX : CXT} {k : Nat} {fa a : Addr} {cs : List (Addr × Addr)} {fd : FuncData} {x : Str} {sp : Sp} {s₁ : Shared} {vs : List Value} {ns : List Int}
    (KX : K.In s₁.heap) (hns : s₁.heap.Ns mainGlobals mg) (hb : s₁.heap.Ns builtinsNs mb) (hbb : ∀ x : Str, x ≠ "__name__" → mb x = bootBuiltins x) (hlim : s₁.heap.NoLimit) (hg : s₁.gens = #[])
    (hT : ∀ p ∈ cs, s₁.heap.get? p.2 = some { cls := .none, data := .fields #[] }) (nT : ∀ p ∈ cs, K.lookup p.2 = none) (C : ∀ p ∈ cs, PySem.W.CodeHd s₁.heap p.1 p.2)
    (hbm : ∃ (bm : Addr) (ob : Obj), mg "__builtins__" = some (.ref bm) ∧ bm ≠ builtinsNs ∧ s₁.heap.get? bm = some ob ∧ ob.cls = .type "module" ∧ ob.dict = some builtinsNs ∧ ob.data = .plain)
    (ha : s₁.heap.get? a = some { cls := .type "list", data := .seq vs.toArray }) (hi : IntsAre vs ns) (hl : ns.length ≤ sizeLine) (hr : Room k callerA)
    (F : ∀ base : Heap, K.In base → base.Ns mainGlobals mg → (∀ p ∈ cs, LamX.TabB base mg p.1 p.2) → FnG P w K mg base CX k fa fd [x] sp) (hbind : ∀ (s : Shared) (u : Value), BindsTo s fd ⟨[u], []⟩ [(x, u)])
    (hsp : ∀ H : Hp, (∀ p ∈ cs, H p.2 = some (.tbl #[])) → SqL K H a (ns.map V.int) → sp [.ref a] H (fun v _ => v = .bl true) fun _ _ _ => False)
    (hCX : ∀ H e s', CX [] H s₁ (fun _ _ _ => False) e s' → False) :
    codeAny (model P w) callerA (.call (.ref fa) ⟨[.ref a], []⟩) (fun r s' => r = .ok (.ret (.bool true)) ∧ OldK s₁.heap s'.heap ∧ s'.os = s₁.os ∧ AllBare s'.gens) s₁ := by
  have rv := vals_ints hi
  have lenV := hi.length
  have isT : ∀ b : Addr, b ∈ cs.map (·.2) → s₁.heap.get? b = some { cls := .none, data := .fields #[] } := fun b hb => by
    obtain ⟨p, hp, e⟩ := List.mem_map.mp hb
    rw [← e]
    exact hT p hp
  have aT : a ∉ cs.map (·.2) := fun z => by
    have q := isT a z
    rw [ha] at q
    have z' : Data.seq vs.toArray _ = Data.fields #[] := congrArg Obj.data (Option.some.inj q)
    cases z'
  have memT : ∀ p ∈ cs, p.2 ∈ cs.map (·.2) := fun p hp => List.mem_map.mpr ⟨p, hp, rfl⟩
  -- from an abstract heap in which nothing but the script and the tables may be tracked
  have core : ∀ H : Hp, (∀ p ∈ cs, H p.2 = some (.tbl #[])) → (∀ b, H b = none ∨ b ∈ cs.map (·.2) ∨ ∃ o xs, H b = some (.frz o (.lst xs))) → SqL K H a (ns.map V.int) → HOk P w H s₁.heap → (∀ b, H b ≠ none → b = a ∨ b ∈ cs.map (·.2)) → (H a ≠ none → K.lookup a = none) →
      codeAny (model P w) callerA (.call (.ref fa) ⟨[.ref a], []⟩) (fun r s' => r = .ok (.ret (.bool true)) ∧ OldK s₁.heap s'.heap ∧ s'.os = s₁.os ∧ AllBare s'.gens) s₁ := by
    intro H hH hO hS hok hA hK
    have base_of : ∀ {b : Addr} {o : Obj}, s₁.heap.get? b = some o → H b = none → (hidT s₁.heap H).get? b = some o := fun e n => hidT_get e n
    have noD : ∀ {b : Addr} {o : Obj}, s₁.heap.get? b = some o → (∀ vs n, o.data ≠ .seq vs n) → o.data ≠ .fields #[] → H b = none := fun {b o} e h1 h2 => by
      cases q : H b with
      | none => rfl
      | some u =>
        rcases hA b (by rw [q]; simp) with e' | e'
        · rw [e', ha] at e
          cases e
          exact (h1 _ _ rfl).elim
        · rw [isT b e'] at e
          cases e
          exact (h2 rfl).elim
    have noA : ∀ {b : Addr} {o : Obj} {es : Array DictEntry} {ep : Nat}, s₁.heap.get? b = some o → o.data = .dict es ep → H b = none := fun {b o es ep} e d => by
      refine noD e (fun vs n z => ?_) fun z => ?_
      · rw [d] at z
        cases z
      · rw [d] at z
        cases z
    have nsK : ∀ {b : Addr} {m : Str → Option Value}, s₁.heap.Ns b m → (hidT s₁.heap H).Ns b m := fun {b m} ⟨o, es, ep, e, d, r⟩ => ⟨o, es, ep, base_of e (noA e d), d, r⟩
    have hKb : K.In (hidT s₁.heap H) := fun b o e => base_of (KX b o e) (by
      cases q : H b with
      | none => rfl
      | some u =>
        rcases hA b (by rw [q]; simp) with e' | e'
        · rw [e'] at e q
          rw [hK (by rw [q]; simp)] at e
          cases e
        · obtain ⟨p, hp, ep⟩ := List.mem_map.mp e'
          rw [← ep, nT p hp] at e
          cases e)
    have hM : L2.Mod K mg (hidT s₁.heap H) := ⟨hKb, nsK hns, ⟨mb, nsK hb, hbb⟩, let ⟨mc, h1, h2⟩ := hlim; ⟨mc, nsK h1, h2⟩⟩
    have TB : ∀ p ∈ cs, LamX.TabB (hidT s₁.heap H) mg p.1 p.2 := fun p hp => by
      have hTp := hT p hp
      refine ⟨?_, ?_, fun z => ?_⟩
      · obtain ⟨o, us, file, tf, flags, tg, inF, text, tt, e1, r1, r2, r3, r4, r5, r6, r7, r8, hne⟩ := C p hp
        refine ⟨o, us, file, tf, flags, tg, inF, text, tt, base_of e1 (noD e1 (fun vs n z => ?_) fun z => ?_), r1, r2, r3, r4, r5, r6, r7, r8, hne⟩
        · rw [r2] at z
          cases z
        · rw [r2] at z
          cases z
          simp at r3
      · obtain ⟨bm, ob, b1, b2, b3, b4, b5, b6⟩ := hbm
        have nG : bm ≠ mainGlobals := fun q => by
          obtain ⟨o, es, ep, e, hd, _⟩ := hns
          rw [q, e] at b3
          cases b3
          rw [hd] at b6
          cases b6
        have nP : bm ≠ p.2 := fun q => by
          rw [q, hTp] at b3
          cases b3
          cases b6
        refine ⟨bm, ob, b1, b2, nG, nP, base_of b3 (noD b3 (fun vs n z => ?_) fun z => ?_), b4, b5, b6⟩
        · rw [b6] at z
          cases z
        · rw [b6] at z
          cases z
      · obtain ⟨o, es, ep, e, hd, _⟩ := hns
        rw [z, hTp] at e
        cases e
        cases hd
    have e0 : Env0 P w K mg (hidT s₁.heap H) callerA [] s₁ H := ⟨rfl, hM, fun b o e => of_hidT e, Nat.le_of_eq (hidT_size _ _), trivial, fun b hb => absurd (show b ∈ ([] : List Addr) from hb) (by simp), hok, .of_eq hg⟩
    refine codeAny_mono ((F _ hKb (nsK hns) TB).run callerA [] s₁ H ⟨[.ref a], []⟩ [.ref a] [.ref a] _ _ hr rfl e0 (hbind s₁ (.ref a)) (.cons rfl .nil) (hsp H hH hS)) fun r s' h => ?_
    cases r with
    | error e => exact (hCX H e s' h).elim
    | ok fl =>
      cases fl with
      | next => exact False.elim h
      | brk => exact False.elim h
      | cont => exact False.elim h
      | ret u =>
        obtain ⟨v, H', os, bare, un, hok', r', q⟩ := h
        have q' : v = .bl true := q
        subst q'
        obtain rfl : u = Value.bool true := r'
        have key : ∀ b o, b ∉ cs.map (·.2) → s₁.heap.get? b = some o → s'.heap.get? b = some o := fun b o nb e => by
          cases q : H b with
          | none => exact un.keep b o e q (by intro z; exact absurd (show b ∈ ([] : List Addr) from z) (by simp)) (by simp)
          | some u =>
            rcases hO b with z | z | ⟨ob, xs, z⟩
            · rw [q] at z; cases z
            · exact absurd z nb
            · have z2 := un.frzs b ob _ z
              obtain ⟨e1, _⟩ := hok b _ z
              obtain ⟨e2, _⟩ := hok' b _ z2
              rw [e] at e1; cases e1
              exact e2
        have grown : ∀ p ∈ cs, ∃ more : Array Value, s'.heap.get? p.2 = some { cls := .none, data := .fields more } := fun p hp => by
          obtain ⟨more, z⟩ := un.tbls p.2 #[] (hH p hp)
          exact ⟨_, hok' p.2 _ z⟩
        refine ⟨rfl, ⟨fun b o e => ?_, fun b o e => ?_⟩, os, bare⟩
        · by_cases hb : b ∈ cs.map (·.2)
          · obtain ⟨p, hp, ep⟩ := List.mem_map.mp hb
            obtain ⟨more, hm⟩ := grown p hp
            rw [← ep] at e ⊢
            rw [hT p hp] at e
            cases e
            exact .inr (.inl ⟨((C p hp).tab (hT p hp)).isCodeTable, rfl, #[], more, rfl, by rw [Array.empty_append]; exact hm⟩)
          · exact .inl (key b o hb e)
        · by_cases hb : b ∈ cs.map (·.2)
          · obtain ⟨p, hp, ep⟩ := List.mem_map.mp hb
            obtain ⟨more, hm⟩ := grown p hp
            rw [← ep]
            exact ⟨_, hm⟩
          · exact ⟨o, key b o hb e⟩
  cases hk : K.lookup a with
  | some o =>
    have e := KX a o hk
    rw [ha] at e
    cases e
    refine core (fun b => if b ∈ cs.map (·.2) then some (.tbl #[]) else none) (fun p hp => if_pos (memT p hp)) (fun b => ?_) (.inr ⟨_, vs.toArray, _, hk, rfl, rfl, rfl, by rw [List.size_toArray, lenV]; exact hl, by simpa using rv⟩) (fun b u z => ?_) (fun b z => ?_) fun z => absurd (show (if a ∈ cs.map (·.2) then some (HO.tbl #[]) else none) = none from if_neg aT) z
    · by_cases hb : b ∈ cs.map (·.2)
      · exact .inr (.inl hb)
      · exact .inl (if_neg hb)
    · by_cases hb : b ∈ cs.map (·.2)
      · have z' := (if_pos hb).symm.trans z
        cases z'
        exact isT b hb
      · have z' := (if_neg hb).symm.trans z
        cases z'
    · by_cases hb : b ∈ cs.map (·.2)
      · exact .inr hb
      · exact absurd (if_neg hb) z
  | none =>
    refine core (fun b => if b = a then some (.frz { cls := .type "list", data := .seq vs.toArray } (.lst (ns.map V.int))) else if b ∈ cs.map (·.2) then some (.tbl #[]) else none) (fun p hp => (if_neg (show ¬ p.2 = a from fun z => aT (by rw [← z]; exact memT p hp))).trans (if_pos (memT p hp))) (fun b => ?_)
      (.inl (.inr ⟨{ cls := .type "list", data := .seq vs.toArray }, if_pos rfl⟩)) (fun b u z => ?_) (fun b z => ?_) fun _ => hk
    · by_cases hb : b = a
      · exact .inr (.inr ⟨_, _, if_pos hb⟩)
      · by_cases hb2 : b ∈ cs.map (·.2)
        · exact .inr (.inl hb2)
        · exact .inl ((if_neg hb).trans (if_neg hb2))
    · by_cases hb : b = a
      · have z' := (if_pos hb).symm.trans z
        cases z'
        rw [hb]
        exact ⟨ha, by rw [List.length_map]; exact hl, vs, _, rv, ha⟩
      · have z1 := (if_neg hb).symm.trans z
        by_cases hb2 : b ∈ cs.map (·.2)
        · have z' := (if_pos hb2).symm.trans z1
          cases z'
          exact isT b hb2
        · have z' := (if_neg hb2).symm.trans z1
          cases z'
    · by_cases hb : b = a
      · exact .inl hb
      · by_cases hb2 : b ∈ cs.map (·.2)
        · exact .inr hb2
        · exact absurd ((if_neg hb).trans (if_neg hb2)) z
theorem walk_ofTsG {l : PySem.W.OpenLaw} {n k : Nat} {q : Program} {loose : List Str} {XP : (Str → Option Value) → Heap → Prop} {YP : World → Heap → Prop} {d : DefRec} {CX : World → CXT} {x : Str}
    (hn : l.most = some n) (hn2 : n ≤ sizeLine) (hdf : d.params.defaults = []) (hr : Room k callerA)
    (F : ∀ (w : World) (mg : Str → Option Value) (fa : Addr) (h : Heap), YP w h → h.Ns mainGlobals mg → mg d.name = some (.ref fa) →
      ∃ (K : PySem.W.Frag) (fd : FuncData) (cs : List (Addr × Addr)) (sp : Sp), K.In h ∧ (∀ p ∈ cs, h.get? p.2 = some { cls := .none, data := .fields #[] }) ∧ (∀ p ∈ cs, K.lookup p.2 = none) ∧ (∀ p ∈ cs, PySem.W.CodeHd h p.1 p.2) ∧
        (∀ (s : Shared) (u : Value), BindsTo s fd ⟨[u], []⟩ [(x, u)]) ∧
        (∀ (H : Hp) (a : Addr) (ns : List Int), ns.length ≤ n → (∀ p ∈ cs, H p.2 = some (.tbl #[])) → SqL K H a (ns.map V.int) → sp [.ref a] H (fun v _ => v = .bl true) fun _ _ _ => False) ∧
        ∀ base : Heap, K.In base → base.Ns mainGlobals mg → (∀ p ∈ cs, LamX.TabB base mg p.1 p.2) → FnG l.prog w K mg base (CX w) k fa fd [x] sp)
    (hCX : ∀ (w : World) (H : Hp) (s : Shared) (e : Value) (s' : Shared), CX w [] H s (fun _ _ _ => False) e s' → False) :
    PySem.W.WalkO q loose XP YP l.row.toRowW d [] (fun f vs => PySem.call f vs) := by
  refine Att.attach_call hn hdf fun w s₀ s₁ mg mb fa o pm cd doc a vs ns G Y ho hd hcd hmg hobj hints hlen hg => ?_
  obtain ⟨K, fd, cs, sp, KX, hT, nT, C, hb, hsp, hF⟩ := F w mg fa _ Y G.T.g hmg
  exact law_callTsG KX G.T.g G.T.b G.T.builtins G.T.nolimit hg hT nT C G.T.bmain hobj hints (Nat.le_trans hlen hn2) hr hF hb (fun H hH hS => hsp H a ns hlen hH hS) fun H e s' => hCX w H s₁ e s'
end Gh
end
section
set_option Elab.async false
set_option linter.all false
set_option maxRecDepth 100000
set_option maxHeartbeats 4000000
namespace Gh
open PySem PySem.Spec PyProof.Rows L2
theorem fnO0 {P : Program} {w : World} {K : PySem.W.Frag} {mg : Str → Option Value} {base : Heap} {CX : CXT} {k : Nat} {f : Addr} {fd : FuncData} {ps : List Str} {sp : Sp} {dvs : List V} {x qual : Str} {params : Arguments} {body : List Stmt} {scope : Scope} {kws : List (Str × V)} {N : List Str}
    (F : FunD K x qual params body scope dvs kws f fd) (S : FnScope N ps scope) (len : ∀ vs H Q E, sp vs H Q E → vs.length = ps.length)
    (hbody : ∀ (cdv : Value) (A : Around) (outer : List Env) (s : Shared) (H : Hp) (vs : List V) (Q : VK) (E : XK), Room k (A.deeper (envOfC qual scope s.heap.objs.size f cdv)) → sp vs H Q E →
      ∃ t, PSs (cxOf CX P w K mg base N qual scope f cdv A outer s H E).nox body t ∧ t { nx := fun _ H' => Q .non H', rt := Q } (start N vs) H) : FnOk P w K mg base CX (k + 1) f fd ps sp :=
  F.ok S len fun cdv A outer s H vs Q E hr h => by
    obtain ⟨t, ht, q⟩ := hbody cdv A outer s H vs Q E hr h
    exact ⟨t, PSs.nox ht, q⟩
section
variable {X : Cx} {CX : CXT} {k : Nat} {f g C : Addr} {sp : Sp} {dvs : List V} {E : XK} {m : Str} {pos : Pos} {o : Expr} {ta : TE}
theorem PromO.make (M : Mk X.K C f) (F : PromOX X CX k f dvs sp) (hr : Room (k + 1) X.A) (hx : Passes CX X E) : CallR X (.ref C) (rMk C sp dvs E) := by
  intro pins s σ H vs us Q I r h
  unfold rMk at h
  obtain ⟨fd, ps, ds, G, b, hd⟩ := F
  exact run_make M G hr b hd hx I r h
theorem pe_po {pp : Addr} (he : PE X o ta) (c : Cls X.K C) (hp : PropOf X.K C m pp g) (F : PromOX X CX k g dvs sp) (hr : Room (k + 1) X.A) (hx : Passes CX X.nox E)
    (hab : attributeBase o m X.env (eval o X.env) = eval o X.env := by rfl) : PE X (.Attribute o m pos) (tPr C sp dvs E ta) := by
  obtain ⟨fd, ps, ds, G, b, hd⟩ := F
  exact pe_prop he c hp G hr b hd hx hab
theorem pass_on (hs : X.stack = X.env :: X.outer) (hf : X.env.frame = some X.env.locals) (hex : X.ex = []) {E₁ : Value → Shared → Prop} (hx : X.xe = fun e s' => wpAny (model X.prog X.w) X.A (leaving X.env e) (fun _ s'' => L2.CX X.prog X.w X.outer X.H_0 X.s_0 E e s'') E₁ s') : Passes (L2.CX X.prog X.w) X E :=
  passes_call (takes_of hs hf hex hx) fun _ _ _ _ h => h
end
theorem oexB_ok {x : Str} {K : PySem.W.Frag} (h : oexB x K = true) : OexC K (gd x K) := by
  obtain ⟨h1, h⟩ := He.ba h
  obtain ⟨h2, h⟩ := He.ba h
  obtain ⟨h3, h⟩ := He.ba h
  obtain ⟨h4, h5⟩ := He.ba h
  refine ⟨?_, He.eqO_ok h2, of_decide_eq_true h3, of_decide_eq_true h4, h5⟩
  split at h1
  · rename_i c dd nm bs m bm ns qn hd sn sb ab col dl k0 k1 k2 k3 n k5 e
    obtain ⟨z1, h1⟩ := He.ba h1
    obtain ⟨z2, h1⟩ := He.ba h1
    obtain ⟨z3, h1⟩ := He.ba h1
    obtain ⟨z4, h1⟩ := He.ba h1
    obtain ⟨z5, z6⟩ := He.ba h1
    have y1 := of_decide_eq_true z1
    have y2 := of_decide_eq_true z2
    have y6 := of_decide_eq_true z6
    have y5 : dl = false := by simpa using z5
    subst y1 y6 y5 z4
    refine ⟨nm, qn, ns, bs, bm, sn, sb, ab, col, dd, k0, k1, k2, k3, k5, ?_, z3⟩
    rw [e, y2]
  · cases h1
def spErr1 (C : Addr) (f : Str) : Sp := fun vs H Q _ => ∃ (a : Addr) (v : V), vs = [.ref a, v] ∧ H a = some (exo a C none) ∧ ∀ d, H d = none → d ≠ a → Q .non (upd (upd H d (exd d [(f, v)])) a (exo a C (some d)))
def spErr2 (C : Addr) (f g : Str) : Sp := fun vs H Q _ => ∃ (a : Addr) (v u : V), vs = [.ref a, v, u] ∧ H a = some (exo a C none) ∧ ∀ d, H d = none → d ≠ a → Q .non (upd (upd (upd H d (exd d [(f, v)])) a (exo a C (some d))) d (exd d [(g, u), (f, v)]))
theorem mk_err1 {C : Addr} {f : Str} {v : V} {H : Hp} {Q : XK} (h : ∀ d H', L2.Same H H' → H d = none → H' d = some (.xd [(f, v)]) → Q (.ref C) (some d) H') :
    ([v] : List V).length ≤ 1000 ∧ ∀ a, H a = none → spErr1 C f (.ref a :: ([v] ++ [])) (upd H a (exo a C none)) (fun u H2 => u = .non ∧ ∃ (d : Addr) (fs : List (Str × V)), H2 a = some (exo a C (some d)) ∧ H2 d = some (exd d fs) ∧ H d = none ∧ Q (.ref C) (some d) (upd (del H2 a) d (.xd fs))) (fun _ _ _ => False) := by
  refine ⟨by show 1 ≤ 1000; decide, fun a na => ⟨a, v, rfl, upd_same, fun d nd ne => ⟨rfl, d, [(f, v)], upd_same, ?_, ?_, ?_⟩⟩⟩
  · rw [upd_ne ne, upd_same]
  · rw [upd_ne ne] at nd
    exact nd
  · have nd0 : H d = none := by
      rw [upd_ne ne] at nd
      exact nd
    refine h d _ (fun b u e => ?_) nd0 upd_same
    have hb : b ≠ a := ne_of_none e na
    have hd : b ≠ d := ne_of_none e nd0
    rw [upd_ne hd, del_ne hb, upd_ne hb, upd_ne hd, upd_ne hb]
    exact e
end Gh
end
section
set_option Elab.async false
set_option linter.all false
set_option maxRecDepth 100000
set_option maxHeartbeats 4000000
namespace Gh
open PySem PySem.Spec PyProof.Rows L2
@[irreducible] def rShow (K : PySem.W.Frag) : List V → Hp → VK → Prop := fun xs H Q => ∃ v t, xs = [v] ∧ Shw K H v t ∧ Q (.str t) H
theorem rShow_of {K : PySem.W.Frag} {v : V} {t : Str} {H : Hp} {Q : VK} (h : Shw K H v t) (q : Q (.str t) H) : rShow K [v] H Q := by
  unfold rShow
  exact ⟨v, t, rfl, h, q⟩
section
variable {X : Cx} {K : PySem.W.Frag}
theorem call_show (hK : X.K = K) (hu : X.A.units + 102 < cLine) (hg : X.A.guards = some []) : CallR X (.builtin "repr") (rShow K) := by
  subst hK
  intro pins s σ H xs us Q I r h
  unfold rShow at h
  obtain ⟨v, t, rfl, hs, q⟩ := h
  obtain ⟨u, rfl, ru⟩ := vals1 r
  cases hs with
  | non =>
    cases (show u = Value.none from ru)
    exact PySem.P.repr_of_none ⟨.str _, H, I.tok _, ⟨_, rfl⟩, q⟩
  | bl b =>
    cases (show u = Value.bool b from ru)
    exact PySem.P.repr_of_bool ⟨.str _, H, I.tok _, ⟨_, rfl⟩, q⟩
  | int i h =>
    obtain ⟨t, rfl⟩ := ru
    exact PySem.P.repr_of_int h ⟨.str _, H, I.tok _, ⟨_, rfl⟩, q⟩
  | str x h =>
    obtain ⟨t, rfl⟩ := ru
    exact PySem.P.repr_of_str ⟨.str _, H, I.tok _, ⟨_, rfl⟩, q⟩ (hsz := h)
  | dp hd h1 h2 h3 h4 =>
    rename_i a d
    cases (show u = Value.ref a from ru)
    obtain ⟨as, rd⟩ := Dp.reads I d _ _ hd rfl
    exact repr_of_reads' rd h1 (fun z => by rw [h2] at z; cases z) hg (by omega) (fun _ _ e => e) (fun h' u tk k => ⟨.str d.shown, H, I.kept k, ⟨u, rfl⟩, q⟩) h4
variable {CX : CXT} {x : Str} {C fI : Addr} {k : Nat} {sp : Sp} {dvs : List V} {e : Expr} {es : List Expr} {ta : TA} {p pos : Pos}
theorem passF : Passes (L2.CX X.prog X.w) X (fun _ _ _ => False) := fun _ _ _ _ _ _ _ h => by
  obtain ⟨_, _, _, _, _, _, _, _, _, _, _, _, z⟩ := h
  exact z.elim
theorem pmk_po (T : OexC X.K C) (iC : PySem.W.findIn X.K (.ref C) "__init__" = some (some (.ref fI))) (tI : PySem.W.typeIn X.K (.ref fI) = some (.type "function")) (F : PromOX X CX k fI dvs sp) (hr : Room (k + 1) X.A) (hx : Passes CX X (fun _ _ _ => False)) (hm : X.mg x = some (.ref C)) (ha : PA X (e :: es) ta) (hg : Gl X x := by rfl)
    (hdb : (x == ("__debug__" : Str)) = false := by decide) (he : starEach (e :: es) X.env = (false, eval e X.env) :: starEach es X.env := by rfl) (hpl : (backTo pos (starEach es X.env)).any (·.1) = false := by rfl) : PMk X (.Call (.Name x p) (e :: es) [] pos) (tMkO C sp dvs ta) := by
  obtain ⟨fd, ps, ds, G, b, hd⟩ := F
  exact pmk_oex T iC tI G hr b hd hx hg hm ha hdb he hpl
end
structure IniT (K : PySem.W.Frag) (C f : Addr) : Prop where
  iC : PySem.W.findIn K (.ref C) "__init__" = some (some (.ref f))
  tI : PySem.W.typeIn K (.ref f) = some (.type "function")
theorem iniB_ok {x : Str} {K : PySem.W.Frag} (h : iniB x K = true) : IniT K (gd x K) (md x "__init__" K) := by
  obtain ⟨h1, h2⟩ := He.ba h
  exact ⟨He.eqO_ok h1, of_decide_eq_true h2⟩
theorem PromO.raw {P : Program} {w : World} {K : PySem.W.Frag} {mg : Str → Option Value} {base : Heap} {CX : CXT} {k : Nat} {f : Addr} {sp : Sp} (F : PromO P w K mg base CX k f [] sp) : FnR P w K mg base CX k f sp := by
  obtain ⟨fd, ps, ds, G, b, hd⟩ := F
  have z := G.raw b hd
  intro A outer s H us vs Q E hr e0 r hs
  exact z A outer s H us vs Q E hr e0 r (show sp (vs ++ []) H Q E by rw [List.append_nil]; exact hs)
end Gh
end
section
set_option Elab.async false
set_option linter.all false
set_option maxRecDepth 100000
set_option maxHeartbeats 4000000
namespace Gh
open PySem PySem.Spec PyProof.Rows L2
theorem meets_enumerate_newT (l : Addr) (items : Array Value) (n : Nat) (dct : Option Addr) (sl : Array (Option Value)) :
    Meets (Builtin.«enumerate.__new__» ⟨[.type "enumerate", .ref l], []⟩) (fun _ R s => s.heap.get? l = some { cls := .type "tuple", dict := dct, data := .seq items n, slots := sl } ∧
      R (.ok (.ret (.ref (s.heap.push { cls := .type "tuple_iterator", data := .fields #[.ref l, .int 0 0] }).objs.size)))
        { s with heap := (s.heap.push { cls := .type "tuple_iterator", data := .fields #[.ref l, .int 0 0] }).push { cls := .type "enumerate", data := .fields #[.none, .bool false, .ref s.heap.objs.size, rawInt 0, .none, .none] } }) :=
  .of_wp fun prog w A R s h => by
    obtain ⟨hp, g, d, tk, os⟩ := s; obtain ⟨hl, h⟩ := h
    have hsub := sub_enumerate
    have hL : Heap.IsTuple (Shared.heap ⟨hp, g, d, tk, os⟩) l items := ⟨_, hl, rfl, n, rfl⟩
    wp_walk using wpAny_loadPart' hl
    refine wpAny_stack_any fun st => wpAny_pure ?_
    split
    · rename_i c _ _ _ _ _
      cases (c == Value.type "enumerate")
      · wp_walk using wpAny_loadPart' hl, wpAny_pyIter_tuple hL
        exact ⟨_, rfl, h⟩
      · wp_walk using wpAny_loadPart' hl, wpAny_pyIter_tuple hL
        exact ⟨_, rfl, h⟩
    · wp_walk using wpAny_loadPart' hl, wpAny_pyIter_tuple hL
      exact ⟨_, rfl, h⟩
section
variable {prog : Program} {w : World} {A : Around} {E : Value → Shared → Prop} {s : Shared}
theorem call_enumerate_tup {l : Addr} {items : Array Value} {Q : Value → Shared → Prop} (hL : s.heap.IsTuple l items)
    (h : ∀ h', IsEnum h' (s.heap.objs.size + 1) s.heap.objs.size 0 .none → h'.IsTupleIter s.heap.objs.size l 0 → h'.objs.size = s.heap.objs.size + 2 →
      (∀ b o, s.heap.get? b = some o → h'.get? b = some o) → Q (.ref (s.heap.objs.size + 1)) { s with heap := h' }) :
    wpAny (model prog w) A (call (.type "enumerate") [.ref l]) Q E s := by
  obtain ⟨⟨c, dct, dt, sl⟩, hl, hc, n, hd⟩ := hL
  replace hc : c = .type "tuple" := hc
  replace hd : dt = .seq items n := hd
  subst hc hd
  refine callType_new F.called_enumerate (by decide) (F.typeCall_enumerate_1 _) (F.newCall_enumerate_1 _) (fun obj => F.args_object_init_2 obj _) F.entry_enumerate_new
    (meets_enumerate_newT l items n dct sl) ⟨hl, ?_⟩
  have hz : (s.heap.push { cls := .type "tuple_iterator", data := .fields #[.ref l, .int 0 0] }).objs.size = s.heap.objs.size + 1 := Heap.size_push ..
  show _ ∧ _
  rw [hz]
  have he : IsEnum ((s.heap.push { cls := .type "tuple_iterator", data := .fields #[.ref l, .int 0 0] }).push
      { cls := .type "enumerate", data := .fields #[.none, .bool false, .ref s.heap.objs.size, rawInt 0, .none, .none] }) (s.heap.objs.size + 1) s.heap.objs.size 0 .none := by
    have := Heap.get?_push_size (s.heap.push { cls := .type "tuple_iterator", data := .fields #[.ref l, .int 0 0] })
      (o := { cls := .type "enumerate", data := .fields #[.none, .bool false, .ref s.heap.objs.size, rawInt 0, .none, .none] }) rfl
    rw [hz] at this; exact this
  refine ⟨⟨_, he, rfl⟩, h _ he ⟨_, Heap.get?_push_of_some _ (Heap.get?_push_size _ rfl), rfl, rfl⟩ (by rw [Heap.size_push, hz]) fun b o x => Heap.get?_push_of_some _ (Heap.get?_push_of_some _ x)⟩
end
def Itu (K : PySem.W.Frag) (a : Addr) : It :=
  ⟨fun i H => ∃ (xs : List V) (x : V), SqT K H a xs ∧ xs[i]? = some x, fun i H v H' => ∃ T x, v = .ref T ∧ H T = none ∧ H' = upd H T (.tup [.int (i : Nat), x]) ∧ ∀ xs, SqT K H a xs → xs[i]? = some x, fun i H => ∃ xs : List V, SqT K H a xs ∧ xs.length = i⟩
theorem turn_enumT {P : Program} {w : World} {K : PySem.W.Frag} {elts : List Expr} {kk : Nat} {tpos : Pos} (a e it : Addr) :
    Turn P w K (.Tuple elts kk tpos) (Itu K a) [e, it] e (fun i h => (∃ old, IsEnum h e it ((i : Nat) : Int) old) ∧ h.IsTupleIter it a i ∧ e ≠ it ∧ a ≠ it ∧ e ≠ a) where
  mem := by simp
  obj := fun i h st b hb => by
    obtain ⟨⟨old, he⟩, ⟨o, ho, hc, hd⟩, _⟩ := st
    have e' : b = e ∨ b = it := by simpa using hb
    rcases e' with z | z
    · rw [z]; exact ⟨_, he, fun v q => nomatch q⟩
    · rw [z]; exact ⟨o, ho, fun v q => by rw [hd] at q; cases q⟩
  keep := fun i h h' st k => let ⟨⟨old, he⟩, hi, hne⟩ := st; ⟨⟨old, k e (by simp) _ he⟩, hi.at fun o q => k it (by simp) o q, hne⟩
  item := by
    intro X hP hw hK hc i pins s σ H E I hf st hg
    subst hP hw hK
    obtain ⟨⟨old, he⟩, hit, hne, hai, hea⟩ := st
    obtain ⟨xs, x, hq, hx⟩ := hg
    obtain ⟨its, rv, p, hz⟩ := I.tuple hq
    obtain ⟨u, hu, ru⟩ := rv.get hx
    have hel : e < s.heap.objs.size := Heap.lt_size he
    have hil : it < s.heap.objs.size := by obtain ⟨_, q, _⟩ := hit; exact Heap.lt_size q
    have hlt : i < its.toArray.size := by
      obtain ⟨z, _⟩ := List.getElem?_eq_some_iff.mp hu
      simpa using z
    refine wpAny_pyNext_enum_itemD (Draws.tuple (A := X.A.in1) (show X.A.in1.handled = none from I.ok.hd hc) it a hai its.toArray) he ⟨hit, p⟩ hlt hne (by simp; exact ⟨hne, hea⟩) fun u' h' tk pu ho hit' hT hsz hk => ?_
    have eu : u' = u := by
      have z : its.toArray[i]? = some u := by simpa using hu
      rw [z] at pu
      exact (Option.some.inj pu).symm
    subst eu
    refine ⟨_, rfl, wpAny_letOwnedTupleGo_enum (s := { s with heap := h', toks := tk + 1 }) ho fun h'' he' sb => ?_⟩
    have hT2 : h''.get? s.heap.objs.size = some { cls := .type "tuple", data := .seq #[.int i tk, u'] } := (sb.2 _ (Nat.ne_of_gt hel)).trans hT
    have new : ObjOk X.prog X.w (upd H s.heap.objs.size (.tup [.int (i : Nat), x])) h'' s.heap.objs.size (.tup [.int (i : Nat), x]) :=
      ⟨by show 2 ≤ sizeLine; decide, [.int i tk, u'], .cons ⟨_, rfl⟩ (.cons ru .nil), ⟨_, hT2, rfl, _, rfl⟩⟩
    have I1 : Inv X pins σ (upd H s.heap.objs.size (.tup [.int (i : Nat), x])) { s with heap := h'', toks := tk + 1 } :=
      I.turnedNew (ch := [e, it]) (fun b ob hb q => (sb.2 b (fun z => hb (by simp [z]))).trans (hk b ob (fun z => hb (by simp [z])) (fun z => hb (by simp [z])) q)) hf (Nat.le_refl _) new
    refine ⟨.ref s.heap.objs.size, _, I1, rfl, ⟨_, x, rfl, I.hok.fresh (Nat.le_refl _), rfl, fun ys hy => by rw [I.tuple_inj hy hq]; exact hx⟩, ⟨⟨u', ?_⟩, hit'.1.at fun o q => (sb.2 it (Ne.symm hne)).trans q, hne, hai, hea⟩, fun b hb => ?_⟩
    · have e1 : ((i + 1 : Nat) : Int) = (i : Int) + 1 := by omega
      rw [e1]; exact he'
    · have hb' : b < s.heap.objs.size := by
        have e' : b = e ∨ b = it := by simpa using hb
        rcases e' with z | z
        · rw [z]; exact hel
        · rw [z]; exact hil
      rw [upd_ne (Nat.ne_of_lt hb')]
      exact (hf b hb).1
  done := by
    intro X hP hw hK hc i pins s σ H E I hf st hg
    subst hP hw hK
    obtain ⟨⟨old, he⟩, hit, hne, hai, hea⟩ := st
    obtain ⟨xs, hq, hx⟩ := hg
    obtain ⟨its, rv, p, hz⟩ := I.tuple hq
    obtain ⟨f0, f1, f2, f3, f4, f5⟩ := hf it (by simp)
    have hl := rv.length
    have en : its.toArray.size = i := by
      rw [List.size_toArray]
      omega
    refine wpAny_pyNext_enum_endD (Draws.tuple (A := X.A.in1) (show X.A.in1.handled = none from I.ok.hd hc) it a hai its.toArray) he ⟨by rw [en]; exact hit, p⟩ fun h' eb => ⟨rfl, I.turned (t' := s.toks) (fun b o hb q => eb b o hb q) f0 f1 f3 f4 f5⟩
  self := fun A i s Q E st h => let ⟨⟨_, he⟩, _⟩ := st; wpAny_pyIter_enum he h
theorem PI.or {X : Cx} {tg iter : Expr} {w1 w2 : TI} (a : PI X tg iter w1) (b : PI X tg iter w2) : PI X tg iter (fun σ H R => w1 σ H R ∨ w2 σ H R) :=
  ⟨fun pins s σ H R I h => h.elim (a.run pins s σ H R I) (b.run pins s σ H R I)⟩
end Gh
end
section
set_option Elab.async false
set_option linter.all false
set_option maxRecDepth 100000
set_option maxHeartbeats 4000000
namespace Gh
open PySem PySem.Spec PyProof.Rows L2
section
variable {X : Cx} {C f : Addr} {r : List V → Hp → VK → Prop}
@[irreducible] def rSetO (C : Addr) (r : List V → Hp → VK → Prop) : TSet := fun o i v H Q => ∃ a dx fs, o = .ref a ∧ H a = some (.ins C dx fs) ∧ r [o, i, v] H fun _ H' => Q H'
@[irreducible] def rIxO (C : Addr) (sp : Sp) (E : XK) : R2 := fun x y H Q => ∃ a dx fs, x = .ref a ∧ H a = some (.ins C dx fs) ∧ sp [x, y] H Q E
end
end Gh
end
section
set_option Elab.async false
set_option linter.all false
set_option maxRecDepth 100000
set_option maxHeartbeats 4000000
namespace Gh
open PySem PySem.Spec PyProof.Rows L2
theorem fnG1 {P : Program} {w : World} {K : PySem.W.Frag} {mg : Str → Option Value} {base : Heap} {CX : CXT} {k : Nat} {f : Addr} {fd : FuncData} {ps : List Str} {sp : Sp} {dvs : List V} {x qual : Str} {params : Arguments} {body : List Stmt} {scope : Scope} {kws : List (Str × V)} {N : List Str}
    (F : FunD K x qual params body scope dvs kws f fd) (S : FnScope N ps scope) (len : ∀ vs H Q E, sp vs H Q E → vs.length = ps.length)
    (hbody : ∀ (cdv : Value) (A : Around) (outer : List Env) (s : Shared) (H : Hp) (vs : List V) (Q : VK) (E : XK), cdv = fd.code → Room k (A.deeper (envOfC qual scope s.heap.objs.size f cdv)) → (A.deeper (envOfC qual scope s.heap.objs.size f cdv)).guards = some [] → sp vs H Q E →
      ∃ t, PSs (cxOf CX P w K mg base N qual scope f cdv A outer s H E).nox body t ∧ t { nx := fun _ H' => Q .non H', rt := Q } (start N vs) H) : FnG P w K mg base CX (k + 1) f fd ps sp := by
  obtain ⟨oc, od, dV, kV, doc, pm, an, cdv, ct, osl, rfl, lk, hcd, _, _⟩ := F.ex
  refine ⟨len, fun A outer s H args us vs Q E hr hg e0 hb r hsp => ?_⟩
  refine LamX.run_ofS (N := N) (ps := ps) lk hcd S hr e0 hb r (len _ _ _ _ hsp) fun hr' => ?_
  obtain ⟨t, ht, q⟩ := hbody cdv A outer s H vs Q E rfl hr' hg hsp
  exact ⟨t, PSs.nox ht, q⟩
theorem codeOf_fn {K : PySem.W.Frag} {x qual : Str} {params : Arguments} {body : List Stmt} {scope : Scope} {dvs : List V} {kws : List (Str × V)} {fd : FuncData} {p : Str × Option Str} (F : FunD K x qual params body scope dvs kws (He.fAd K p) fd) : fd.code = .ref (He.codeOf K p) := by
  obtain ⟨oc, od, dV, kV, doc, pm, an, cdv, ct, osl, rfl, lk, hcd, _, _⟩ := F.ex
  obtain ⟨c, rfl⟩ := He.codeIn_ref hcd
  exact (congrArg Value.ref (He.codeOf_eq lk rfl)).symm
section
variable {K : PySem.W.Frag} {H H' : Hp}
theorem sqL_extN {a : Addr} {xs : List V} (h : SqL K H a xs) (s : LamX.ExtN H H') : SqL K H' a xs := by
  rcases h with (h | ⟨o, h⟩) | h
  · exact .inl (.inl (s _ _ h (fun _ z => by cases z)))
  · exact .inl (.inr ⟨o, s _ _ h (fun _ z => by cases z)⟩)
  · exact .inr h
theorem sqT_extN {a : Addr} {xs : List V} (h : SqT K H a xs) (s : LamX.ExtN H H') : SqT K H' a xs := by
  rcases h with (h | ⟨o, h⟩) | h
  · exact .inl (.inl (s _ _ h (fun _ z => by cases z)))
  · exact .inl (.inr ⟨o, s _ _ h (fun _ z => by cases z)⟩)
  · exact .inr h
mutual
theorem dp_extN (s : LamX.ExtN H H') : ∀ {v : V} {d : PyData}, Dp K H v d → Dp K H' v d
  | _, _, .non => .non
  | _, _, .bl b => .bl b
  | _, _, .int i => .int i
  | _, _, .str x => .str x
  | _, _, .lst h a => .lst (sqL_extN h s) (dpAll_extN s a)
  | _, _, .tup h a => .tup (sqT_extN h s) (dpAll_extN s a)
theorem dpAll_extN (s : LamX.ExtN H H') : ∀ {vs : List V} {ds : List PyData}, DpAll K H vs ds → DpAll K H' vs ds
  | _, _, .nil => .nil
  | _, _, .cons a r => .cons (dp_extN s a) (dpAll_extN s r)
end
theorem Shw.extN {v : V} {t : Str} (h : Shw K H v t) (s : LamX.ExtN H H') : Shw K H' v t := by
  cases h with
  | non => exact .non
  | bl b => exact .bl b
  | int i h => exact .int i h
  | str x h => exact .str x h
  | dp a b c d e => exact .dp (dp_extN s a) b c d e
theorem Kd.extN {v : V} (k : Kd H v) (s : LamX.ExtN H H') : Kd H' v := by
  cases k with
  | non => exact .non
  | bl b => exact .bl b
  | int i => exact .int i
  | str x => exact .str x
  | lst h => exact .lst (s _ _ h (fun _ z => by cases z))
  | tup h => exact .tup (s _ _ h (fun _ z => by cases z))
  | dK h => exact .dK (s _ _ h (fun _ z => by cases z))
theorem PenAt.extN {p : Addr} {b : Nat} (h : PenAt H p b) (s : LamX.ExtN H H') : PenAt H' p b := by
  obtain ⟨c, ns, i, z, h1, h2, r⟩ := h
  exact ⟨c, ns, i, z, s _ _ h1 (fun _ z => by cases z), s _ _ h2 (fun _ z => by cases z), r⟩
end
end Gh
end
section
set_option Elab.async false
set_option linter.all false
set_option maxRecDepth 100000
set_option maxHeartbeats 4000000
namespace Gh
open PySem PySem.Spec PyProof.Rows L2
section
variable {H H' : Hp} {p a l : Addr} {o u : HO}
theorem nw_upd (n : H p = none) : Nw H (upd H p o) p o := ⟨n, same_new n, upd_same⟩
theorem mu_upd : Mu H (upd H p o) p o := ⟨Keep.refl.put, upd_same⟩
theorem same_up (n : L2.Same H H') (h : H a = some u) : H' a = some u := n _ _ h
theorem keep_up (n : Keep H H' p) (e : a ≠ p) (h : H a = some u) : H' a = some u := n _ _ h e
theorem Nw.ne (n : Nw H H' l o) (h : H a = some u) : l ≠ a := fun e => by
  rw [← e, n.no] at h
  cases h
end
section
variable {H H' : Hp} {p c a l : Addr} {o u : HO} {b k : Nat} {xs : List V} {C dx : Addr} {fs : List (Str × V)}
theorem Pen.nw (n : Nw H H' l o) (h : Pen H p c b) : Pen H' p c b := h.same n.same
theorem Pen.mu (n : Mu H H' l o) (e1 : l ≠ p) (e2 : l ≠ c) (h : Pen H p c b) : Pen H' p c b := by
  obtain ⟨ns, i, z, h1, h2, h3⟩ := h
  exact ⟨ns, i, z, n.up e1.symm h1, n.up e2.symm h2, h3⟩
theorem nw_pen (n : Nw H H' l o) (h : Pen H p c b) : l ≠ p := by
  obtain ⟨ns, i, z, h1, h2, h3⟩ := h
  exact n.ne h1
theorem nw_cell (n : Nw H H' l o) (h : Pen H p c b) : l ≠ c := by
  obtain ⟨ns, i, z, h1, h2, h3⟩ := h
  exact n.ne h2
theorem tup_pen (n : H a = some (.tup xs)) (h : Pen H p c b) : a ≠ p := by
  obtain ⟨ns, i, z, h1, h2, h3⟩ := h
  exact ne_of n h1 (by intro e; cases e)
theorem tup_cell (n : H a = some (.tup xs)) (h : Pen H p c b) : a ≠ c := by
  obtain ⟨ns, i, z, h1, h2, h3⟩ := h
  exact ne_of n h2 (by intro e; cases e)
theorem ins_pen (n : H a = some (.ins C dx fs)) (h : Pen H p c b) : a ≠ p := by
  obtain ⟨ns, i, z, h1, h2, h3⟩ := h
  exact ne_of n h1 (by intro e; cases e)
theorem ins_cell (n : H a = some (.ins C dx fs)) (h : Pen H p c b) : a ≠ c := by
  obtain ⟨ns, i, z, h1, h2, h3⟩ := h
  exact ne_of n h2 (by intro e; cases e)
end
section
variable {H H' : Hp} {a t l : Addr} {o u : HO} {xs ys : List V} {C dx : Addr} {fs : List (Str × V)}
theorem ins_lst (h : H a = some (.ins C dx fs)) (k : H t = some (.lst xs)) : a ≠ t := ne_of h k (by intro e; cases e)
theorem ins_tup (h : H a = some (.ins C dx fs)) (k : H t = some (.tup xs)) : a ≠ t := ne_of h k (by intro e; cases e)
theorem tup_lst (h : H a = some (.tup ys)) (k : H t = some (.lst xs)) : a ≠ t := ne_of h k (by intro e; cases e)
theorem nw_ne (n : Nw H H' l o) (h : H a = some u) : l ≠ a := n.ne h
end
def spDr : Sp := fun vs H Q _ => ∃ (p c : Addr) (b : Nat) (m : Int), vs = [.ref p, .int m] ∧ 0 < m ∧ m.natAbs.log2 < 9000 ∧ Pen H p c (b + 1) ∧
  ∀ (d : Int) (H' : Hp), 0 ≤ d → d < m → Pen H' p c b → Keep H H' p → Q (.int d) H'
def spPn (K : PySem.W.Frag) : Sp := fun vs H Q _ => ∃ (a : Addr) (ns : List Int), vs = [.ref a] ∧ SqL K H a (ns.map V.int) ∧ ns.length ≤ 63 ∧ ∀ (p c : Addr) (H' : Hp), H p = none → Pen H' p c 1000000 → L2.Same H H' → Q (.ref p) H'
section
variable {H : Hp} {E : XK} {Q : VK} {p c l : Addr} {b : Nat} {m : Int} {xs : List V}
theorem log_of (h0 : 0 < m) (h : m < 10 ^ 100) : m.natAbs.log2 < 9000 := by
  have h2 : m.natAbs < 2 ^ 9000 := Nat.lt_of_lt_of_le (show m.natAbs < 10 ^ 100 by omega) (by decide)
  exact (Nat.log2_lt (by omega)).mpr h2
end
@[irreducible] def rLn (K : PySem.W.Frag) : List V → Hp → VK → Prop := fun xs H Q => ∃ x n, xs = [x] ∧ LenV K x H n ∧ Q (.int n) H
@[irreducible] def rListOf (K : PySem.W.Frag) : List V → Hp → VK → Prop := fun xs H Q => ∃ p ys, xs = [.ref p] ∧ (SqL K H p ys ∨ SqT K H p ys) ∧ ∀ l, H l = none → Q (.ref l) (upd H l (.lst ys))
@[irreducible] def rTupOf (K : PySem.W.Frag) : List V → Hp → VK → Prop := fun xs H Q => ∃ p ys, xs = [.ref p] ∧ ((SqL K H p ys ∧ ∀ l, H l = none → Q (.ref l) (upd H l (.tup ys))) ∨ (SqT K H p ys ∧ Q (.ref p) H))
@[irreducible] def rInt : List V → Hp → VK → Prop := rInt1
@[irreducible] def rAbs : List V → Hp → VK → Prop := fun xs H Q => ∃ i, xs = [.int i] ∧ Q (.int (if i < 0 then -i else i)) H
@[irreducible] def rIsN : R2 := fun x y H Q => y = .non ∧ Q (.bl (decide (x = .non))) H
@[irreducible] def rNotN : R2 := fun x y H Q => y = .non ∧ Q (.bl (!decide (x = .non))) H
section
variable {X : Cx} {K : PySem.W.Frag}
theorem cr_len (h : X.K = K) : CallR X (.builtin "len") (rLn K) := by unfold rLn; exact h ▸ call_len
theorem cr_listOf (h : X.K = K) : CallR X (.type "list") (rListOf K) := by unfold rListOf; exact h ▸ call_list_of
theorem cr_tupOf (h : X.K = K) : CallR X (.type "tuple") (rTupOf K) := by unfold rTupOf; exact h ▸ call_tuple_of
theorem cr_int : CallR X (.type "int") rInt := by unfold rInt; exact call_int1
theorem cr_abs : CallR X (.builtin "abs") rAbs := by unfold rAbs; exact call_abs
theorem or_isN : OpR X (compareOp .Is) rIsN := by unfold rIsN; exact op_isN
theorem sl_listK (h : X.K = K) : SlR X (rSlL K) := h ▸ sl_list
theorem op_neDK (h : X.K = K) (hu : X.A.units + 64 < cLine) : OpR X (compareOp .NotEq) (rNeD K) := h ▸ op_neD hu
theorem call_isiTK {X : Cx} {K : PySem.W.Frag} (h : X.K = K) : CallR X (.builtin "isinstance") (rIsiT K) := h ▸ call_isiT
@[irreducible] def rFld (C : Addr) (f : Str) : V → Hp → VK → Prop := fun x H Q => ∃ a dx fs v, x = .ref a ∧ H a = some (.ins C dx fs) ∧ fs.lookup f = some v ∧ Q v H
theorem pe_f {C : Addr} {e : Expr} {f : Str} {pos : Pos} {ta : TE} (he : PE X e ta) (c : Cls X.K C) (n : NoAttr X.K C f) (hb : attributeBase e f X.env (eval e X.env) = eval e X.env := by rfl) : PE X (.Attribute e f pos) (tUn (rFld C f) ta) := by
  refine ⟨fun pins s σ H Q I h => ?_⟩
  refine attr_of hb (thn (he.run pins s σ H _ I h) fun u s1 ⟨x, H1, I1, rx, q0⟩ => ?_)
  unfold rFld at q0
  obtain ⟨a, dx, fs, v, ex, ea, l, q⟩ := q0
  subst ex
  obtain rfl : u = Value.ref a := rx
  exact getattr_ok I1 ea c n l fun u' s2 I2 ru => ⟨v, H1, I2, ru, q⟩
@[irreducible] def sF (C : Addr) (ta tv : TE) (f : Str) : TS := fun D σ H => tv σ H fun y H1 => ta σ H1 fun x H2 => ∃ a dx fs, x = .ref a ∧ H2 a = some (.ins C dx fs) ∧ fs.length < 1000 ∧ D.nx σ (upd H2 a (.ins C dx (putF f y fs)))
theorem ps_f {C : Addr} {o value : Expr} {f : Str} {pos pos' : Pos} {ta tv : TE} (ha : PE X o ta) (hv : PE X value tv) (c : Cls X.K C) (n : NoAttr X.K C f) (hs : swapsWith value (some (.Attribute o f pos')) pos.line X.env = pure false := by rfl) : PS X (.Assign [.Attribute o f pos'] value pos) (sF C ta tv f) := by
  refine ⟨fun pins s σ H D I h => ?_⟩
  unfold sF at h
  refine plainObj_wpAny_Assign_Attribute (thn (hv.run pins s σ H _ I h) fun u s1 ⟨y, H1, I1, ry, q⟩ => thn (ha.run pins s1 σ H1 _ I1 q) fun ov s2 ⟨x, H2, I2, rx, a, dx, fs, ex, ea, l, q2⟩ => ?_) hs
  subst ex
  obtain rfl : ov = Value.ref a := rx
  exact setattr_ok I2 ea c n l ry fun s3 I3 => ⟨σ, _, I3, q2⟩
@[irreducible] def rConst (C : Addr) (f : Str) (v : V) : V → Hp → VK → Prop := fun x H Q => ∃ a dx fs, x = .ref a ∧ H a = some (.ins C dx fs) ∧ fs.lookup f = none ∧ Q v H
end
theorem len_ok {n : Nat} (h : n ≤ 100000) : n ≤ sizeLine := Nat.le_trans h (by decide)
@[irreducible] def rPowK (r : Int) : R2 := fun x y H Q => ∃ i j, x = .int i ∧ y = .int j ∧ CPow i j ∧ i ^ j.toNat = r ∧ Q (.int r) H
theorem op_powK {X : Cx} (r : Int) : OpR X (binaryOp .Pow) (rPowK r) := by
  intro pins s σ H x y v u Q I rx ry h
  unfold rPowK at h
  obtain ⟨i, j, h1, h2, h3, h4, q⟩ := h
  exact op_pow pins s σ H x y v u Q I rx ry ⟨i, j, h1, h2, h3, by show Q (.int (i ^ j.toNat)) H; rw [h4]; exact q⟩
section
variable {K : PySem.W.Frag} {H : Hp} {σ : L2.St} {Q : VK} {D : Ends} {i j n : Int} {x y v : V} {ta tb tc te tf : TE} {t u : TS} {c d : TT} {k : Bool} {a l p C dx : Addr} {xs ys : List V} {A B : Prop}
theorem st_seq (h : t { D with nx := u D } σ H) : tSeq t u D σ H := h
theorem st_nx (h : D.nx σ H) : tNext D σ H := h
theorem st_asg {g : TG} (h : te σ H fun x H1 => g x σ H1 D.nx) : tAsg te g D σ H := h
theorem st_name {m : Nat} {Q : L2.St → Hp → Prop} (h : Q (σ.set m (some v)) H) : gName m v σ H Q := h
theorem st_drop (h : te σ H fun _ H1 => D.nx σ H1) : tDrop te D σ H := h
theorem st_ret (h : te σ H D.rt) : tRet te D σ H := h
theorem st_retN (h : D.rt .non H) : tRetN D σ H := h
theorem st_ifS (h : c σ H fun b H1 => if b = true then t D σ H1 else u D σ H1) : tIfS c t u D σ H := h
theorem st_brk (h : D.bk σ H) : tBreak D σ H := h
theorem st_cnt (h : D.ct σ H) : tCont D σ H := h
theorem st_par {m m' : Nat} {t : TA} (h : t σ H fun vs H1 => ∃ v w, vs = [v, w] ∧ D.nx ((σ.set m (some v)).set m' (some w)) H1) : tPar m m' t D σ H := h
theorem st_par2 {P : V → V → Prop} (h : P x y) : ∃ v w, [x, y] = [v, w] ∧ P v w := ⟨x, y, rfl, h⟩
theorem st_aug {m : Nat} {ti : TIp} (e : σ[m]? = some (some x)) (h : te σ H fun y H1 => ti x y H1 fun z H2 => D.nx (σ.set m (some z)) H2) : tAug m te ti D σ H := ⟨x, e, h⟩
theorem st_var {m : Nat} (e : σ[m]? = some (some v)) (h : Q v H) : tVar m σ H Q := ⟨v, e, h⟩
theorem st_c (h : Q v H) : tC v σ H Q := h
theorem st_op {r : R2} (h : ta σ H fun x H1 => tb σ H1 fun y H2 => r x y H2 Q) : tOp r ta tb σ H Q := h
theorem st_un {r : V → Hp → VK → Prop} (h : ta σ H fun x H1 => r x H1 Q) : tUn r ta σ H Q := h
theorem st_rI0 {g : Int → Int → V} (h : Q (g i j) H) : rI0 g (.int i) (.int j) H Q := ⟨i, j, rfl, rfl, h⟩
theorem st_rI {g : Int → Int → V} {R : Int → Int → Prop} (hc : R i j) (h : Q (g i j) H) : rI R g (.int i) (.int j) H Q := ⟨i, j, rfl, rfl, hc, h⟩
theorem st_rU {g : Int → V} (h : Q (g i) H) : rU g (.int i) H Q := ⟨i, rfl, h⟩
theorem st_rAdd (h : Q (.int (i + j)) H) : rAdd (.int i) (.int j) H Q := ⟨i, j, rfl, rfl, h⟩
theorem st_rSub (h : Q (.int (i - j)) H) : rSub (.int i) (.int j) H Q := ⟨i, j, rfl, rfl, h⟩
theorem st_eq (e : scal x y = true) (h : Q (.bl (decide (x = y))) H) : rEq x y H Q := ⟨e, h⟩
theorem st_ne (e : scal x y = true) (h : Q (.bl (!decide (x = y))) H) : rNe x y H Q := ⟨e, h⟩
theorem st_isN (h : Q (.bl (decide (x = .non))) H) : rIsN x .non H Q := by unfold rIsN; exact ⟨rfl, h⟩
theorem st_notN (h : Q (.bl (!decide (x = .non))) H) : rNotN x .non H Q := by unfold rNotN; exact ⟨rfl, h⟩
theorem st_test {Q : Bool → Hp → Prop} (h : te σ H fun x H' => ∃ k, x = .bl k ∧ Q k H') : tTest te σ H Q := h
theorem st_tB {Q : Bool → Hp → Prop} (h : te σ H fun x H' => ∃ k, x = .bl k ∧ Q k H') : tB te σ H Q := h
theorem st_ebl {P : Bool → Prop} (h : P k) : ∃ k', V.bl k = .bl k' ∧ P k' := ⟨k, rfl, h⟩
theorem st_eint {P : Int → Prop} (h : P i) : ∃ k', V.int i = .int k' ∧ P k' := ⟨i, rfl, h⟩
theorem st_and {Q : Bool → Hp → Prop} (h : c σ H fun k H1 => if k = true then d σ H1 Q else Q false H1) : tAnd c d σ H Q := h
theorem st_or {Q : Bool → Hp → Prop} (h : c σ H fun k H1 => if k = true then Q true H1 else d σ H1 Q) : tOr c d σ H Q := h
theorem st_not {Q : Bool → Hp → Prop} (h : c σ H fun k H1 => Q (!k) H1) : tNot c σ H Q := h
theorem st_andV (h : ta σ H fun x H1 => ∃ c, x = .bl c ∧ if c = true then tb σ H1 Q else Q (.bl false) H1) : tAndV ta tb σ H Q := h
theorem st_orV (h : ta σ H fun x H1 => ∃ c, x = .bl c ∧ if c = true then Q (.bl true) H1 else tb σ H1 Q) : tOrV ta tb σ H Q := h
theorem st_notV (h : ta σ H fun x H1 => ∃ c, x = .bl c ∧ Q (.bl (!c)) H1) : tNotV ta σ H Q := h
theorem st_ifE (h : c σ H fun k H1 => if k = true then ta σ H1 Q else tb σ H1 Q) : tIf c ta tb σ H Q := h
theorem st_chain {r r' : R2} (h : ta σ H fun x H1 => tb σ H1 fun y H2 => r x y H2 fun z H3 => ∃ k, z = .bl k ∧ if k = true then tc σ H3 fun w H4 => r' y w H4 Q else Q (.bl false) H3) : tChain r r' ta tb tc σ H Q := h
theorem st_if1 (e : k = true) (h : A) : if k = true then A else B := by rw [if_pos e]; exact h
theorem st_if0 (e : k = false) (h : B) : if k = true then A else B := by rw [e, if_neg (by decide)]; exact h
theorem st_nil {Q : List V → Hp → Prop} (h : Q [] H) : tNil σ H Q := h
theorem st_cons {t : TA} {Q : List V → Hp → Prop} (h : ta σ H fun x H1 => t σ H1 fun xs H2 => Q (x :: xs) H2) : tCons ta t σ H Q := h
theorem st_cl {r : List V → Hp → VK → Prop} {t : TA} (h : t σ H fun vs H1 => r vs H1 Q) : tCl r t σ H Q := h
theorem st_cb {r : List V → Hp → VK → Prop} {t : TA} (h : t σ H fun vs H1 => r vs H1 Q) : tCB r t σ H Q := h
theorem st_mt {m : Str} {r : List V → Hp → VK → Prop} {t : TA} (h : ta σ H fun x H1 => ∃ a dx fs, x = .ref a ∧ H1 a = some (.ins C dx fs) ∧ fs.lookup m = none ∧ t σ H1 fun vs H2 => r (x :: vs) H2 Q) : tMt C m r ta t σ H Q := h
theorem st_emt {m : Str} {fs : List (Str × V)} {P : Prop} (h : H a = some (.ins C dx fs)) (e : fs.lookup m = none) (q : P) : ∃ a' dx fs, V.ref a = .ref a' ∧ H a' = some (.ins C dx fs) ∧ fs.lookup m = none ∧ P := ⟨a, dx, fs, rfl, h, e, q⟩
theorem st_pr {sp : Sp} {dvs : List V} {E : XK} (h : ta σ H fun x H1 => ∃ a dx fs, x = .ref a ∧ H1 a = some (.ins C dx fs) ∧ sp (.ref a :: dvs) H1 Q E) : tPr C sp dvs E ta σ H Q := h
theorem st_epr {fs : List (Str × V)} {sp : Sp} {dvs : List V} {E : XK} (h : H a = some (.ins C dx fs)) (q : rSp sp dvs E [.ref a] H Q) : ∃ a' dx fs, V.ref a = .ref a' ∧ H a' = some (.ins C dx fs) ∧ sp (.ref a' :: dvs) H Q E := ⟨a, dx, fs, rfl, h, q⟩
theorem st_fld {f : Str} {fs : List (Str × V)} (h : H a = some (.ins C dx fs)) (e : fs.lookup f = some v) (q : Q v H) : rFld C f (.ref a) H Q := by unfold rFld; exact ⟨a, dx, fs, v, rfl, h, e, q⟩
theorem st_const {f : Str} {fs : List (Str × V)} (h : H a = some (.ins C dx fs)) (e : fs.lookup f = none) (q : Q v H) : rConst C f v (.ref a) H Q := by unfold rConst; exact ⟨a, dx, fs, rfl, h, e, q⟩
def rSetF (C : Addr) (f : Str) (y x : V) (H : Hp) (P : Hp → Prop) : Prop := ∃ a dx fs, x = .ref a ∧ H a = some (.ins C dx fs) ∧ fs.length < 1000 ∧ P (upd H a (.ins C dx (putF f y fs)))
theorem st_sF {f : Str} (h : te σ H fun y H1 => ta σ H1 fun x H2 => rSetF C f y x H2 fun H3 => D.nx σ H3) : sF C ta te f D σ H := by unfold sF; exact h
theorem st_setF {f : Str} {fs : List (Str × V)} {P : Hp → Prop} (h : H a = some (.ins C dx fs)) (e : fs.length < 1000) (q : ∀ H', Mu H H' a (.ins C dx (putF f y fs)) → P H') : rSetF C f y (.ref a) H P := ⟨a, dx, fs, rfl, h, e, q _ mu_upd⟩
theorem st_powK {r : Int} (h1 : CPow i j) (h2 : i ^ j.toNat = r) (q : Q (.int r) H) : rPowK r (.int i) (.int j) H Q := by unfold rPowK; exact ⟨i, j, rfl, rfl, h1, h2, q⟩
def rNewL (xs : List V) (H : Hp) (Q : VK) : Prop := xs.length ≤ sizeLine ∧ ∀ p, H p = none → Q (.ref p) (upd H p (.lst xs))
def rNewT (xs : List V) (H : Hp) (Q : VK) : Prop := xs.length ≤ sizeLine ∧ ∀ p, H p = none → Q (.ref p) (upd H p (.tup xs))
theorem st_lst {t : TA} (h : t σ H fun xs H1 => rNewL xs H1 Q) : tLst t σ H Q := h
theorem st_tup {t : TA} (h : t σ H fun xs H1 => rNewT xs H1 Q) : tTup t σ H Q := h
theorem st_newL (e : xs.length ≤ sizeLine) (h : ∀ p H', Nw H H' p (.lst xs) → Q (.ref p) H') : rNewL xs H Q := ⟨e, fun p np => h p _ (nw_upd np)⟩
theorem st_newT (e : xs.length ≤ sizeLine) (h : ∀ p H', Nw H H' p (.tup xs) → Q (.ref p) H') : rNewT xs H Q := ⟨e, fun p np => h p _ (nw_upd np)⟩
theorem new_of {o : HO} (h : ∀ p H', Nw H H' p o → Q (.ref p) H') : ∀ p, H p = none → Q (.ref p) (upd H p o) := fun p np => h p _ (nw_upd np)
theorem st_ixL (h : H p = some (.lst xs)) (e : atI xs i = some v) (q : Q v H) : rIxL K (.ref p) (.int i) H Q := ⟨p, xs, i, v, rfl, rfl, SqL.of h, e, q⟩
theorem st_ixLs (h : SqL K H p xs) (e : atI xs i = some v) (q : Q v H) : rIxL K (.ref p) (.int i) H Q := ⟨p, xs, i, v, rfl, rfl, h, e, q⟩
theorem st_ixT (h : H p = some (.tup xs)) (e : atI xs i = some v) (q : Q v H) : rIxT K (.ref p) (.int i) H Q := ⟨p, xs, i, v, rfl, rfl, SqT.of h, e, q⟩
theorem st_ixTs (h : SqT K H p xs) (e : atI xs i = some v) (q : Q v H) : rIxT K (.ref p) (.int i) H Q := ⟨p, xs, i, v, rfl, rfl, h, e, q⟩
theorem st_lenL (h : H p = some (.lst xs)) (q : Q (.int xs.length) H) : rLn K [.ref p] H Q := by unfold rLn; exact ⟨_, _, rfl, .inl ⟨xs, SqL.of h, rfl⟩, q⟩
theorem st_lenT (h : H p = some (.tup xs)) (q : Q (.int xs.length) H) : rLn K [.ref p] H Q := by unfold rLn; exact ⟨_, _, rfl, .inr ⟨xs, SqT.of h, rfl⟩, q⟩
theorem st_lenS {z : Str} (e : z.length ≤ sizeLine) (q : Q (.int z.length) H) : rLn K [.str z] H Q := by unfold rLn; exact ⟨_, _, rfl, ⟨e, rfl⟩, q⟩
theorem st_listL (h : H p = some (.lst xs)) (q : ∀ l H', Nw H H' l (.lst xs) → Q (.ref l) H') : rListOf K [.ref p] H Q := by unfold rListOf; exact ⟨p, xs, rfl, .inl (SqL.of h), new_of q⟩
theorem st_listT (h : H p = some (.tup xs)) (q : ∀ l H', Nw H H' l (.lst xs) → Q (.ref l) H') : rListOf K [.ref p] H Q := by unfold rListOf; exact ⟨p, xs, rfl, .inr (SqT.of h), new_of q⟩
theorem st_tupL (h : H p = some (.lst xs)) (q : ∀ l H', Nw H H' l (.tup xs) → Q (.ref l) H') : rTupOf K [.ref p] H Q := by unfold rTupOf; exact ⟨p, xs, rfl, .inl ⟨SqL.of h, new_of q⟩⟩
theorem st_tupT (h : H p = some (.tup xs)) (q : Q (.ref p) H) : rTupOf K [.ref p] H Q := by unfold rTupOf; exact ⟨p, xs, rfl, .inr ⟨SqT.of h, q⟩⟩
theorem st_int (q : Q (.int i) H) : rInt [.int i] H Q := by unfold rInt; exact .inl ⟨i, rfl, q⟩
theorem st_intB (q : Q (.int (if k = true then 1 else 0)) H) : rInt [.bl k] H Q := by unfold rInt; exact .inr ⟨k, rfl, q⟩
theorem st_abs (q : Q (.int (if i < 0 then -i else i)) H) : rAbs [.int i] H Q := by unfold rAbs; exact ⟨i, rfl, q⟩
theorem st_sl {r : V → Option Int → Option Int → Hp → VK → Prop} {tl th : TO} (h : te σ H fun x H1 => tl σ H1 fun l H2 => th σ H2 fun u H3 => r x l u H3 Q) : tSl r te tl th σ H Q := h
theorem st_part {Q : Option Int → Hp → Prop} (h : te σ H fun x H1 => ∃ i, x = .int i ∧ Q (some i) H1) : tPart te σ H Q := h
theorem st_nopart {Q : Option Int → Hp → Prop} (h : Q none H) : tNoPart σ H Q := h
theorem st_slL {lo hi : Option Int} (h : H p = some (.lst xs)) (q : ∀ l H', Nw H H' l (.lst (cutV xs lo hi)) → Q (.ref l) H') : rSlL K (.ref p) lo hi H Q := ⟨p, xs, rfl, SqL.of h, new_of q⟩
theorem st_slLs {lo hi : Option Int} (h : SqL K H p xs) (q : ∀ l H', Nw H H' l (.lst (cutV xs lo hi)) → Q (.ref l) H') : rSlL K (.ref p) lo hi H Q := ⟨p, xs, rfl, h, new_of q⟩
theorem st_cat (h : H l = some (.lst xs)) (h' : H p = some (.lst ys)) (e : xs.length + ys.length ≤ sizeLine) (q : ∀ a H', Nw H H' a (.lst (xs ++ ys)) → Q (.ref a) H') : rCat (.ref l) (.ref p) H Q := ⟨l, p, xs, ys, rfl, rfl, h, h', e, new_of q⟩
theorem st_bm {T : String} {r : V → List V → Hp → VK → Prop} {t : TA} (h : te σ H fun x H1 => tyV K T x H1 ∧ t σ H1 fun xs H2 => r x xs H2 Q) : tBM K T r te t σ H Q := h
theorem st_bm0 {T : String} {r : V → List V → Hp → VK → Prop} (h : te σ H fun x H1 => tyV K T x H1 ∧ r x [] H1 Q) : tBM0 K T r te σ H Q := h
theorem st_tyL {P : Prop} (h : H p = some (.lst xs)) (q : P) : tyV K "list" (.ref p) H ∧ P := ⟨.inl ⟨rfl, xs, SqL.of h⟩, q⟩
theorem st_tyS {z : Str} {P : Prop} (q : P) : tyV K "str" (.str z) H ∧ P := ⟨rfl, q⟩
theorem st_gsub {to ti : TE} {ts : TSet} {Q : L2.St → Hp → Prop} (h : to σ H fun o H1 => ti σ H1 fun i H2 => ts o i v H2 fun H3 => Q σ H3) : gSub to ti ts v σ H Q := h
theorem st_setL {m : Nat} {Q : Hp → Prop} (h : H p = some (.lst xs)) (e : ixN xs.length i = some m) (q : ∀ H', Mu H H' p (.lst (xs.set m v)) → Q H') : rSetL (.ref p) (.int i) v H Q := ⟨p, xs, i, m, rfl, rfl, h, e, q _ mu_upd⟩
theorem st_neD {d e : PyData} (h1 : Dp K H x d) (h2 : Dp K H y e) (h3 : SeqAt.shaped d = true) (h4 : SeqAt.shaped e = true) (q : Q (.bl (!PyData.eqv d e)) H) : rNeD K x y H Q := ⟨d, e, h1, h2, h3, h4, q⟩
theorem st_gtup {m : Nat} {g : TGs} {Q : L2.St → Hp → Prop} (h : H a = some (.tup xs)) (e : xs.length = m) (q : g xs σ H Q) : gTup K m g (.ref a) σ H Q := ⟨a, xs, rfl, SqT.of h, e, q⟩
theorem st_gcons {g : TG} {gs : TGs} {Q : L2.St → Hp → Prop} (h : g v σ H fun σ' H' => gs xs σ' H' Q) : gCons g gs (v :: xs) σ H Q := ⟨v, xs, rfl, h⟩
theorem st_gnil {Q : L2.St → Hp → Prop} (h : Q σ H) : gNil [] σ H Q := ⟨rfl, h⟩
theorem st_list {R : It → Hp → Prop} (h : te σ H fun x H1 => ∃ a, x = .ref a ∧ (∃ xs, SqL K H1 a xs) ∧ R (Itl K a) H1) : iList K te σ H R := h
theorem st_elist {P : Addr → Prop} (h : H a = some (.lst xs)) (q : P a) : ∃ a', V.ref a = .ref a' ∧ (∃ xs, SqL K H a' xs) ∧ P a' := ⟨a, rfl, ⟨xs, SqL.of h⟩, q⟩
theorem st_itup {R : It → Hp → Prop} (h : te σ H fun x H1 => ∃ a, x = .ref a ∧ (∃ xs, SqT K H1 a xs) ∧ R (Itt K a) H1) : iTup K te σ H R := h
theorem st_eitup {P : Addr → Prop} (h : H a = some (.tup xs)) (q : P a) : ∃ a', V.ref a = .ref a' ∧ (∃ xs, SqT K H a' xs) ∧ P a' := ⟨a, rfl, ⟨xs, SqT.of h⟩, q⟩
end
end Gh
end
section
set_option Elab.async false
set_option linter.all false
set_option maxRecDepth 100000
set_option maxHeartbeats 4000000
namespace Gh
open PySem PySem.Spec PyProof.Rows L2
section
variable {X : Cx} {a b c d : Expr} {ta tb tc td : TE} {pos : Pos}
def tChain3 (r r' r2 : R2) (ta tb tc td : TE) : TE := fun σ H Q => ta σ H fun x H1 => tb σ H1 fun y H2 => r x y H2 fun z H3 => ∃ k, z = .bl k ∧
  (if k = true then tc σ H3 fun w H4 => r' y w H4 fun z' H5 => ∃ k', z' = .bl k' ∧ (if k' = true then td σ H5 fun v H6 => r2 w v H6 Q else Q (.bl false) H5) else Q (.bl false) H3)
theorem st_chain3 {σ : L2.St} {H : Hp} {Q : VK} {r r' r2 : R2} (h : ta σ H fun x H1 => tb σ H1 fun y H2 => r x y H2 fun z H3 => ∃ k, z = .bl k ∧
  (if k = true then tc σ H3 fun w H4 => r' y w H4 fun z' H5 => ∃ k', z' = .bl k' ∧ (if k' = true then td σ H5 fun v H6 => r2 w v H6 Q else Q (.bl false) H5) else Q (.bl false) H3)) : tChain3 r r' r2 ta tb tc td σ H Q := h
def gSl (to tl th : TE) : TG := fun v σ H Q => to σ H fun x H1 => tl σ H1 fun lo H2 => th σ H2 fun hi H3 => ∃ (l m : Addr) (i j : Int) (xs ys : List V), x = .ref l ∧ v = .ref m ∧ lo = .int i ∧ hi = .int j ∧ H3 l = some (.lst xs) ∧ H3 m = some (.lst ys) ∧ l ≠ m ∧ 0 ≤ i ∧ i ≤ j ∧ j ≤ xs.length ∧ xs.length + ys.length ≤ sizeLine ∧
  Q σ (upd H3 l (.lst (xs.take i.toNat ++ ys ++ xs.drop j.toNat)))
def rSlS (v x lo hi : V) (H : Hp) (P : Hp → Prop) : Prop := ∃ (l m : Addr) (i j : Int) (xs ys : List V), x = .ref l ∧ v = .ref m ∧ lo = .int i ∧ hi = .int j ∧ H l = some (.lst xs) ∧ H m = some (.lst ys) ∧ l ≠ m ∧ 0 ≤ i ∧ i ≤ j ∧ j ≤ xs.length ∧ xs.length + ys.length ≤ sizeLine ∧ P (upd H l (.lst (xs.take i.toNat ++ ys ++ xs.drop j.toNat)))
theorem st_gsl {σ : L2.St} {H : Hp} {v : V} {Q : L2.St → Hp → Prop} {to tl th : TE} (h : to σ H fun x H1 => tl σ H1 fun lo H2 => th σ H2 fun hi H3 => rSlS v x lo hi H3 fun H4 => Q σ H4) : gSl to tl th v σ H Q := h
end
section
variable {K : PySem.W.Frag} {x qual : Str} {params : Arguments} {body : List Stmt} {scope : Scope} {dvs : List V} {kws : List (Str × V)} {f : Addr} {fd : FuncData} {ps : List Str}
end
section
variable {X : Cx} {CX : CXT} {k n : Nat} {f C : Addr} {ks : List Str} {sp : Sp} {E : XK} {x m : Str} {p pos apos : Pos} {e o : Expr} {es : List Expr} {kws : List Keyword} {t tk : TA} {ta : TE} {gV : List V → List V → List V} {r : List V → List V → Hp → VK → Prop}
def rMkK (C : Addr) (n m : Nat) (gV : List V → List V → List V) (sp : Sp) (E : XK) : List V → List V → Hp → VK → Prop := fun vs zs H Q => vs.length = n ∧ zs.length = m ∧ rMk C (fun us H Q E => sp us H Q E) [] E (gV vs zs) H Q
theorem PromK.make (M : Mk X.K C f) (F : PromK X.prog X.w X.K X.mg X.base CX k f (n + 1) ks (fun vs zs => vs ++ gV [] zs) sp) (hr : Room (k + 1) X.A) (hx : Passes CX X E) : CallK X (.ref C) ks (rMkK C n ks.length (fun vs zs => vs ++ gV [] zs) sp E) := by
  intro pins s σ H vs zs us ws Q I rv rz ⟨l1, l2, h⟩
  obtain ⟨fd, ps, g, G, b⟩ := F
  refine run_makeN M G hr b hx I rv rz l1 l2 fun x dx nx ndx ne => ?_
  unfold rMk at h
  have z := h x dx nx ndx ne
  rw [List.append_nil] at z
  exact z
def tClK (r : List V → List V → Hp → VK → Prop) (t tk : TA) : TE := fun σ H Q => t σ H fun vs H1 => tk σ H1 fun zs H2 => r vs zs H2 Q
def tMtK (C : Addr) (m : Str) (r : List V → List V → Hp → VK → Prop) (ta : TE) (t tk : TA) : TE := fun σ H Q => ta σ H fun x H1 => ∃ a dx fs, x = .ref a ∧ H1 a = some (.ins C dx fs) ∧ fs.lookup m = none ∧ t σ H1 fun vs H2 => tk σ H2 fun zs H3 => r (x :: vs) zs H3 Q
end
section
variable {H : Hp} {σ : L2.St} {Q : VK} {ta : TE} {t tk : TA} {r : List V → List V → Hp → VK → Prop} {C : Addr} {m : Str} {n k : Nat} {gV : List V → List V → List V} {sp : Sp} {E : XK} {vs zs : List V}
theorem st_clK (h : t σ H fun vs H1 => tk σ H1 fun zs H2 => r vs zs H2 Q) : tClK r t tk σ H Q := h
theorem st_mtK (h : ta σ H fun x H1 => ∃ a dx fs, x = .ref a ∧ H1 a = some (.ins C dx fs) ∧ fs.lookup m = none ∧ t σ H1 fun vs H2 => tk σ H2 fun zs H3 => r (x :: vs) zs H3 Q) : tMtK C m r ta t tk σ H Q := h
theorem st_spK (h1 : vs.length = n) (h2 : zs.length = k) (h : rSp sp [] E (gV vs zs) H Q) : rSpK n k gV sp E vs zs H Q := ⟨h1, h2, by
  unfold rSp at h
  rw [List.append_nil] at h
  exact h⟩
end
end Gh
end
section
set_option Elab.async false
set_option linter.all false
set_option maxRecDepth 100000
set_option maxHeartbeats 4000000
namespace Gh
open PySem PySem.Spec PyProof.Rows L2
theorem FnAll.each {n b : Nat} : ∀ {ds : List PyData}, (∀ d ∈ ds, Fn d n b) → FnAll ds n ((b + 1) * ds.length)
  | [], _ => FnAll.nil
  | d :: r, h => by
    have z := FnAll.cons (h d List.mem_cons_self) (FnAll.each fun e he => h e (List.mem_cons_of_mem _ he))
    have e : b + 1 + (b + 1) * r.length = (b + 1) * (d :: r).length := by
      rw [List.length_cons, Nat.mul_add, Nat.mul_one, Nat.add_comm]
    rw [e] at z
    exact z
theorem FnAll.ints {ns : List Int} (h : ∀ n ∈ ns, -(10 ^ 100) < n ∧ n < 10 ^ 100) : FnAll (ns.map PyData.int) 0 ns.length := by
  have z := FnAll.each (n := 0) (b := 0) (ds := ns.map PyData.int) fun d hd => by
    obtain ⟨n, hn, rfl⟩ := List.mem_map.mp hd
    exact Fn.int (h n hn).1 (h n hn).2
  rw [List.length_map, Nat.zero_add, Nat.one_mul] at z
  exact z
theorem Fn.shaped {d : PyData} {n b : Nat} (h : Fn d n b) (hn : n ≤ 64) : SeqAt.shaped d = true := by
  unfold SeqAt.shaped
  rw [h.cl, decide_eq_true (Nat.le_trans h.dp hn)] <;> rfl
theorem Fn.eqv {d : PyData} {n b : Nat} (h : Fn d n b) : PyData.eqv d d = true := SeqAt.eqv_refl d h.cl
section
variable {K : PySem.W.Frag} {H : Hp} {a : Addr} {ns : List Int}
end
section
variable {H H' : Hp} {a l p c : Addr} {u : HO} {b : Nat}
theorem none_ne (n : H l = none) (h : H a = some u) : l ≠ a := fun e => by
  rw [← e, n] at h
  cases h
theorem none_pen (n : H l = none) (h : Pen H p c b) : l ≠ p := by
  obtain ⟨ns, i, z, h1, h2, h3⟩ := h
  exact none_ne n h1
theorem none_cell (n : H l = none) (h : Pen H p c b) : l ≠ c := by
  obtain ⟨ns, i, z, h1, h2, h3⟩ := h
  exact none_ne n h2
def Keep2 (H H' : Hp) (p t : Addr) : Prop := ∀ a o, H a = some o → a ≠ p → a ≠ t → H' a = some o
theorem keep2_up {t : Addr} (n : Keep2 H H' p t) (e : a ≠ p) (e' : a ≠ t) (h : H a = some u) : H' a = some u := n _ _ h e e'
theorem st_setO {C dx : Addr} {fs : List (Str × V)} {r : List V → Hp → VK → Prop} {i v : V} {Q : Hp → Prop} (h : H a = some (.ins C dx fs)) (q : r [.ref a, i, v] H fun _ H' => Q H') : rSetO C r (.ref a) i v H Q := by
  unfold rSetO
  exact ⟨a, dx, fs, rfl, h, q⟩
theorem st_ixO {C dx : Addr} {fs : List (Str × V)} {sp : Sp} {E : XK} {y : V} {Q : VK} (h : H a = some (.ins C dx fs)) (q : rSp sp [] E [.ref a, y] H Q) : rIxO C sp E (.ref a) y H Q := by
  unfold rIxO
  exact ⟨a, dx, fs, rfl, h, q⟩
end
section
variable {K : PySem.W.Frag} {H : Hp} {σ : L2.St} {Q : VK} {m : Nat} {tt : TT} {te tl : TE} {vs : List Nat} {t : TA} {a : Addr} {xs : List V}
def rLc (J : It) (m : Nat) (tt : TT) (te : TE) (vs : List Nat) (σ : L2.St) (H : Hp) (Q : VK) : Prop := ∀ D, H D = none → ∃ W : Nat → Nat → Hp → Prop, (∃ k, W 0 k (upd H D (.lst []))) ∧ ∀ i k H, W i k H →
  (J.stop i H ∧ Q (.ref D) H) ∨ (J.go i H ∧ ∃ Nx : Hp → Prop, (∀ H', Nx H' → ∃ k', k' < k ∧ W (i + 1) k' H') ∧ ∀ x H', J.yld i H x H' → gName m x (wipe σ vs) H' fun σ2 H2 => wipe σ2 vs = wipe σ vs ∧ tt σ2 H2 fun b H3 =>
    if b = true then te σ2 H3 fun y H4 => ∃ acc, H4 D = some (.lst acc) ∧ acc.length < sizeLine ∧ Nx (upd H4 D (.lst (acc ++ [y]))) else Nx H3)
theorem st_lcR1 (h : t σ H fun us H1 => ∃ j : Int, us = [.int j] ∧ -(2 ^ 62) ≤ j ∧ j < 2 ^ 62 ∧ rLc (Itr 0 j.toNat) m tt te vs σ H1 Q) : tLc (iRng1 t) (gName m) tt te vs σ H Q := h
theorem st_lcR2 (h : t σ H fun us H1 => ∃ i j : Int, us = [.int i, .int j] ∧ (-(2 ^ 62) ≤ i ∧ i < 2 ^ 62 ∧ -(2 ^ 62) ≤ j ∧ j < 2 ^ 62) ∧ rLc (Itr i (j - i).toNat) m tt te vs σ H1 Q) : tLc (iRng2 t) (gName m) tt te vs σ H Q := h
theorem st_lcL (h : tl σ H fun x H1 => ∃ a, x = .ref a ∧ (∃ xs, SqL K H1 a xs) ∧ rLc (Itl K a) m tt te vs σ H1 Q) : tLc (iList K tl) (gName m) tt te vs σ H Q := h
theorem st_lcT (h : tl σ H fun x H1 => ∃ a, x = .ref a ∧ (∃ xs, SqT K H1 a xs) ∧ rLc (Itt K a) m tt te vs σ H1 Q) : tLc (iTup K tl) (gName m) tt te vs σ H Q := h
theorem st_eR1 {j : Int} {P : Int → Prop} (h0 : -(2 ^ 62) ≤ j) (h1 : j < 2 ^ 62) (h : P j) : ∃ j', [V.int j] = [.int j'] ∧ -(2 ^ 62) ≤ j' ∧ j' < 2 ^ 62 ∧ P j' := ⟨j, rfl, h0, h1, h⟩
theorem st_eR2 {i j : Int} {P : Int → Int → Prop} (h0 : -(2 ^ 62) ≤ i ∧ i < 2 ^ 62 ∧ -(2 ^ 62) ≤ j ∧ j < 2 ^ 62) (h : P i j) : ∃ i' j', [V.int i, V.int j] = [.int i', .int j'] ∧ (-(2 ^ 62) ≤ i' ∧ i' < 2 ^ 62 ∧ -(2 ^ 62) ≤ j' ∧ j' < 2 ^ 62) ∧ P i' j' := ⟨i, j, rfl, h0, h⟩
theorem st_yes {Q : Bool → Hp → Prop} (h : Q true H) : tYes σ H Q := h
end
section
variable {H H' : Hp} {a l p c : Addr} {u : HO} {b : Nat}
theorem nw_pen' {H0 : Hp} {b0 : Nat} {o : HO} (_ : Pen H0 p c b0) (n : Nw H H' l o) (h : Pen H p c b) : l ≠ p := nw_pen n h
theorem nw_cell' {H0 : Hp} {b0 : Nat} {o : HO} (_ : Pen H0 p c b0) (n : Nw H H' l o) (h : Pen H p c b) : l ≠ c := nw_cell n h
theorem none_pen' {H0 : Hp} {b0 : Nat} (_ : Pen H0 p c b0) (n : H l = none) (h : Pen H p c b) : l ≠ p := none_pen n h
theorem none_cell' {H0 : Hp} {b0 : Nat} (_ : Pen H0 p c b0) (n : H l = none) (h : Pen H p c b) : l ≠ c := none_cell n h
theorem tup_pen' {H0 : Hp} {b0 : Nat} {xs : List V} (_ : Pen H0 p c b0) (n : H l = some (.tup xs)) (h : Pen H p c b) : l ≠ p := tup_pen n h
theorem tup_cell' {H0 : Hp} {b0 : Nat} {xs : List V} (_ : Pen H0 p c b0) (n : H l = some (.tup xs)) (h : Pen H p c b) : l ≠ c := tup_cell n h
theorem ins_pen' {H0 : Hp} {b0 : Nat} {C dx : Addr} {fs : List (Str × V)} (_ : Pen H0 p c b0) (n : H l = some (.ins C dx fs)) (h : Pen H p c b) : l ≠ p := ins_pen n h
theorem ins_cell' {H0 : Hp} {b0 : Nat} {C dx : Addr} {fs : List (Str × V)} (_ : Pen H0 p c b0) (n : H l = some (.ins C dx fs)) (h : Pen H p c b) : l ≠ c := ins_cell n h
end
section
variable {K : PySem.W.Frag} {H : Hp} {σ : L2.St} {D : Ends} {m : Nat} {g : TG} {tb : TS} {tl : TE} {t : TA} {a : Addr} {xs : List V}
def rFor (J : It) (g : TG) (tb : TS) (D : Ends) (σ : L2.St) (H : Hp) : Prop := ∃ W : Nat → Nat → L2.St → Hp → Prop, (∃ m, W 0 m σ H) ∧ ∀ i m σ H, W i m σ H →
  (J.stop i H ∧ D.nx σ H) ∨ (J.go i H ∧ ∃ N : L2.St → Hp → Prop, (∀ σ' H', N σ' H' → ∃ m', m' < m ∧ W (i + 1) m' σ' H') ∧ ∀ x H', J.yld i H x H' → g x σ H' fun σ2 H2 => tb { D with nx := N, ct := N, bk := D.nx } σ2 H2)
theorem st_forR1 (h : t σ H fun us H1 => ∃ j : Int, us = [.int j] ∧ -(2 ^ 62) ≤ j ∧ j < 2 ^ 62 ∧ rFor (Itr 0 j.toNat) g tb D σ H1) : tFor (iRng1 t) g tb D σ H := h
theorem st_forR2 (h : t σ H fun us H1 => ∃ i j : Int, us = [.int i, .int j] ∧ (-(2 ^ 62) ≤ i ∧ i < 2 ^ 62 ∧ -(2 ^ 62) ≤ j ∧ j < 2 ^ 62) ∧ rFor (Itr i (j - i).toNat) g tb D σ H1) : tFor (iRng2 t) g tb D σ H := h
theorem st_forL (h : tl σ H fun x H1 => ∃ a, x = .ref a ∧ (∃ xs, SqL K H1 a xs) ∧ rFor (Itl K a) g tb D σ H1) : tFor (iList K tl) g tb D σ H := h
theorem st_forT (h : tl σ H fun x H1 => ∃ a, x = .ref a ∧ (∃ xs, SqT K H1 a xs) ∧ rFor (Itt K a) g tb D σ H1) : tFor (iTup K tl) g tb D σ H := h
theorem st_forE (h : t σ H fun us H1 => ∃ a xs, us = [.ref a] ∧ SqL K H1 a xs ∧ rFor (Ite K a) g tb D σ H1) : tFor (iEnum K t) g tb D σ H := h
theorem st_eE {P : Addr → Prop} (h : H a = some (.lst xs)) (q : P a) : ∃ a' xs, [V.ref a] = [.ref a'] ∧ SqL K H a' xs ∧ P a' := ⟨a, xs, rfl, SqL.of h, q⟩
end
section
end
end Gh
end
section
set_option Elab.async false
set_option linter.all false
set_option maxRecDepth 100000
set_option maxHeartbeats 4000000
namespace Gh
open PySem PySem.Spec PyProof.Rows L2
section
variable {H H' : Hp} {a l p c t : Addr} {o u : HO} {b : Nat} {xs : List V} {T : List (Addr × Str)} {C dx : Addr} {fs : List (Str × V)}
theorem Pen.extN (n : LamX.ExtN H H') (h : Pen H p c b) : Pen H' p c b := by
  obtain ⟨ns, i, z, h1, h2, h3⟩ := h
  exact ⟨ns, i, z, n _ _ h1 (fun _ z => by cases z), n _ _ h2 (fun _ z => by cases z), h3⟩
theorem tabs_of (h : LamX.Tabs T H) (k1 : ∀ a ps, H a = some (.tbl ps) → H' a = some (.tbl ps)) (k2 : ∀ a c q, H a = some (LamX.CodeO c q) → H' a = some (LamX.CodeO c q)) : LamX.Tabs T H' := fun q hq => by
  obtain ⟨ps, h1, h2, h3⟩ := h q hq
  refine ⟨ps, k1 _ _ h1, h2, fun pos cv hc => ?_⟩
  obtain ⟨c', e1, e2⟩ := h3 pos cv hc
  exact ⟨c', e1, k2 _ _ _ e2⟩
theorem tabs_keepL (n : Keep H H' l) (e : H l = some (.lst xs)) (h : LamX.Tabs T H) : LamX.Tabs T H' :=
  tabs_of h (fun a ps q => n _ _ q (ne_of q e (by intro z; cases z))) (fun a c q z => n _ _ z (ne_of z e (by intro y; unfold LamX.CodeO at y; cases y)))
theorem tabs_keepP (n : Keep H H' p) (pn : Pen H p c b) (h : LamX.Tabs T H) : LamX.Tabs T H' := by
  obtain ⟨ns, i, z, h1, h2, h3⟩ := pn
  exact tabs_keepL n h1 h
theorem tabs_muI (n : Mu H H' l o) (e : H l = some (.ins C dx fs)) (h : LamX.Tabs T H) : LamX.Tabs T H' :=
  tabs_of h (fun a ps q => n.up (ne_of q e (by intro z; cases z)) q) (fun a c q z => n.up (ne_of z e (by intro y; unfold LamX.CodeO at y; cases y)) z)
theorem keep_fr (n : Keep H H' p) : Fr H H' p := fun a o h e _ => n a o h e
theorem ext_fr (n : LamX.ExtN H H') : Fr H H' p := fun a o h _ z => n a o h z
end
section
variable {X : Cx} {H : Hp} {σ : L2.St} {Q : VK} {T : List (Addr × Str)} {TT : (XK → Hp → VK → Prop) → Hp → VK → Prop} {t : XK → TE}
def tAct (f c' : Addr) (q : Str) (tl : Hp → VK → Prop) : TE := fun σ H Q => σ[0]? = some (some (.ref f)) ∧ H c' = some (LamX.CodeO c' q) ∧ tl H Q
theorem takes_len {W : WX} (t : Takes X W) : Takes X (fun c d σ H => σ.length = X.N.length → W c d σ H) := fun u s' ⟨a, B, sI, pins, σ, H, cls, d, e, I, nb, up, sky, na, os, ag, w⟩ =>
  t u s' ⟨a, B, sI, pins, σ, H, cls, d, e, I, nb, up, sky, na, os, ag, w I.len⟩
def tTry (n : Nat) (body : XK → TS) : WX → TS := fun W D σ H => ∃ E : XK, (∀ cls d σ' H', E cls d H' → σ'.length = n → W cls d σ' H') ∧ body E D σ H
theorem try_act {W : WX} {st : List Stmt} {body : XK → TS} (n : Nat) (hn : X.N.length = n) (tk : Takes X W) (h : ∀ E : XK, (∃ W' : WX, Takes X W' ∧ ∀ cls d σ' H', E cls d H' → W' cls d σ' H') → PSs X st (body E)) : PSs X st (tTry n body W) := by
  refine ⟨fun pins s σ H D I h' => ?_⟩
  obtain ⟨E, hW, h1⟩ := h'
  refine (h E ⟨_, takes_len tk, fun cls d σ' H' e l => hW cls d σ' H' e (l.trans hn)⟩).run pins s σ H D I h1
end
end Gh
end
section
set_option Elab.async false
set_option linter.all false
set_option maxRecDepth 100000
set_option maxHeartbeats 4000000
namespace Gh
open PySem PySem.Spec PyProof.Rows L2
section
variable {X : Cx} {CX : CXT} {k : Nat} {C f : Addr} {sp : Sp} {E : XK} {r : List V → Hp → VK → Prop}
theorem promO_in1 {pins : List (Addr × Obj)} {s : Shared} {σ : L2.St} {H : Hp} {vs : List V} {us : List Value} {Q : VK} (F : PromOX X CX k f [] sp) (hr : Room (k + 1) X.A) (hx : Passes CX X E) (I : Inv X pins σ H s) (rv : Vals vs us) (h : sp vs H Q E) :
    wpAny (model X.prog X.w) X.A.in1 (call (.ref f) us) (EP X pins σ Q) X.xe s := by
  refine wpAny_call (codeAny_mono ((PromO.raw F) X.A.in1 X.stack s H us vs Q E hr.in1 I.env0.in1 rv h) fun r s' hq => ?_)
  cases r with
  | error e => exact hx pins σ H s e s' I hq
  | ok fl =>
    cases fl with
    | ret u => exact I.after hq
    | next => exact False.elim hq
    | brk => exact False.elim hq
    | cont => exact False.elim hq
@[irreducible] def rEqO (K : PySem.W.Frag) (C : Addr) (r : List V → Hp → VK → Prop) : R2 := fun x y H Q => ∃ a dx fs tb, x = .ref a ∧ H a = some (.ins C dx fs) ∧ TyX K H y tb ∧ PySem.W.notFirst K C tb = true ∧ r [x, y] H Q
theorem op_eqO {K : PySem.W.Frag} (hK : X.K = K) (hm : Meth X.K C "__eq__" f) (hu : X.A.units < cLine) (R : CallR X (.ref f) r) : OpR X (compareOp .Eq) (rEqO K C r) := by
  subst hK
  intro pins s σ H x y v u Q I rx ry h
  unfold rEqO at h
  obtain ⟨a, dx, fs, tb, rfl, ha, ty, hn, q⟩ := h
  cases (show v = Value.ref a from rx)
  obtain ⟨ox, od, J⟩ := ins_look I ha
  obtain ⟨m, hF⟩ := I.fr
  obtain ⟨P, Z, p, hx⟩ := kit_of I ry ty
  refine PySem.W.cmp_K (op := .Eq) (tb := tb) hu hF I.ok.mod.kin J (Z.ty _ _ I.kIn p) hn hm.at_ hm.fn ?_
  exact wpAny_mono (R pins s σ H [.ref a, y] [.ref a, u] Q I (.cons rfl (.cons ry .nil)) q) (fun w s' z => cmp_back z) fun _ _ x => x
structure NfT (K : PySem.W.Frag) (C : Addr) : Prop where
  ok : ∀ n ∈ (["NoneType", "bool", "int", "str", "list", "tuple", "dict"] : List String), PySem.W.notFirst K C (.type n) = true
  me : PySem.W.notFirst K C (.ref C) = true
theorem nfB_ok {x : Str} {K : PySem.W.Frag} (h : nfB x K = true) : NfT K (gd x K) := ⟨fun n hn => List.all_eq_true.mp h n hn, by
  unfold PySem.W.notFirst
  simp⟩
end
end Gh
end
section
set_option Elab.async false
set_option linter.all false
set_option maxRecDepth 100000
set_option maxHeartbeats 4000000
namespace Gh
open PySem PySem.Spec PyProof.Rows L2
section
variable {prog : Program} {w : World} {A : Around} {E : Value → Shared → Prop} {s : Shared} {K : PySem.W.Frag} {x C f L : Addr} {h₀ : Heap} {m : Str → Option Value} {ox : Obj} {od : Option Obj} {b tb : Value}
open PySem.W in
theorem ifBoundB_K {M : Model} {name : Str} {id : String} {args : List Value} {Q : Option Value → Shared → Prop} (X : K.In s.heap) (I : InstAt s.heap x ox C od) (hs : findIn K (.ref C) name = some (some (.builtin id))) (hb : ∀ self, bindSpecial (.builtin id) self = pure (.builtin id, [self]))
    (h : wpAny M A (call (.builtin id) (.ref x :: args)) (fun v => Q (some v)) E s) : wpAny M A (callSpecialIfBound? (.ref x) name args) Q E s := by
  simp only [callSpecialIfBound?, bindSpecialIfBound?]
  refine wpAny_holding (wpAny_bind (wpAny_bind (wpAny_bind (I.type.here ((looks_findIn X hs).here ?_)))))
  refine wpAny_bind (wpAny_askSetting (wpAny_ite ?_))
  have fin : wpAny M A (call (.builtin id) ([.ref x] ++ args) >>= fun v => pure (some v)) Q E s := wpAny_bind (wpAny_mono h (fun v s' h' => wpAny_pure h') fun _ _ h' => h')
  simp only [hb]
  split
  · exact wpAny_bind (wpAny_pure (wpAny_pure fin))
  · exact wpAny_tryCatch (wpAny_bind (wpAny_pure (wpAny_pure fin)))
open PySem.W in
theorem ne_K {Q : Value → Shared → Prop} (hu : A.units + 1 < cLine) (F : PyProof.Rows.Fr h₀ L s.heap m) (X₀ : K.In h₀) (I : InstAt s.heap x ox C od) (hb : Looks (model prog w) s.heap (typeOf b) tb) (hn : notFirst K C tb = true)
    (h1 : findIn K (.ref C) "__ne__" = some (some (.builtin "object.__ne__"))) (ho : subIn K (.ref C) (.type "object") = some true) (h2 : findIn K (.ref C) "__eq__" = some (some (.ref f))) (hf : isFn K (.ref f) = true)
    (h : wpAny (model prog w) A.in1 (call (.ref f) [.ref x, b]) (fun v s' => ∃ k, v = .bool k ∧ Q (.bool (!k)) s') E s) : wpAny (model prog w) A (richCompare .NotEq (.ref x) b) Q E s := by
  have X := X₀.keeps F.keep
  have one : wpAny (model prog w) A (tryCompare (.ref x) "__ne__" b) (fun r s' => ∃ v, r = some v ∧ Q v s') E s := by
    simp only [tryCompare]
    refine wpAny_bind (ifBoundB_K X I h1 (fun _ => rfl) (wpAny_call (codeAny_call_builtin (by decide +kernel) PySem.F.cmpEntry_ne
      (@check_slot (model prog w) _ _ s "object.__ne__" "object" "__ne__" (.ref x) [b] [] _ PySem.F.cmpKind_ne PySem.F.cmpSplit_ne (I.type.andThen (looks_subIn X ho)) (PySem.F.cmpArgs_ne _ _) ?_))))
    unfold Builtin.«object.__ne__»
    refine wpAny_bind (m := slotArgs "__ne__" 1 _) (wpAny_pure ?_)
    refine wpAny_bind (wpAny_cRoomFor (show A.in1.units < cLine by show A.units + 1 < cLine; exact hu) ?_)
    refine wpAny_bind (ifBound_K X I h2 hf (wpAny_mono h (fun v s' hv => ?_) fun _ _ e => e))
    obtain ⟨k, rfl, hq⟩ := hv
    exact wpAny_bind (wpAny_truthy_bool (wpAny_pure (wpAny_pure ⟨_, rfl, hq⟩)))
  unfold richCompare
  simp only [oneThing_ref]
  refine wpAny_holding (wpAny_bind (wpAny_cRoomFor (Nat.lt_of_succ_lt hu) ?_))
  refine wpAny_bind (I.type.here (wpAny_bind (hb.here ?_)))
  split
  · rename_i q
    have e : subIn K tb (.ref C) = some false := by
      rcases Bool.or_eq_true_iff.mp hn with e | e
      · rw [beq_iff_eq.mp e] at q; simp at q
      · exact beq_iff_eq.mp e
    refine wpAny_bind ((looks_subIn X e).here ?_)
    simp only [Bool.false_eq_true, if_false]
    refine wpAny_bind (wpAny_mono one (fun r s' z => ?_) fun _ _ e => e)
    obtain ⟨v, rfl, hq⟩ := z
    exact wpAny_pure hq
  · refine wpAny_bind (wpAny_pure ?_)
    simp only [Bool.false_eq_true, if_false]
    refine wpAny_bind (wpAny_mono one (fun r s' z => ?_) fun _ _ e => e)
    obtain ⟨v, rfl, hq⟩ := z
    exact wpAny_pure hq
end
section
variable {X : Cx} {CX : CXT} {k : Nat} {C f : Addr} {sp : Sp} {E : XK}
structure NeT (K : PySem.W.Frag) (C : Addr) : Prop where
  ne : PySem.W.findIn K (.ref C) "__ne__" = some (some (.builtin "object.__ne__"))
  ob : PySem.W.subIn K (.ref C) (.type "object") = some true
theorem neB_ok {x : Str} {K : PySem.W.Frag} (h : neB x K = true) : NeT K (gd x K) := by
  obtain ⟨h1, h2⟩ := He.ba h
  exact ⟨He.eqO_ok h1, of_decide_eq_true h2⟩
@[irreducible] def rNeO (K : PySem.W.Frag) (C : Addr) (sp : Sp) (E : XK) : R2 := fun x y H Q => ∃ a dx fs tb, x = .ref a ∧ H a = some (.ins C dx fs) ∧ TyX K H y tb ∧ PySem.W.notFirst K C tb = true ∧ sp [x, y] H (fun v H' => ∃ b, v = .bl b ∧ Q (.bl (!b)) H') E
theorem op_neO {K : PySem.W.Frag} (hK : X.K = K) (hm : Meth X.K C "__eq__" f) (hn : NeT X.K C) (F : PromOX X CX k f [] sp) (hr : Room (k + 1) X.A) (hx : Passes CX X E) : OpR X (compareOp .NotEq) (rNeO K C sp E) := by
  subst hK
  intro pins s σ H x y v u Q I rx ry h
  unfold rNeO at h
  obtain ⟨a, dx, fs, tb, rfl, ha, ty, nf, q⟩ := h
  cases (show v = Value.ref a from rx)
  obtain ⟨ox, od, J⟩ := ins_look I ha
  obtain ⟨m, hF⟩ := I.fr
  obtain ⟨P, Z, p, hx'⟩ := kit_of I ry ty
  refine ne_K (b := u) (tb := tb) (by have := hr.un; omega) hF I.ok.mod.kin J (Z.ty _ _ I.kIn p) nf hn.ne hn.ob hm.at_ hm.fn (wpAny_mono (promO_in1 (vs := [.ref a, y]) F hr hx I (.cons rfl (.cons ry .nil)) q) (fun w s' z => ?_) fun _ _ x => x)
  obtain ⟨v', H', I', rv', b, rfl, q'⟩ := z
  cases (show w = Value.bool b from rv')
  exact ⟨b, rfl, .bl (!b), H', I', rfl, q'⟩
end
end Gh
end
section
set_option Elab.async false
set_option linter.all false
set_option maxRecDepth 100000
set_option maxHeartbeats 4000000
namespace Gh
open PySem PySem.Spec PyProof.Rows L2
section
variable {K : PySem.W.Frag} {H : Hp} {Q : VK} {a C dx : Addr} {fs : List (Str × V)} {sp : Sp} {E : XK} {r : List V → Hp → VK → Prop} {x y : V} {tb : Value}
theorem st_eqO (h : H a = some (.ins C dx fs)) (ty : TyX K H y tb) (nf : PySem.W.notFirst K C tb = true) (q : r [.ref a, y] H Q) : rEqO K C r (.ref a) y H Q := by
  unfold rEqO
  exact ⟨a, dx, fs, tb, rfl, h, ty, nf, q⟩
theorem st_neO (h : H a = some (.ins C dx fs)) (ty : TyX K H y tb) (nf : PySem.W.notFirst K C tb = true) (q : rSp sp [] E [.ref a, y] H (fun v H' => ∃ b, v = .bl b ∧ Q (.bl (!b)) H')) : rNeO K C sp E (.ref a) y H Q := by
  unfold rNeO
  exact ⟨a, dx, fs, tb, rfl, h, ty, nf, q⟩
end
end Gh
end
section
set_option Elab.async false
set_option linter.all false
set_option maxRecDepth 100000
set_option maxHeartbeats 4000000
namespace Gp
open PySem PySem.Spec PyProof.Rows L2 Gh
section
variable {α β γ : Type}
def nox : Tr α → Tr α
  | .ok a => .ok a
  | .ex _ _ => .bad
  | .bad => .bad
  | .draw m f => .draw m fun d => nox (f d)
theorem bd_ex (c : Str) (fs : Fs) (k : α → Tr β) : bd (.ex c fs) k = .ex c fs := rfl
theorem bd_bd (m : Tr α) (k : α → Tr β) (l : β → Tr γ) : bd (bd m k) l = bd m fun a => bd (k a) l := by
  induction m with
  | draw m f ih =>
    show Tr.draw m _ = Tr.draw m _
    congr 1
    funext d
    exact ih d
  | _ => rfl
theorem al_nox {P : α → Nat → Prop} {E E' : Str → Fs → Nat → Prop} {m : Tr α} {b : Nat} (h : Al P E (nox m) b) : Al P E' m b := by
  induction m generalizing b with
  | ok a => exact h
  | ex c fs => exact h.elim
  | bad => exact h
  | draw m f ih =>
    obtain ⟨b', e, h1, h2, h3⟩ := h
    exact ⟨b', e, h1, h2, fun d d0 d1 => ih d (h3 d d0 d1)⟩
end
section
variable {g : Gw} {U U' : Addr → Prop} {H H' : Hp}
theorem DenL.take : ∀ {vs : List V} {ds : List D} (n : Nat), DenL g U H vs ds → DenL g U H (vs.take n) (ds.take n)
  | _, _, 0, _ => .nil
  | _, _, _ + 1, .nil => .nil
  | _, _, n + 1, .cons a r => .cons a (DenL.take n r)
theorem DenL.drop : ∀ {vs : List V} {ds : List D} (n : Nat), DenL g U H vs ds → DenL g U H (vs.drop n) (ds.drop n)
  | _, _, 0, r => r
  | _, _, _ + 1, .nil => .nil
  | _, _, n + 1, .cons a r => DenL.drop n r
theorem DenL.ints : ∀ ns : List Int, DenL g U H (ns.map V.int) (ns.map D.int)
  | [] => .nil
  | n :: r => .cons (.int n) (DenL.ints r)
def putD (f : Str) (v : D) : List (Str × D) → List (Str × D)
  | [] => [(f, v)]
  | (g, x) :: r => if g = f then (g, v) :: r else (g, x) :: putD f v r
theorem DenF.put {f : Str} {v : V} {d : D} (h : Den g U H v d) : ∀ {vs : List (Str × V)} {ds : List (Str × D)}, DenF g U H vs ds → DenF g U H (putF f v vs) (putD f d ds)
  | _, _, .nil => .cons h .nil
  | _, _, .cons (n := m) a r => by
    unfold putF putD
    split
    · exact .cons h r
    · exact .cons a (DenF.put h r)
end
section
variable {g : Gw} {U U' : Addr → Prop} {H H' H1 H2 : Hp} {b : Nat}
theorem UOk.extU (u : UOk g U H) (f : Fr H H' g.p) : ExtU U H H' := fun a o h n z => f a o h (fun e => n (e ▸ u.p)) z
theorem UOk.fr (u : UOk g U H) (f : Fr H H' g.p) (w : Wd g H' b) : UOk g U H' := ⟨u.p, u.c, fun a ha => by
  by_cases e : a = g.p
  · subst e
    obtain ⟨ns, i, z, h, _⟩ := w.pen
    exact ⟨_, h, fun _ z => by cases z⟩
  · obtain ⟨o, h, n⟩ := u.al a ha
    exact ⟨o, f a o h e n, n⟩⟩
theorem Den.fr (u : UOk g U H) (f : Fr H H' g.p) {v : V} {d : D} (h : Den g U H v d) : Den g U H' v d := h.ext (u.extU f)
theorem DenL.fr (u : UOk g U H) (f : Fr H H' g.p) {v : List V} {d : List D} (h : DenL g U H v d) : DenL g U H' v d := h.ext (u.extU f)
theorem fr_same (s : L2.Same H H') {p : Addr} : Fr H H' p := fun a o h _ _ => s a o h
theorem UOk.new (u : UOk g U H) {a : Addr} (h : H a = none) : ¬ U a := fun z => by
  obtain ⟨o, e, _⟩ := u.al a z
  rw [h] at e
  cases e
end
section
variable {g : Gw} {U U' : Addr → Prop} {H H' H1 H2 : Hp} {b : Nat} {σ : L2.St} {ε : Env}
theorem extU_of (hp : U g.p) (f : Fr H H' g.p) : ExtU U H H' := fun a o h n z => f a o h (fun e => n (e ▸ hp)) z
theorem SlR.frp (hp : U g.p) (f : Fr H H' g.p) {o : Option V} : ∀ {s : Sl}, SlR g U H o s → SlR g U H' o s
  | .no, _ => trivial
  | .fz d, ⟨v, e, h⟩ => ⟨v, e, h.ext (extU_of hp f)⟩
  | .ow ds, ⟨a, vs, e, h, l, k, ua, n1, n2⟩ => ⟨a, vs, e, f _ _ h n1 (fun _ z => by cases z), l, k.ext (extU_of hp f), ua, n1, n2⟩
  | .oi c fs, ⟨a, dx, fvs, e, h, k, ua, n1, n2⟩ => ⟨a, dx, fvs, e, f _ _ h n1 (fun _ z => by cases z), k.ext (extU_of hp f), ua, n1, n2⟩
theorem SlR.fr (u : UOk g U H) (f : Fr H H' g.p) {o : Option V} {s : Sl} (h : SlR g U H o s) : SlR g U H' o s := h.frp u.p f
theorem Rel.frp (r : Rel g U H σ ε) (hp : U g.p) (f : Fr H H' g.p) : Rel g U H' σ ε := ⟨r.len, fun i s e => by
  obtain ⟨o, h1, h2⟩ := r.at_ i s e
  exact ⟨o, h1, h2.frp hp f⟩, r.apart⟩
theorem Rel.fr (r : Rel g U H σ ε) (u : UOk g U H) (f : Fr H H' g.p) : Rel g U H' σ ε := ⟨r.len, fun i s e => by
  obtain ⟨o, h1, h2⟩ := r.at_ i s e
  exact ⟨o, h1, h2.fr u f⟩, r.apart⟩
mutual
theorem Den.grow {x : Addr} (n : H x = none) : ∀ {v : V} {d : D}, Den g U H v d → Den g (fun a => U a ∨ a = x) H v d
  | _, _, .non => .non
  | _, _, .bl b => .bl b
  | _, _, .int i => .int i
  | _, _, .str x h => .str x h
  | _, _, .tup h k l r => .tup h (fun z => z.elim k (ne_of_none h n)) l (DenL.grow n r)
  | _, _, .tupW h l r => .tupW h l (DenL.grow n r)
  | _, _, .lst h k l r => .lst h (fun z => z.elim k (ne_of_none h n)) l (DenL.grow n r)
  | _, _, .obj h k r => .obj h (fun z => z.elim k (ne_of_none h n)) (DenF.grow n r)
  | _, _, .err h k h2 k2 r => .err h (fun z => z.elim k (ne_of_none h n)) h2 (fun z => z.elim k2 (ne_of_none h2 n)) (DenF.grow n r)
  | _, _, .pen => .pen
  | _, _, .cls c => .cls c
  | _, _, .dct h k => .dct h (fun z => z.elim k (ne_of_none h n))
  | _, _, .dic h k l r => .dic h (fun z => z.elim k (ne_of_none h n)) l (DenL.grow n r)
  | _, _, .dit h k l r => .dit h (fun z => z.elim k (ne_of_none h n)) l (DenL.grow n r)
theorem DenL.grow {x : Addr} (n : H x = none) : ∀ {vs : List V} {ds : List D}, DenL g U H vs ds → DenL g (fun a => U a ∨ a = x) H vs ds
  | _, _, .nil => .nil
  | _, _, .cons a r => .cons (Den.grow n a) (DenL.grow n r)
theorem DenF.grow {x : Addr} (n : H x = none) : ∀ {vs : List (Str × V)} {ds : List (Str × D)}, DenF g U H vs ds → DenF g (fun a => U a ∨ a = x) H vs ds
  | _, _, .nil => .nil
  | _, _, .cons a r => .cons (Den.grow n a) (DenF.grow n r)
end
theorem SlR.grow {x : Addr} (n : H x = none) {o : Option V} : ∀ {s : Sl}, SlR g U H o s → SlR g (fun a => U a ∨ a = x) H o s
  | .no, _ => trivial
  | .fz d, ⟨v, e, h⟩ => ⟨v, e, h.grow n⟩
  | .ow ds, ⟨a, vs, e, h, l, k, ua, n1, n2⟩ => ⟨a, vs, e, h, l, k.grow n, .inl ua, n1, n2⟩
  | .oi c fs, ⟨a, dx, fvs, e, h, k, ua, n1, n2⟩ => ⟨a, dx, fvs, e, h, k.grow n, .inl ua, n1, n2⟩
theorem Rel.grow {x : Addr} (r : Rel g U H σ ε) (n : H x = none) : Rel g (fun a => U a ∨ a = x) H σ ε := ⟨r.len, fun i s e => by
  obtain ⟨o, h1, h2⟩ := r.at_ i s e
  exact ⟨o, h1, h2.grow n⟩, r.apart⟩
def okL (g : Gw) (U : Addr → Prop) (H : Hp) (Q : List V → Hp → Prop) : List D → Nat → Prop := fun d b => ∀ v H', DenL g U H' v d → Wd g H' b → Fr H H' g.p → Q v H'
def okB (g : Gw) (U : Addr → Prop) (H : Hp) (Q : Bool → Hp → Prop) : Bool → Nat → Prop := fun d b => ∀ H', Wd g H' b → Fr H H' g.p → Q d H'
def SE (g : Gw) (E : XK) (ε : Env) (t : TE) (m : Tr D) : Prop := ∀ U σ H b Q, Rel g U H σ ε → Wd g H b → UOk g U H → Al (okP g U H Q) (exP g U E H) m b → t σ H Q
def SA (g : Gw) (E : XK) (ε : Env) (t : TA) (m : Tr (List D)) : Prop := ∀ U σ H b Q, Rel g U H σ ε → Wd g H b → UOk g U H → Al (okL g U H Q) (exP g U E H) m b → t σ H Q
def ST (g : Gw) (E : XK) (ε : Env) (t : TT) (m : Tr Bool) : Prop := ∀ U σ H b Q, Rel g U H σ ε → Wd g H b → UOk g U H → Al (okB g U H Q) (exP g U E H) m b → t σ H Q
def SR1 (g : Gw) (E : XK) (r : V → Hp → VK → Prop) (f : D → Tr D) : Prop := ∀ U H b x dx Q, Den g U H x dx → Wd g H b → UOk g U H → Al (okP g U H Q) (exP g U E H) (f dx) b → r x H Q
def SR2 (g : Gw) (E : XK) (r : R2) (f : D → D → Tr D) : Prop := ∀ U H b x y dx dy Q, Den g U H x dx → Den g U H y dy → Wd g H b → UOk g U H → Al (okP g U H Q) (exP g U E H) (f dx dy) b → r x y H Q
def SRL (g : Gw) (E : XK) (r : List V → Hp → VK → Prop) (f : List D → Tr D) : Prop := ∀ U H b xs dxs Q, DenL g U H xs dxs → Wd g H b → UOk g U H → Al (okP g U H Q) (exP g U E H) (f dxs) b → r xs H Q
theorem exP.fr {E : XK} {c : Str} {fs : Fs} (f : Fr H H1 g.p) (h : exP g U E H c fs b) : exP g U E H1 c fs b := fun dd fvs H' h1 h2 h3 h4 h5 => h dd fvs H' h1 h2 h3 h4 (f.trans h5)
theorem okP.fr {Q : VK} {d : D} (f : Fr H H1 g.p) (h : okP g U H Q d b) : okP g U H1 Q d b := fun v H' h1 h2 h3 => h v H' h1 h2 (f.trans h3)
theorem al_frX {α : Type} {E : XK} {P : α → Nat → Prop} {m : Tr α} (f : Fr H H1 g.p) (h : Al P (exP g U E H) m b) : Al P (exP g U E H1) m b := h.mono (fun _ _ h => h) (fun _ _ _ h => h.fr f)
variable {E : XK} {ta tb tc : TE} {ma mb : Tr D}
theorem SE.step {α : Type} {k : D → Tr α} {P : α → Nat → Prop} {Q : VK} (ha : SE g E ε ta ma) (R : Rel g U H σ ε) (W : Wd g H b) (u : UOk g U H) (h : Al P (exP g U E H) (bd ma k) b)
    (hk : ∀ v d H1 b1, Den g U H1 v d → Wd g H1 b1 → Fr H H1 g.p → Rel g U H1 σ ε → UOk g U H1 → Al P (exP g U E H1) (k d) b1 → Q v H1) : ta σ H Q :=
  ha U σ H b Q R W u ((al_bd.mp h).mono (fun d b1 h1 v H1 d1 w1 f1 => hk v d H1 b1 d1 w1 f1 (R.fr u f1) (u.fr f1 w1) (al_frX f1 h1)) (fun _ _ _ h => h))
theorem SA.step {α : Type} {t : TA} {m : Tr (List D)} {k : List D → Tr α} {P : α → Nat → Prop} {Q : List V → Hp → Prop} (ha : SA g E ε t m) (R : Rel g U H σ ε) (W : Wd g H b) (u : UOk g U H) (h : Al P (exP g U E H) (bd m k) b)
    (hk : ∀ v d H1 b1, DenL g U H1 v d → Wd g H1 b1 → Fr H H1 g.p → Rel g U H1 σ ε → UOk g U H1 → Al P (exP g U E H1) (k d) b1 → Q v H1) : t σ H Q :=
  ha U σ H b Q R W u ((al_bd.mp h).mono (fun d b1 h1 v H1 d1 w1 f1 => hk v d H1 b1 d1 w1 f1 (R.fr u f1) (u.fr f1 w1) (al_frX f1 h1)) (fun _ _ _ h => h))
theorem ST.step {α : Type} {t : TT} {m : Tr Bool} {k : Bool → Tr α} {P : α → Nat → Prop} {Q : Bool → Hp → Prop} (ha : ST g E ε t m) (R : Rel g U H σ ε) (W : Wd g H b) (u : UOk g U H) (h : Al P (exP g U E H) (bd m k) b)
    (hk : ∀ d H1 b1, Wd g H1 b1 → Fr H H1 g.p → Rel g U H1 σ ε → UOk g U H1 → Al P (exP g U E H1) (k d) b1 → Q d H1) : t σ H Q :=
  ha U σ H b Q R W u ((al_bd.mp h).mono (fun d b1 h1 H1 w1 f1 => hk d H1 b1 w1 f1 (R.fr u f1) (u.fr f1 w1) (al_frX f1 h1)) (fun _ _ _ h => h))
theorem se_var {i : Nat} {d : D} (h : ε[i]? = some (.fz d) := by rfl) : SE g E ε (tVar i) (.ok d) := fun U σ H b Q R W u q => by
  obtain ⟨o, e, v, rfl, dn⟩ := R.at_ i _ h
  exact ⟨v, e, okP.here q W dn⟩
theorem se_c {v : V} {d : D} (h : ∀ U H, Den g U H v d) : SE g E ε (tC v) (.ok d) := fun U σ H b Q R W u q => okP.here q W (h U H)
theorem se_int {i : Int} : SE g E ε (tC (.int i)) (.ok (.int i)) := se_c fun _ _ => .int i
theorem se_bl {i : Bool} : SE g E ε (tC (.bl i)) (.ok (.bl i)) := se_c fun _ _ => .bl i
theorem se_non : SE g E ε (tC .non) (.ok .non) := se_c fun _ _ => .non
theorem se_str {x : Str} (h : x.length ≤ sizeLine) : SE g E ε (tC (.str x)) (.ok (.str x)) := se_c fun _ _ => .str x h
theorem se_op {r : R2} {f : D → D → Tr D} (hr : SR2 g E r f) (ha : SE g E ε ta ma) (hb : SE g E ε tb mb) : SE g E ε (tOp r ta tb) (bd ma fun x => bd mb fun y => f x y) := fun U σ H b Q R W u q =>
  ha.step R W u q fun v d H1 b1 d1 w1 f1 R1 u1 q1 => hb.step R1 w1 u1 q1 fun v2 e H2 b2 d2 w2 f2 R2 u2 q2 => hr U H2 b2 v v2 d e Q (d1.fr u1 f2) d2 w2 u2 (q2.mono (fun _ _ h => h.fr (f1.trans f2)) (fun _ _ _ h => h))
theorem se_un {r : V → Hp → VK → Prop} {f : D → Tr D} (hr : SR1 g E r f) (ha : SE g E ε ta ma) : SE g E ε (tUn r ta) (bd ma f) := fun U σ H b Q R W u q =>
  ha.step R W u q fun v d H1 b1 d1 w1 f1 R1 u1 q1 => hr U H1 b1 v d Q d1 w1 u1 (q1.mono (fun _ _ h => h.fr f1) (fun _ _ _ h => h))
theorem sa_nil : SA g E ε tNil (.ok []) := fun U σ H b Q R W u q => q [] H .nil W Fr.refl
theorem sa_cons {t : TA} {m : Tr (List D)} (ha : SE g E ε ta ma) (hb : SA g E ε t m) : SA g E ε (tCons ta t) (bd ma fun x => bd m fun xs => .ok (x :: xs)) := fun U σ H b Q R W u q =>
  ha.step R W u q fun v d H1 b1 d1 w1 f1 R1 u1 q1 => hb.step R1 w1 u1 q1 fun v2 e H2 b2 d2 w2 f2 R2 u2 q2 => q2 (v :: v2) H2 (.cons (d1.fr u1 f2) d2) w2 (f1.trans f2)
theorem se_cl {r : List V → Hp → VK → Prop} {f : List D → Tr D} {t : TA} {m : Tr (List D)} (hr : SRL g E r f) (ha : SA g E ε t m) : SE g E ε (tCl r t) (bd m f) := fun U σ H b Q R W u q =>
  ha.step R W u q fun v d H1 b1 d1 w1 f1 R1 u1 q1 => hr U H1 b1 v d Q d1 w1 u1 (q1.mono (fun _ _ h => h.fr f1) (fun _ _ _ h => h))
theorem se_cb {r : List V → Hp → VK → Prop} {f : List D → Tr D} {t : TA} {m : Tr (List D)} (hr : SRL g E r f) (ha : SA g E ε t m) : SE g E ε (tCB r t) (bd m f) := se_cl hr ha
def asB : D → Tr Bool
  | .bl b => .ok b
  | _ => .bad
theorem al_asB {P : Bool → Nat → Prop} {X : Str → Fs → Nat → Prop} {d : D} (h : Al P X (asB d) b) : ∃ k, d = .bl k ∧ P k b := by
  cases d with
  | bl k => exact ⟨k, rfl, h⟩
  | _ => exact h.elim
theorem al_asBk {α : Type} {P : α → Nat → Prop} {X : Str → Fs → Nat → Prop} {d : D} {k : Bool → Tr α} (h : Al P X (bd (asB d) k) b) : ∃ c, d = .bl c ∧ Al P X (k c) b := al_asB (al_bd.mp h)
theorem den_bl {v : V} {k : Bool} (h : Den g U H v (.bl k)) : v = .bl k := by cases h; rfl
theorem sb_tst (ha : SE g E ε ta ma) : ST g E ε (tTest ta) (bd ma asB) := fun U σ H b Q R W u q =>
  ha.step R W u q fun v d H1 b1 d1 w1 f1 R1 u1 q1 => by
    obtain ⟨k, rfl, q2⟩ := al_asB q1
    exact ⟨k, den_bl d1, q2 H1 w1 f1⟩
theorem sb_tb (ha : SE g E ε ta ma) : ST g E ε (tB ta) (bd ma asB) := sb_tst ha
theorem sb_and {c d : TT} {m n : Tr Bool} (ha : ST g E ε c m) (hb : ST g E ε d n) : ST g E ε (tAnd c d) (bd m fun k => if k = true then n else .ok false) := fun U σ H b Q R W u q =>
  ha.step R W u q fun k H1 b1 w1 f1 R1 u1 q1 => by
    cases k with
    | true => exact hb U σ H1 b1 Q R1 w1 u1 (q1.mono (fun _ _ h H' w f => h H' w (f1.trans f)) (fun _ _ _ h => h))
    | false => exact q1 H1 w1 f1
theorem sb_or {c d : TT} {m n : Tr Bool} (ha : ST g E ε c m) (hb : ST g E ε d n) : ST g E ε (tOr c d) (bd m fun k => if k = true then .ok true else n) := fun U σ H b Q R W u q =>
  ha.step R W u q fun k H1 b1 w1 f1 R1 u1 q1 => by
    cases k with
    | false => exact hb U σ H1 b1 Q R1 w1 u1 (q1.mono (fun _ _ h H' w f => h H' w (f1.trans f)) (fun _ _ _ h => h))
    | true => exact q1 H1 w1 f1
theorem sb_not {c : TT} {m : Tr Bool} (ha : ST g E ε c m) : ST g E ε (tNot c) (bd m fun k => .ok (!k)) := fun U σ H b Q R W u q =>
  ha.step R W u q fun k H1 b1 w1 f1 R1 u1 q1 => q1 H1 w1 f1
theorem se_if {c : TT} {m : Tr Bool} (hc : ST g E ε c m) (ha : SE g E ε ta ma) (hb : SE g E ε tb mb) : SE g E ε (tIf c ta tb) (bd m fun k => if k = true then ma else mb) := fun U σ H b Q R W u q =>
  hc.step R W u q fun k H1 b1 w1 f1 R1 u1 q1 => by
    have q2 := q1.mono (P' := okP g U H1 Q) (fun _ _ h => okP.fr f1 h) (fun _ _ _ h => h)
    cases k with
    | true => exact ha U σ H1 b1 Q R1 w1 u1 q2
    | false => exact hb U σ H1 b1 Q R1 w1 u1 q2
theorem se_andV (ha : SE g E ε ta ma) (hb : SE g E ε tb mb) : SE g E ε (tAndV ta tb) (bd (bd ma asB) fun k => if k = true then mb else .ok (.bl false)) := fun U σ H b Q R W u q => by
  rw [bd_bd] at q
  refine ha.step R W u q fun v d H1 b1 d1 w1 f1 R1 u1 q1 => ?_
  obtain ⟨k, rfl, q2⟩ := al_asBk q1
  refine ⟨k, den_bl d1, ?_⟩
  replace q2 := q2.mono (P' := okP g U H1 Q) (fun _ _ h => okP.fr f1 h) (fun _ _ _ h => h)
  cases k with
  | true => exact hb U σ H1 b1 Q R1 w1 u1 q2
  | false => exact okP.here q2 w1 (.bl false)
theorem se_notV (ha : SE g E ε ta ma) : SE g E ε (tNotV ta) (bd (bd ma asB) fun k => .ok (.bl (!k))) := fun U σ H b Q R W u q => by
  rw [bd_bd] at q
  refine ha.step R W u q fun v d H1 b1 d1 w1 f1 R1 u1 q1 => ?_
  obtain ⟨k, rfl, q2⟩ := al_asBk q1
  exact ⟨k, den_bl d1, q2 _ H1 (.bl (!k)) w1 f1⟩
theorem se_chain {r r' : R2} {f f' : D → D → Tr D} {mc : Tr D} (hr : SR2 g E r f) (hr' : SR2 g E r' f') (ha : SE g E ε ta ma) (hb : SE g E ε tb mb) (hc : SE g E ε tc mc) :
    SE g E ε (tChain r r' ta tb tc) (bd ma fun x => bd mb fun y => bd (bd (f x y) asB) fun k => if k = true then bd mc fun z => f' y z else .ok (.bl false)) := fun U σ H b Q R W u q =>
  ha.step R W u q fun v d H1 b1 d1 w1 f1 R1 u1 q1 => hb.step R1 w1 u1 q1 fun v2 e H2 b2 d2 w2 f2 R2 u2 q2 => by
    rw [bd_bd] at q2
    refine hr U H2 b2 v v2 d e _ (d1.fr u1 f2) d2 w2 u2 ((al_bd.mp q2).mono (fun z b3 h3 v3 H3 d3 w3 f3 => ?_) (fun _ _ _ h => h))
    obtain ⟨k, rfl, q3⟩ := al_asBk h3
    refine ⟨k, den_bl d3, ?_⟩
    have q4 := q3.mono (P' := okP g U H3 Q) (E' := exP g U E H3) (fun _ _ h => okP.fr ((f1.trans f2).trans f3) h) (fun _ _ _ h => h.fr f3)
    cases k with
    | false => exact okP.here q4 w3 (.bl false)
    | true =>
      refine hc.step (R2.fr u2 f3) w3 (u2.fr f3 w3) q4 fun v4 z H4 b4 d4 w4 f4 R4 u4 q5 => ?_
      exact hr' U H4 b4 v2 v4 e z Q (d2.fr u2 (f3.trans f4)) d4 w4 u4 (q5.mono (fun _ _ h => h.fr f4) (fun _ _ _ h => h))
theorem se_lst {t : TA} {m : Tr (List D)} (ha : SA g E ε t m) : SE g E ε (tLst t) (bd m fun ds => if ds.length ≤ sizeLine then .ok (.lst ds) else .bad) := fun U σ H b Q R W u q =>
  ha.step R W u q fun v d H1 b1 d1 w1 f1 R1 u1 q1 => by
    by_cases hl : d.length ≤ sizeLine
    · rw [if_pos hl] at q1
      have hl' : v.length ≤ sizeLine := by rw [d1.length]; exact hl
      refine ⟨hl', fun p np => ?_⟩
      have s := same_new (o := .lst v) np
      exact q1 _ _ (.lst upd_same (u1.new np) hl' (d1.ext (u1.extU (fr_same s)))) (w1.same s) (f1.trans (fr_same s))
    · rw [if_neg hl] at q1
      exact q1.elim
theorem se_tup {t : TA} {m : Tr (List D)} (ha : SA g E ε t m) : SE g E ε (tTup t) (bd m fun ds => if ds.length ≤ sizeLine then .ok (.tup ds) else .bad) := fun U σ H b Q R W u q =>
  ha.step R W u q fun v d H1 b1 d1 w1 f1 R1 u1 q1 => by
    by_cases hl : d.length ≤ sizeLine
    · rw [if_pos hl] at q1
      have hl' : v.length ≤ sizeLine := by rw [d1.length]; exact hl
      refine ⟨hl', fun p np => ?_⟩
      have s := same_new (o := .tup v) np
      exact q1 _ _ (.tup upd_same (u1.new np) hl' (d1.ext (u1.extU (fr_same s)))) (w1.same s) (f1.trans (fr_same s))
    · rw [if_neg hl] at q1
      exact q1.elim
theorem se_nox (ha : SE g (fun _ _ _ => False) ε ta ma) : SE g E ε ta (nox ma) := fun U σ H b Q R W u q => ha U σ H b Q R W u (al_nox q)
end
end Gp
end
section
set_option Elab.async false
set_option linter.all false
set_option maxRecDepth 100000
set_option maxHeartbeats 4000000
namespace Gp
open PySem PySem.Spec PyProof.Rows L2 Gh
section
variable {g : Gw} {Mt U0 U U' : Addr → Prop} {H0 H H' H1 H2 : Hp} {b b1 : Nat} {σ : L2.St} {ε ε' : Env} {E : XK} {W L W' : Type}
theorem Stt.fr (s : Stt g Mt U0 H0 U σ H b ε) (f : Fr H H' g.p) (w : Wd g H' b1) : Stt g Mt U0 H0 U σ H' b1 ε := ⟨s.rel.fr s.uok f, w, s.uok.fr f w, s.sub, s.own, s.ext.trans f, s.nu0, s.oim⟩
theorem SE.sstep {t : TE} {m : Tr D} {k : D → Tr (Fl W L)} {Ds : Ends} {env : W → Env} {envL : L → Env} {Q : VK} (he : SE g E ε t m) (s : Stt g Mt U0 H0 U σ H b ε) (h : Al (flP g Mt U0 H0 U H Ds env envL) (exS g Mt U0 H0 E) (bd m k) b)
    (hk : ∀ v d H1 b1, Den g U H1 v d → Stt g Mt U0 H0 U σ H1 b1 ε → Al (flP g Mt U0 H0 U H1 Ds env envL) (exS g Mt U0 H0 E) (k d) b1 → Q v H1) : t σ H Q :=
  he U σ H b Q s.rel s.wd s.uok ((al_bd.mp h).mono (fun d b1 h1 v H1 d1 w1 f1 => hk v d H1 b1 d1 (s.fr f1 w1) (h1.mono (fun _ _ z => z.ev (s.uok.ev f1)) (fun _ _ _ z => z))) (fun _ _ _ h => exS.exP s h))
theorem SA.sstep {t : TA} {m : Tr (List D)} {k : (List D) → Tr (Fl W L)} {Ds : Ends} {env : W → Env} {envL : L → Env} {Q : List V → Hp → Prop} (he : SA g E ε t m) (s : Stt g Mt U0 H0 U σ H b ε) (h : Al (flP g Mt U0 H0 U H Ds env envL) (exS g Mt U0 H0 E) (bd m k) b)
    (hk : ∀ v d H1 b1, DenL g U H1 v d → Stt g Mt U0 H0 U σ H1 b1 ε → Al (flP g Mt U0 H0 U H1 Ds env envL) (exS g Mt U0 H0 E) (k d) b1 → Q v H1) : t σ H Q :=
  he U σ H b Q s.rel s.wd s.uok ((al_bd.mp h).mono (fun d b1 h1 v H1 d1 w1 f1 => hk v d H1 b1 d1 (s.fr f1 w1) (h1.mono (fun _ _ z => z.ev (s.uok.ev f1)) (fun _ _ _ z => z))) (fun _ _ _ h => exS.exP s h))
theorem ST.sstep {t : TT} {m : Tr Bool} {k : Bool → Tr (Fl W L)} {Ds : Ends} {env : W → Env} {envL : L → Env} {Q : Bool → Hp → Prop} (he : ST g E ε t m) (s : Stt g Mt U0 H0 U σ H b ε) (h : Al (flP g Mt U0 H0 U H Ds env envL) (exS g Mt U0 H0 E) (bd m k) b)
    (hk : ∀ d H1 b1,  Stt g Mt U0 H0 U σ H1 b1 ε → Al (flP g Mt U0 H0 U H1 Ds env envL) (exS g Mt U0 H0 E) (k d) b1 → Q d H1) : t σ H Q :=
  he U σ H b Q s.rel s.wd s.uok ((al_bd.mp h).mono (fun d b1 h1 H1 w1 f1 => hk d H1 b1 (s.fr f1 w1) (h1.mono (fun _ _ z => z.ev (s.uok.ev f1)) (fun _ _ _ z => z))) (fun _ _ _ h => exS.exP s h))
variable {env : W → Env} {envL : L → Env} {env' : W' → Env} {u ta tb : TS} {te : TE} {me : Tr D}
theorem ss_nx {w : W} (l : Le (env w) ε) : SS g E ε tNext env envL (.ok (.nx w)) := fun Mt U0 H0 U D σ H b s q => q U σ H Ev.refl (s.le l)
theorem ss_asg {i : Nat} {k : D → Tr (Fl W L)} (he : SE g E ε te me) (hk : ∀ d, SS g E (ε.set i (.fz d)) u env envL (k d)) : SS g E ε (tSeq (tAsg te (gName i)) u) env envL (bd me k) := fun Mt U0 H0 U D σ H b s q =>
  he.sstep s q fun v d H1 b1 d1 s1 q1 => hk d Mt U0 H0 U D _ H1 b1 (s1.set i d1) q1
theorem ss_ret (he : SE g E ε te me) : SS g E ε (tSeq (tRet te) u) env envL (bd me fun d => .ok (.rt d)) := fun Mt U0 H0 U D σ H b s q =>
  he.sstep s q fun v d H1 b1 d1 s1 q1 => q1 v H1 (d1.sub fun a _ z => s1.sub a z) s1.wd s1.ext
theorem ss_drop {k : Tr (Fl W L)} (he : SE g E ε te me) (hk : SS g E ε u env envL k) : SS g E ε (tSeq (tDrop te) u) env envL (bd me fun _ => k) := fun Mt U0 H0 U D σ H b s q =>
  he.sstep s q fun v d H1 b1 d1 s1 q1 => hk Mt U0 H0 U D σ H1 b1 s1 q1
theorem ss_never : SS g E ε (tSeq tNever u) env envL .bad := fun Mt U0 H0 U D σ H b s q => q.elim
def ul0 {α : Type} (k : Tr α) (ds : List D) : Tr α := match ds with
  | [] => k
  | _ => .bad
def ul1 {α : Type} (k : D → Tr α) (ds : List D) : Tr α := match ds with
  | [x] => k x
  | _ => .bad
def ul2 {α : Type} (k : D → D → Tr α) (ds : List D) : Tr α := match ds with
  | [x, y] => k x y
  | _ => .bad
def ul3 {α : Type} (k : D → D → D → Tr α) (ds : List D) : Tr α := match ds with
  | [x, y, z] => k x y z
  | _ => .bad
def ul4 {α : Type} (k : D → D → D → D → Tr α) (ds : List D) : Tr α := match ds with
  | [x, y, z, w] => k x y z w
  | _ => .bad
section
variable {α : Type} {P : α → Nat → Prop} {X : Str → Fs → Nat → Prop} {ds : List D}
theorem al_ul1 {k : D → Tr α} (h : Al P X (ul1 k ds) b) : ∃ x, ds = [x] ∧ Al P X (k x) b := by
  unfold ul1 at h; split at h
  · exact ⟨_, rfl, h⟩
  · exact h.elim
theorem al_ul2 {k : D → D → Tr α} (h : Al P X (ul2 k ds) b) : ∃ x y, ds = [x, y] ∧ Al P X (k x y) b := by
  unfold ul2 at h; split at h
  · exact ⟨_, _, rfl, h⟩
  · exact h.elim
theorem al_ul3 {k : D → D → D → Tr α} (h : Al P X (ul3 k ds) b) : ∃ x y z, ds = [x, y, z] ∧ Al P X (k x y z) b := by
  unfold ul3 at h; split at h
  · exact ⟨_, _, _, rfl, h⟩
  · exact h.elim
theorem al_ul4 {k : D → D → D → D → Tr α} (h : Al P X (ul4 k ds) b) : ∃ x y z w, ds = [x, y, z, w] ∧ Al P X (k x y z w) b := by
  unfold ul4 at h; split at h
  · exact ⟨_, _, _, _, rfl, h⟩
  · exact h.elim
end
theorem denL_nil {vs : List V} (h : DenL g U H vs []) : vs = [] := by cases h; rfl
theorem denL_cons {vs : List V} {d : D} {ds : List D} (h : DenL g U H vs (d :: ds)) : ∃ v r, vs = v :: r ∧ Den g U H v d ∧ DenL g U H r ds := by
  cases h with
  | cons a r => exact ⟨_, _, rfl, a, r⟩
theorem denL_1 {vs : List V} {x : D} (h : DenL g U H vs [x]) : ∃ v, vs = [v] ∧ Den g U H v x := by
  obtain ⟨v, r, rfl, h1, h2⟩ := denL_cons h
  cases denL_nil h2
  exact ⟨v, rfl, h1⟩
theorem denL_2 {vs : List V} {x y : D} (h : DenL g U H vs [x, y]) : ∃ v w, vs = [v, w] ∧ Den g U H v x ∧ Den g U H w y := by
  obtain ⟨v, r, rfl, h1, h2⟩ := denL_cons h
  obtain ⟨w, rfl, h3⟩ := denL_1 h2
  exact ⟨v, w, rfl, h1, h3⟩
theorem denL_3 {vs : List V} {x y z : D} (h : DenL g U H vs [x, y, z]) : ∃ v w t, vs = [v, w, t] ∧ Den g U H v x ∧ Den g U H w y ∧ Den g U H t z := by
  obtain ⟨v, r, rfl, h1, h2⟩ := denL_cons h
  obtain ⟨w, t, rfl, h3, h4⟩ := denL_2 h2
  exact ⟨v, w, t, rfl, h1, h3, h4⟩
theorem ss_par {i j : Nat} {t : TA} {m : Tr (List D)} {k : D → D → Tr (Fl W L)} (he : SA g E ε t m) (hk : ∀ x y, SS g E ((ε.set i (.fz x)).set j (.fz y)) u env envL (k x y)) :
    SS g E ε (tSeq (tPar i j t) u) env envL (bd m (ul2 k)) := fun Mt U0 H0 U D σ H b s q =>
  he.sstep s q fun v d H1 b1 d1 s1 q1 => by
    obtain ⟨x, y, rfl, q2⟩ := al_ul2 q1
    obtain ⟨v1, v2, rfl, e1, e2⟩ := denL_2 d1
    exact ⟨v1, v2, rfl, hk x y Mt U0 H0 U D _ H1 b1 ((s1.set i e1).set j e2) q2⟩
theorem bdF_ex (c : Str) (fs : Fs) (k : W' → Tr (Fl W L)) : bdF (.ex c fs) k = .ex c fs := rfl
theorem ss_if0 {c : TT} {mc : Tr Bool} {m n : Tr (Fl W' L)} (hc : ST g E ε c mc) (ha : SS g E ε ta env' envL m) (hb : SS g E ε tb env' envL n) : SS g E ε (tIfS c ta tb) env' envL (bd mc fun k => if k = true then m else n) := fun Mt U0 H0 U D σ H b s q =>
  hc.sstep s q fun k H1 b1 s1 q1 => by
    cases k with
    | true => exact ha Mt U0 H0 U D σ H1 b1 s1 q1
    | false => exact hb Mt U0 H0 U D σ H1 b1 s1 q1
theorem ss_if {c : TT} {mc : Tr Bool} {m n : Tr (Fl W' L)} {k : W' → Tr (Fl W L)} (env' : W' → Env) (hc : ST g E ε c mc) (ha : SS g E ε ta env' envL m) (hb : SS g E ε tb env' envL n) (hk : ∀ w, SS g E (env' w) u env envL (k w)) :
    SS g E ε (tSeq (tIfS c ta tb) u) env envL (bdF (bd mc fun k => if k = true then m else n) k) := (ss_if0 hc ha hb).seq hk
theorem sx_name {i : Nat} {d : D} {m : Tr (Fl W L)} (h : SS g E (ε.set i (.fz d)) tb env envL m) : SX g E ε d (gName i) tb env envL m := fun Mt U0 H0 U D σ H b v s dn q => h Mt U0 H0 U D _ H b (s.set i dn) q
def un2 {α : Type} (d : D) (k : D → D → Tr α) : Tr α := match d with
  | .tup [x, y] => k x y
  | _ => .bad
def un3 {α : Type} (d : D) (k : D → D → D → Tr α) : Tr α := match d with
  | .tup [x, y, z] => k x y z
  | _ => .bad
theorem den_tup {v : V} {ds : List D} (h : Den g U H v (.tup ds)) : ∃ a vs, v = .ref a ∧ SqT g.K H a vs ∧ vs.length ≤ sizeLine ∧ DenL g U H vs ds := by
  cases h with
  | tup h n l k => exact ⟨_, _, rfl, SqT.of h, l, k⟩
  | tupW h l k => exact ⟨_, _, rfl, h H, l, k⟩
theorem al_un2 {α : Type} {P : α → Nat → Prop} {X : Str → Fs → Nat → Prop} {d : D} {k : D → D → Tr α} (h : Al P X (un2 d k) b) : ∃ x y, d = .tup [x, y] ∧ Al P X (k x y) b := by
  unfold un2 at h
  split at h
  · exact ⟨_, _, rfl, h⟩
  · exact h.elim
theorem al_un3 {α : Type} {P : α → Nat → Prop} {X : Str → Fs → Nat → Prop} {d : D} {k : D → D → D → Tr α} (h : Al P X (un3 d k) b) : ∃ x y z, d = .tup [x, y, z] ∧ Al P X (k x y z) b := by
  unfold un3 at h
  split at h
  · exact ⟨_, _, _, rfl, h⟩
  · exact h.elim
theorem sx_tup2 {i j : Nat} {d : D} {m : D → D → Tr (Fl W L)} (h : ∀ x y, SS g E ((ε.set i (.fz x)).set j (.fz y)) tb env envL (m x y)) : SX g E ε d (gTup g.K 2 (gCons (gName i) (gCons (gName j) gNil))) tb env envL (un2 d m) := fun Mt U0 H0 U D σ H b v s dn q => by
  obtain ⟨x, y, rfl, q1⟩ := al_un2 q
  obtain ⟨a, vs, rfl, sq, _, k⟩ := den_tup dn
  obtain ⟨v1, v2, rfl, e1, e2⟩ := denL_2 k
  exact ⟨a, [v1, v2], rfl, sq, rfl, v1, [v2], rfl, v2, [], rfl, rfl, h x y Mt U0 H0 U D _ H b ((s.set i e1).set j e2) q1⟩
theorem sx_tup3 {i j l : Nat} {d : D} {m : D → D → D → Tr (Fl W L)} (h : ∀ x y z, SS g E (((ε.set i (.fz x)).set j (.fz y)).set l (.fz z)) tb env envL (m x y z)) : SX g E ε d (gTup g.K 3 (gCons (gName i) (gCons (gName j) (gCons (gName l) gNil)))) tb env envL (un3 d m) := fun Mt U0 H0 U D σ H b v s dn q => by
  obtain ⟨x, y, z, rfl, q1⟩ := al_un3 q
  obtain ⟨a, vs, rfl, sq, _, k⟩ := den_tup dn
  obtain ⟨v1, v2, v3, rfl, e1, e2, e3⟩ := denL_3 k
  exact ⟨a, [v1, v2, v3], rfl, sq, rfl, v1, [v2, v3], rfl, v2, [v3], rfl, v3, [], rfl, rfl, h x y z Mt U0 H0 U D _ H b (((s.set i e1).set j e2).set l e3) q1⟩
theorem ss_unp {gt : TG} {k : D → Tr (Fl W L)} (he : SE g E ε te me) (hk : ∀ d, SX g E ε d gt u env envL (k d)) : SS g E ε (tSeq (tAsg te gt) u) env envL (bd me k) := fun Mt U0 H0 U D σ H b s q =>
  he.sstep s q fun v d H1 b1 d1 s1 q1 => hk d Mt U0 H0 U D σ H1 b1 v s1 d1 q1
def ItD (g : Gw) (U : Addr → Prop) (H : Hp) (J : It) (ds : List D) : Prop := ∀ i U1 H1 b, Ev U H U1 H1 → Wd g H1 b → UOk g U1 H1 →
  (∀ d, ds[i]? = some d → J.go i H1 ∧ ∀ x H2, J.yld i H1 x H2 → Den g U1 H2 x d ∧ L2.Same H1 H2) ∧ (ds.length = i → J.stop i H1)
def okI (g : Gw) (U : Addr → Prop) (H : Hp) (R : It → Hp → Prop) : List D → Nat → Prop := fun ds b => ∀ J H', ds.length ≤ sizeLine → ItD g U H' J ds → Wd g H' b → Fr H H' g.p → R J H'
def SI (g : Gw) (E : XK) (ε : Env) (wi : TI) (m : Tr (List D)) : Prop := ∀ U σ H b R, Rel g U H σ ε → Wd g H b → UOk g U H → Al (okI g U H R) (exP g U E H) m b → wi σ H R
def forF (f : D → W → Tr (Fl W W)) : List D → W → Tr (Fl W L)
  | [], w => .ok (.nx w)
  | x :: xs, w => bd (f x w) fun r => match r with
    | .nx w' => forF f xs w'
    | .ct w' => forF f xs w'
    | .bk w' => .ok (.nx w')
    | .rt d => .ok (.rt d)
theorem forF_cons (f : D → W → Tr (Fl W W)) (x : D) (xs : List D) (w : W) : forF (L := L) f (x :: xs) w = bd (f x w) fun r => match r with
    | .nx w' => forF f xs w'
    | .ct w' => forF f xs w'
    | .bk w' => .ok (.nx w')
    | .rt d => .ok (.rt d) := rfl
theorem ss_for0 {wi : TI} {gt : TG} {mi : Tr (List D)} {f : D → W → Tr (Fl W W)} {w0 : W} {tb : TS} (hi : SI g E ε wi mi) (l : Le (env w0) ε) (hb : ∀ d w, SX g E (env w) d gt tb env env (f d w)) : SS g E ε (tFor wi gt tb) env envL (bd mi fun ds => forF f ds w0) := fun Mt U0 H0 U D σ H b s q => by
  refine hi U σ H b _ s.rel s.wd s.uok ((al_bd.mp q).mono (fun ds b1 h1 J H1 hsz it w1 f1 => ?_) (fun _ _ _ h => exS.exP s h))
  refine ⟨fun i m σ' H' => ∃ b' w U', m = ds.length - i ∧ i ≤ ds.length ∧ Stt g Mt U0 H0 U' σ' H' b' (env w) ∧ Ev U H1 U' H' ∧ Al (flP g Mt U0 H0 U' H' D env envL) (exS g Mt U0 H0 E) (forF f (ds.drop i) w) b',
    ⟨ds.length, b1, w0, U, by simp, Nat.zero_le _, (s.fr f1 w1).le l, Ev.refl, Al.mono (fun _ _ z => z.ev (s.uok.ev f1)) (fun _ _ _ z => z) h1⟩, ?_⟩
  rintro i m σ' H' ⟨b', w, U', rfl, hle, s', e', q'⟩
  obtain ⟨it1, it2⟩ := it i U' H' b' e' s'.wd s'.uok
  by_cases hlt : i < ds.length
  · have ei : ds[i]? = some ds[i] := List.getElem?_eq_getElem hlt
    obtain ⟨go, y⟩ := it1 _ ei
    rw [List.drop_eq_getElem_cons hlt, forF_cons] at q'
    refine .inr ⟨go, fun σ2 H2 => ∃ b' w U2, Stt g Mt U0 H0 U2 σ2 H2 b' (env w) ∧ Ev U H1 U2 H2 ∧ Al (flP g Mt U0 H0 U2 H2 D env envL) (exS g Mt U0 H0 E) (forF f (ds.drop (i + 1)) w) b', ?_, ?_⟩
    · rintro σ2 H2 ⟨b2, w2, U2, s2, e2, q2⟩
      exact ⟨ds.length - (i + 1), by omega, b2, w2, U2, rfl, hlt, s2, e2, q2⟩
    · intro x H2 hy
      obtain ⟨dn, sm⟩ := y x H2 hy
      have s2 := s'.fr (fr_same sm) (s'.wd.same sm)
      have ev2 : Ev U' H' U' H2 := s'.uok.ev (fr_same sm)
      refine hb _ w Mt U0 H0 U' _ σ' H2 b' x s2 dn ((al_bd.mp q').mono (fun r b2 h2 => ?_) (fun _ _ _ z => z))
      cases r with
      | nx w' => exact fun U3 σ3 H3 e3 s3 => ⟨b2, w', U3, s3, e'.trans (ev2.trans e3), Al.mono (fun _ _ z => z.ev (ev2.trans e3)) (fun _ _ _ z => z) h2⟩
      | ct w' => exact fun U3 σ3 H3 e3 s3 => ⟨b2, w', U3, s3, e'.trans (ev2.trans e3), Al.mono (fun _ _ z => z.ev (ev2.trans e3)) (fun _ _ _ z => z) h2⟩
      | bk w' => exact fun U3 σ3 H3 e3 s3 => h2 U3 σ3 H3 (ev2.trans e3) s3
      | rt d => exact h2
  · have e : i = ds.length := by omega
    subst e
    rw [List.drop_length] at q'
    exact .inl ⟨it2 (rfl), q' U' σ' H' Ev.refl s'⟩
end
end Gp
end
section
set_option Elab.async false
set_option linter.all false
set_option maxRecDepth 100000
set_option maxHeartbeats 4000000
namespace Gp
open PySem PySem.Spec PyProof.Rows L2 Gh
section
variable {g : Gw} {Mt U0 U U' : Addr → Prop} {H0 H H' H1 H2 : Hp} {b b1 : Nat} {σ : L2.St} {ε ε' : Env} {E : XK} {W L W' : Type}
variable {env : W → Env} {envL : L → Env} {env' : W' → Env} {u ta tb : TS} {te : TE} {me : Tr D}
theorem ss_for {wi : TI} {gt : TG} {mi : Tr (List D)} {f : D → W' → Tr (Fl W' W')} {w0 : W'} {tb : TS} {k : W' → Tr (Fl W L)} (env' : W' → Env) (hi : SI g E ε wi mi) (l : Le (env' w0) ε) (hb : ∀ d w, SX g E (env' w) d gt tb env' env' (f d w)) (hk : ∀ w, SS g E (env' w) u env envL (k w)) :
    SS g E ε (tSeq (tFor wi gt tb) u) env envL (bdF (bd mi fun ds => forF f ds w0) k) := (ss_for0 hi l hb).seq hk
def itD : D → Tr (List D)
  | .lst ds => .ok ds
  | .tup ds => .ok ds
  | .str x => .ok (x.cps.toList.map fun c => .str ⟨#[c]⟩)
  | _ => .bad
theorem den_lst {v : V} {ds : List D} (h : Den g U H v (.lst ds)) : ∃ a vs, v = .ref a ∧ H a = some (.lst vs) ∧ ¬ U a ∧ vs.length ≤ sizeLine ∧ DenL g U H vs ds := by
  cases h with
  | lst h n l k => exact ⟨_, _, rfl, h, n, l, k⟩
theorem den_str {v : V} {x : Str} (h : Den g U H v (.str x)) : v = .str x ∧ x.length ≤ sizeLine := by
  cases h with
  | str x h => exact ⟨rfl, h⟩
theorem den_int {v : V} {i : Int} (h : Den g U H v (.int i)) : v = .int i := by cases h; rfl
theorem den1 {c : Nat} : Den g U H (.str ⟨#[c]⟩) (.str ⟨#[c]⟩) := .str _ (by show 1 ≤ sizeLine; decide)
theorem itd_lst {a : Addr} {vs : List V} {ds : List D} (h : H a = some (.lst vs)) (n : ¬ U a) (k : DenL g U H vs ds) : ItD g U H (Itl g.K a) ds := fun i U1 H1 b e w u => by
  have h1 : H1 a = some (.lst vs) := e.keep _ _ h n (fun _ z => by cases z)
  refine ⟨fun d hd => ?_, fun hl => ⟨vs, SqL.of h1, by rw [k.length]; exact Nat.le_of_eq hl⟩⟩
  obtain ⟨v, hv, dn⟩ := k.getD hd
  refine ⟨⟨vs, v, SqL.of h1, hv⟩, ?_⟩
  rintro x H2 ⟨rfl, hx⟩
  have e2 := hx vs (SqL.of h1)
  rw [hv] at e2
  cases e2
  exact ⟨dn.ev e, fun _ _ z => z⟩
theorem itd_tup {a : Addr} {vs : List V} {ds : List D} (h : ∀ U1 H1, Ev U H U1 H1 → SqT g.K H1 a vs) (k : DenL g U H vs ds) : ItD g U H (Itt g.K a) ds := fun i U1 H1 b e w u => by
  have h1 := h U1 H1 e
  refine ⟨fun d hd => ?_, fun hl => ⟨vs, h1, by rw [k.length]; exact Nat.le_of_eq hl⟩⟩
  obtain ⟨v, hv, dn⟩ := k.getD hd
  refine ⟨⟨vs, v, h1, hv⟩, ?_⟩
  rintro x H2 ⟨rfl, hx⟩
  have e2 := hx vs h1
  rw [hv] at e2
  cases e2
  exact ⟨dn.ev e, fun _ _ z => z⟩
theorem den_tupE {v : V} {ds : List D} (h : Den g U H v (.tup ds)) : ∃ a vs, v = .ref a ∧ (∀ U1 H1, Ev U H U1 H1 → SqT g.K H1 a vs) ∧ vs.length ≤ sizeLine ∧ DenL g U H vs ds := by
  cases h with
  | tup h n l k => exact ⟨_, _, rfl, fun U1 H1 e => SqT.of (e.keep _ _ h n (fun _ z => by cases z)), l, k⟩
  | tupW h l k => exact ⟨_, _, rfl, fun U1 H1 e => h H1, l, k⟩
theorem itd_str (x : Str) : ItD g U H (Its x) (x.cps.toList.map fun c => .str ⟨#[c]⟩) := fun i U1 H1 b e w u => by
  refine ⟨fun d hd => ?_, fun hl => by rw [List.length_map, Array.length_toList] at hl; exact Nat.le_of_eq hl⟩
  rw [List.getElem?_map] at hd
  cases q : x.cps.toList[i]? with
  | none => rw [q] at hd; cases hd
  | some c =>
    rw [q] at hd
    cases hd
    have hi : i < x.cps.size := by
      have := (List.getElem?_eq_some_iff.mp q).1
      rw [Array.length_toList] at this
      exact this
    refine ⟨hi, ?_⟩
    rintro y H2 ⟨rfl, c', hc, rfl⟩
    rw [Array.getElem?_toList] at q
    rw [q] at hc
    cases hc
    exact ⟨den1, fun _ _ z => z⟩
def iSeq (K : PySem.W.Frag) (te : TE) : TI := fun σ H R => te σ H fun x H1 => (∃ a, x = .ref a ∧ (∃ xs, SqL K H1 a xs) ∧ R (Itl K a) H1) ∨ (∃ a, x = .ref a ∧ (∃ xs, SqT K H1 a xs) ∧ R (Itt K a) H1) ∨ ∃ z, x = .str z ∧ R (Its z) H1
theorem pi_seq {X : Cx} {K : PySem.W.Frag} {tg e : Expr} {te : TE} (hK : X.K = K) (he : PE X e te) : PI X tg e (iSeq K te) := by
  subst hK
  refine ⟨fun pins s σ H R I h => ?_⟩
  refine thn (he.run pins s σ H _ I h) fun v s1 ⟨x, H1, I1, r1, q1⟩ => ?_
  rcases q1 with ⟨a, e, ⟨xs, hq⟩, q⟩ | ⟨a, e, ⟨xs, hq⟩, q⟩ | ⟨z, ex, q⟩
  · subst e
    cases r1
    obtain ⟨its, rv, p, hz⟩ := I1.list hq
    refine wpAny_pyIter_list p.isList ?_
    refine ⟨s1.heap.objs.size, [s1.heap.objs.size], _, _, H1, rfl, I1.kept (t' := s1.toks) fun b o e => Heap.get?_push_of_some _ e, turn_list a _, ⟨_, Heap.get?_push_size _ rfl, rfl, rfl⟩, fun b hb => ?_, q⟩
    have e : b = s1.heap.objs.size := by simpa using hb
    subst e
    exact I1.fpOk (Nat.le_refl _) (I1.hok.fresh (Nat.le_refl _))
  · subst e
    cases r1
    obtain ⟨its, rv, p, hz⟩ := I1.tuple hq
    refine wpAny_pyIter_tuple (show s1.heap.IsTuple a its.toArray from p) ?_
    refine ⟨s1.heap.objs.size, [s1.heap.objs.size], _, _, H1, rfl, I1.kept (t' := s1.toks) fun b o e => Heap.get?_push_of_some _ e, turn_tuple a _, ⟨_, Heap.get?_push_size _ rfl, rfl, rfl⟩, fun b hb => ?_, q⟩
    have e : b = s1.heap.objs.size := by simpa using hb
    subst e
    exact I1.fpOk (Nat.le_refl _) (I1.hok.fresh (Nat.le_refl _))
  · subst ex
    obtain ⟨t, rfl⟩ := r1
    cases ha : z.cps.all (· < 128)
    · exact wpAny_pyIter_wide ha (pi_one (tk := s1.toks) I1 _ (turn_str _ z t "str_iterator" (.inr rfl)) ⟨_, Heap.get?_push_size _ rfl, rfl, rfl⟩ q)
    · exact wpAny_pyIter_ascii ha (pi_one (tk := s1.toks) I1 _ (turn_str _ z t "str_ascii_iterator" (.inl rfl)) ⟨_, Heap.get?_push_size _ rfl, rfl, rfl⟩ q)
theorem si_seq (he : SE g E ε te me) : SI g E ε (iSeq g.K te) (bd me itD) := fun U σ H b R rl wd u q =>
  he.step rl wd u q fun v d H1 b1 d1 w1 f1 R1 u1 q1 => by
    cases d with
    | lst ds =>
      obtain ⟨a, vs, rfl, h, n, l, k⟩ := den_lst d1
      exact .inl ⟨a, rfl, ⟨vs, SqL.of h⟩, q1 _ H1 (by rw [← k.length]; exact l) (itd_lst h n k) w1 f1⟩
    | tup ds =>
      obtain ⟨a, vs, rfl, h, l, k⟩ := den_tupE d1
      exact .inr (.inl ⟨a, rfl, ⟨vs, h U H1 Ev.refl⟩, q1 _ H1 (by rw [← k.length]; exact l) (itd_tup h k) w1 f1⟩)
    | str x =>
      obtain ⟨rfl, l⟩ := den_str d1
      exact .inr (.inr ⟨x, rfl, q1 _ H1 (by rw [List.length_map, Array.length_toList]; exact l) (itd_str x) w1 f1⟩)
    | _ => exact q1.elim
def rgD (lo : Int) (n : Nat) : List D := (List.range n).map fun i => .int (lo + (i : Nat))
theorem itd_rg (lo : Int) (n : Nat) : ItD g U H (Itr lo n) (rgD lo n) := fun i U1 H1 b e w u => by
  refine ⟨fun d hd => ?_, fun hl => by unfold rgD at hl; rw [List.length_map, List.length_range] at hl; exact Nat.le_of_eq hl⟩
  unfold rgD at hd
  rw [List.getElem?_map] at hd
  have hi : i < n := by
    cases q : (List.range n)[i]? with
    | none => rw [q] at hd; cases hd
    | some c =>
      have := (List.getElem?_eq_some_iff.mp q).1
      rwa [List.length_range] at this
  rw [List.getElem?_range hi] at hd
  cases hd
  refine ⟨hi, ?_⟩
  rintro y H2 ⟨rfl, rfl⟩
  exact ⟨.int _, fun _ _ z => z⟩
def rg1 (x : D) : Tr (List D) := match x with
  | .int j => if -(2 ^ 62) ≤ j ∧ j ≤ 16777216 then .ok (rgD 0 j.toNat) else .bad
  | _ => .bad
theorem si_rg1 {t : TA} {m : Tr (List D)} (ha : SA g E ε t m) : SI g E ε (iRng1 t) (bd m (ul1 rg1)) := fun U σ H b R rl wd u q =>
  ha.step rl wd u q fun v d H1 b1 d1 w1 f1 R1 u1 q1 => by
    obtain ⟨x, rfl, q2⟩ := al_ul1 q1
    obtain ⟨v, rfl, e1⟩ := denL_1 d1
    cases x with
    | int j =>
      cases den_int e1
      unfold rg1 at q2
      dsimp only at q2
      split at q2
      · rename_i hj
        exact ⟨j, rfl, hj.1, by omega, q2 _ H1 (by unfold rgD; rw [List.length_map, List.length_range, sizeLine_eq]; omega) (itd_rg 0 _) w1 f1⟩
      · exact q2.elim
    | _ => exact q2.elim
def lcF (f : D → Tr (Option D)) : List D → Tr (List D)
  | [] => .ok []
  | x :: xs => bd (f x) fun o => bd (lcF f xs) fun r => .ok (match o with | some y => y :: r | none => r)
theorem lcF_nil (f : D → Tr (Option D)) : lcF f [] = .ok [] := rfl
theorem lcF_cons (f : D → Tr (Option D)) (x : D) (xs : List D) : lcF f (x :: xs) = bd (f x) fun o => bd (lcF f xs) fun r => .ok (match o with | some y => y :: r | none => r) := rfl
def okO (g : Gw) (U : Addr → Prop) (H : Hp) (Q : Option V → Hp → Prop) : Option D → Nat → Prop
  | some y, b => ∀ w H', Den g U H' w y → Wd g H' b → Fr H H' g.p → Q (some w) H'
  | none, b => ∀ H', Wd g H' b → Fr H H' g.p → Q none H'
def SC (g : Gw) (ε : Env) (d : D) (gt : TG) (tt : TT) (te : TE) (vs : List Nat) (m : Tr (Option D)) : Prop := ∀ U σ H b v (Q : Option V → Hp → Prop), Rel g U H σ ε → Wd g H b → UOk g U H → Den g U H v d → Al (okO g U H Q) (fun _ _ _ => False) m b →
  gt v (wipe σ vs) H fun σ2 H2 => wipe σ2 vs = wipe σ vs ∧ tt σ2 H2 fun k H3 => if k = true then te σ2 H3 (fun y H4 => Q (some y) H4) else Q none H3
theorem al_noX {α : Type} {P : α → Nat → Prop} {X : Str → Fs → Nat → Prop} {m : Tr α} (h : Al P X (nox m) b) : Al P (fun _ _ _ => False) m b := al_nox h
theorem se_lc {wi : TI} {gt : TG} {tt : TT} {vs : List Nat} {mi : Tr (List D)} {f : D → Tr (Option D)} (hi : SI g E ε wi mi) (hf : ∀ d, SC g ε d gt tt te vs (f d)) : SE g E ε (tLc wi gt tt te vs) (bd mi fun ds => bd (lcF (fun d => nox (f d)) ds) fun r => .ok (.lst r)) := fun U σ H b Q rl wd u q => by
  refine hi U σ H b _ rl wd u ((al_bd.mp q).mono (fun ds b1 h1 J H1 hsz it w1 f1 => ?_) (fun _ _ _ h => h))
  intro A nA
  have u1 := u.fr f1 w1
  have nUA : ¬ U A := u1.new nA
  have hp : A ≠ g.p := fun z => nUA (z ▸ u.p)
  have hc : A ≠ g.c := fun z => nUA (z ▸ u.c)
  have rl1 := (rl.fr u f1).grow nA
  generalize hV : (fun a => U a ∨ a = A) = V at rl1
  have VA : V A := by rw [← hV]; exact .inr rfl
  have VU : ∀ a, U a → V a := fun a z => by rw [← hV]; exact .inl z
  have VO : ∀ a o, H1 a = some o → ¬ U a → ¬ V a := fun a o e n => by
    rw [← hV]
    rintro (z | z)
    · exact n z
    · exact ne_of_none e nA z
  have uv : ∀ {H' : Hp} {b : Nat} {o : List L2.V}, Fr H1 H' g.p → Wd g H' b → H' A = some (.lst o) → UOk g V H' := fun f w h => ⟨VU _ u.p, VU _ u.c, fun a ha => by
    rw [← hV] at ha
    rcases ha with ha | rfl
    · exact (u1.fr f w).al a ha
    · exact ⟨_, h, fun _ z => by cases z⟩⟩
  refine ⟨fun i m H' => ∃ b' accV accD, m = ds.length - i ∧ i ≤ ds.length ∧ accV.length ≤ i ∧ H' A = some (.lst accV) ∧ DenL g V H' accV accD ∧ Wd g H' b' ∧ Fr H1 H' g.p ∧ Al (fun r b => okP g U H Q (.lst (accD ++ r)) b) (exP g U E H) (lcF (fun d => nox (f d)) (ds.drop i)) b', ?_, ?_⟩
  · refine ⟨ds.length, b1, [], [], by simp, Nat.zero_le _, Nat.zero_le _, upd_same, .nil, w1.same (same_new nA), fr_same (same_new nA), ?_⟩
    exact (al_bd.mp h1).mono (fun r b h => h) (fun _ _ _ h => h)
  · rintro i m H' ⟨b', accV, accD, rfl, hle, hla, hA, dA, w', f', q'⟩
    have u' := uv f' w' hA
    have ev' : Ev U H1 V H' := ⟨fun a o e n t => f' a o e (fun z => n (z ▸ u.p)) t, fun a o e n _ => VO a o e n⟩
    obtain ⟨it1, it2⟩ := it i V H' b' ev' w' u'
    by_cases hlt : i < ds.length
    · have ei : ds[i]? = some ds[i] := List.getElem?_eq_getElem hlt
      obtain ⟨go, y⟩ := it1 _ ei
      rw [List.drop_eq_getElem_cons hlt, lcF_cons] at q'
      refine .inr ⟨go, fun H' => ∃ b' accV accD, accV.length ≤ i + 1 ∧ H' A = some (.lst accV) ∧ DenL g V H' accV accD ∧ Wd g H' b' ∧ Fr H1 H' g.p ∧ Al (fun r b => okP g U H Q (.lst (accD ++ r)) b) (exP g U E H) (lcF (fun d => nox (f d)) (ds.drop (i + 1))) b', ?_, ?_⟩
      · rintro H2 ⟨b2, av, ad, h1, h2⟩
        exact ⟨ds.length - (i + 1), by omega, b2, av, ad, rfl, hlt, h1, h2⟩
      · intro x H2 hy
        obtain ⟨dn, sm⟩ := y x H2 hy
        have w2 := w'.same sm
        have f2 : Fr H1 H2 g.p := f'.trans (fr_same sm)
        have hA2 := sm _ _ hA
        refine hf ds[i] V σ H2 b' x (fun o H4 => match o with
          | some y => ∃ acc, H4 A = some (.lst acc) ∧ acc.length < sizeLine ∧ ∃ b' accV accD, accV.length ≤ i + 1 ∧ (upd H4 A (.lst (acc ++ [y]))) A = some (.lst accV) ∧ DenL g V (upd H4 A (.lst (acc ++ [y]))) accV accD ∧ Wd g (upd H4 A (.lst (acc ++ [y]))) b' ∧ Fr H1 (upd H4 A (.lst (acc ++ [y]))) g.p ∧ Al (fun r b => okP g U H Q (.lst (accD ++ r)) b) (exP g U E H) (lcF (fun d => nox (f d)) (ds.drop (i + 1))) b'
          | none => ∃ b' accV accD, accV.length ≤ i + 1 ∧ H4 A = some (.lst accV) ∧ DenL g V H4 accV accD ∧ Wd g H4 b' ∧ Fr H1 H4 g.p ∧ Al (fun r b => okP g U H Q (.lst (accD ++ r)) b) (exP g U E H) (lcF (fun d => nox (f d)) (ds.drop (i + 1))) b')
          (rl1.frp (VU _ u.p) f2) w2 (uv f2 w2 hA2) dn ((al_noX (al_bd.mp q')).mono (fun o b2 h2 => ?_) (fun _ _ _ z => z))
        have h3 := al_bd.mp h2
        cases o with
        | some y =>
          intro w H4 dw w4 f4
          have hA4 := f4 _ _ hA2 hp (fun _ z => by cases z)
          have e4 : ExtU V H4 (upd H4 A (.lst (accV ++ [w]))) := fun a o e n _ => by
            rw [upd_ne (fun z => n (by rw [z]; exact VA))]
            exact e
          have k4 : Keep H4 (upd H4 A (.lst (accV ++ [w]))) A := fun a o e n => by rw [upd_ne n]; exact e
          refine ⟨accV, hA4, Nat.lt_of_le_of_lt hla (Nat.lt_of_lt_of_le hlt hsz), b2, accV ++ [w], accD ++ [y], ?_, upd_same, ?_, ?_, ?_, ?_⟩
          · rw [List.length_append]
            exact Nat.add_le_add_right hla 1
          · exact DenL.append ((dA.ext (extU_of (VU _ u.p) ((fr_same sm).trans f4))).ext e4) (.cons (dw.ext e4) .nil)
          · exact ⟨w4.pen.keep k4 hp hc, tabs_keepL k4 hA4 w4.tabs⟩
          · intro a o e n t
            rw [upd_ne (ne_of_none e nA)]
            exact f4 _ _ (f2 a o e n t) n t
          · exact h3.mono (fun r b h => by
              have : okP g U H Q (.lst (accD ++ (y :: r))) b := h
              rw [List.append_cons] at this
              exact this) (fun _ _ _ z => z)
        | none =>
          intro H4 w4 f4
          exact ⟨b2, accV, accD, Nat.le_succ_of_le hla, f4 _ _ hA2 hp (fun _ z => by cases z), dA.ext (extU_of (VU _ u.p) ((fr_same sm).trans f4)), w4, f2.trans f4, h3.mono (fun r b h => h) (fun _ _ _ z => z)⟩
    · have e : i = ds.length := by omega
      subst e
      rw [List.drop_length, lcF_nil] at q'
      refine .inl ⟨it2 (rfl), ?_⟩
      have q2 : okP g U H Q (.lst (accD ++ [])) b' := q'
      rw [List.append_nil] at q2
      exact q2 _ H' (.lst hA nUA (Nat.le_trans hla hsz) (dA.sub fun a _ z => VU a z)) w' (f1.trans f')
end
end Gp
end
section
set_option Elab.async false
set_option linter.all false
set_option maxRecDepth 100000
set_option maxHeartbeats 4000000
namespace Gp
open PySem PySem.Spec PyProof.Rows L2 Gh
section
variable {g : Gw} {Mt U0 U U' : Addr → Prop} {H0 H H' H1 H2 : Hp} {b b1 : Nat} {σ : L2.St} {ε ε' : Env} {E : XK} {W L W' : Type}
variable {env : W → Env} {envL : L → Env} {env' : W' → Env} {u ta tb : TS} {te : TE} {me : Tr D}
theorem sc_map {i : Nat} {d : D} (he : SE g EF (ε.set i (.fz d)) te me) : SC g ε d (gName i) tYes te [i] (bd me fun y => .ok (some y)) := fun U σ H b v Q rl wd u dn q => by
  have e1 : wipe σ [i] = σ.set i none := rfl
  rw [e1]
  show wipe ((σ.set i none).set i (some v)) [i] = _ ∧ _
  rw [List.set_set]
  refine ⟨?_, ?_⟩
  · show (σ.set i (some v)).set i none = _
    rw [List.set_set]
  · show te (σ.set i (some v)) H fun y H4 => Q (some y) H4
    refine he.step (rl.set i dn) wd u (q.mono (fun _ _ z => z) (fun _ _ _ z => exP.F z)) fun y e H2 b2 d2 w2 f2 R2 u2 q2 => ?_
    exact q2 y H2 d2 w2 f2
theorem ownAt_setO {i j : Nat} {v : V} {ds : List D} {a : Addr} (h : OwnAt (σ.set i (some v)) (ε.set i (.ow ds)) j a) : (i = j ∧ v = .ref a) ∨ (i ≠ j ∧ OwnAt σ ε j a) := by
  obtain ⟨h1, h2⟩ := h
  by_cases e : i = j
  · subst e
    rw [List.getElem?_set_self'] at h1
    cases q : σ[i]? with
    | none => rw [q] at h1; cases h1
    | some z => rw [q] at h1; cases h1; exact .inl ⟨rfl, rfl⟩
  · rw [List.getElem?_set_ne e] at h1 h2
    exact .inr ⟨e, h1, h2⟩
theorem own_new {A : Addr} {vs : List V} {ds : List D} {i : Nat} (s : Stt g Mt U0 H0 U σ H b ε) (n : H A = none) (l : vs.length ≤ sizeLine) (dn : DenL g U H vs ds) (hA : A ≠ 0 ∨ True := .inr trivial) :
    Stt g Mt U0 H0 (fun a => U a ∨ a = A) (σ.set i (some (.ref A))) (upd H A (.lst vs)) b (ε.set i (.ow ds)) ∧ Ev U H (fun a => U a ∨ a = A) (upd H A (.lst vs)) := by
  have sm := same_new (o := .lst vs) n
  have nU : ¬ U A := s.uok.new n
  have hp : A ≠ g.p := fun z => nU (z ▸ s.uok.p)
  have hc : A ≠ g.c := fun z => nU (z ▸ s.uok.c)
  have r1 : Rel g (fun a => U a ∨ a = A) (upd H A (.lst vs)) σ ε := (s.rel.grow n).frp (.inl s.uok.p) (fr_same sm)
  have sig : ∀ j a, OwnAt σ ε j a → ∃ o, H a = some o := fun j a h => by
    obtain ⟨h1, ⟨ds, h2⟩ | ⟨c, fs, h2⟩⟩ := h
    · obtain ⟨o, e, a', vs, e2, h, _⟩ := s.rel.at_ j _ h2
      rw [h1] at e
      cases e
      cases e2
      exact ⟨_, h⟩
    · obtain ⟨o, e, a', dx, fvs, e2, h, _⟩ := s.rel.at_ j _ h2
      rw [h1] at e
      cases e
      cases e2
      exact ⟨_, h⟩
  refine ⟨⟨⟨by rw [List.length_set, List.length_set]; exact r1.len, fun j x e => ?_, fun j k a ne h1 h2 => ?_⟩, s.wd.same sm, ⟨.inl s.uok.p, .inl s.uok.c, fun a ha => ?_⟩, fun a z => .inl (s.sub a z), fun j a h => ?_, s.ext.trans (fr_same sm), fun j xs a e1 e2 => ?_, fun j c fs a e1 e2 => ?_⟩, fun a o e _ _ => sm a o e, fun a o e n1 _ => ?_⟩
  · by_cases q : i = j
    · subst q
      have hl : i < ε.length := by
        cases z : ε[i]? with
        | none => rw [List.getElem?_set_self', z] at e; cases e
        | some w => exact (List.getElem?_eq_some_iff.mp z).1
      rw [List.getElem?_set_self hl] at e
      cases e
      exact ⟨_, List.getElem?_set_self (by rw [r1.len]; exact hl), A, vs, rfl, upd_same, l, (dn.grow n).ext (fun a o e _ _ => sm a o e), .inr rfl, hp, hc⟩
    · rw [List.getElem?_set_ne q] at e ⊢
      exact r1.at_ j x e
  · rcases ownAt_setO h1 with ⟨rfl, z1⟩ | ⟨n1, z1⟩ <;> rcases ownAt_setO h2 with ⟨rfl, z2⟩ | ⟨n2, z2⟩
    · exact ne rfl
    · cases z1
      obtain ⟨o, e⟩ := sig _ _ z2
      rw [n] at e
      cases e
    · cases z2
      obtain ⟨o, e⟩ := sig _ _ z1
      rw [n] at e
      cases e
    · exact s.rel.apart j k a ne z1 z2
  · rcases ha with ha | rfl
    · obtain ⟨o, e, t⟩ := s.uok.al a ha
      exact ⟨o, sm a o e, t⟩
    · exact ⟨_, upd_same, fun _ z => by cases z⟩
  · rcases ownAt_setO h with ⟨rfl, z⟩ | ⟨_, z⟩
    · cases z
      by_cases m : Mt A
      · exact .inl m
      · refine .inr fun o q => ?_
        by_cases t : ∃ ps, o = .tbl ps
        · exact t
        · have := s.ext A o q hp m (fun ps z => t ⟨ps, z⟩)
          rw [n] at this
          cases this
    · exact s.own j a z
  · by_cases q : i = j
    · subst q
      rw [List.getElem?_set_self'] at e2
      cases z : σ[i]? with
      | none => rw [z] at e2; cases e2
      | some w =>
        rw [z] at e2
        cases e2
        exact fun h => nU (s.sub _ h)
    · rw [List.getElem?_set_ne q] at e1 e2
      exact s.nu0 j xs a e1 e2
  · by_cases q : i = j
    · subst q
      cases z : ε[i]? with
      | none => rw [List.getElem?_set_self', z] at e1; cases e1
      | some w => rw [List.getElem?_set_self', z] at e1; cases e1
    · rw [List.getElem?_set_ne q] at e1 e2
      exact s.oim j c fs a e1 e2
  · rintro (z | z)
    · exact n1 z
    · exact ne_of_none e n z
def okN (g : Gw) (U : Addr → Prop) (H : Hp) (Q : VK) : List D → Nat → Prop := fun ds b => ∀ A vs H1, H1 A = none → vs.length ≤ sizeLine → DenL g U H1 vs ds → Wd g H1 b → Fr H H1 g.p → Q (.ref A) (upd H1 A (.lst vs))
def SN (g : Gw) (E : XK) (ε : Env) (t : TE) (m : Tr (List D)) : Prop := ∀ U σ H b Q, Rel g U H σ ε → Wd g H b → UOk g U H → Al (okN g U H Q) (exP g U E H) m b → t σ H Q
theorem own_mut {vs' : List V} {ds ds' : List D} {i : Nat} (s : Stt g Mt U0 H0 U σ H b ε) (hi : ε[i]? = some (.ow ds)) : ∃ a vs, σ[i]? = some (some (.ref a)) ∧ H a = some (.lst vs) ∧ vs.length ≤ sizeLine ∧ DenL g U H vs ds ∧ U a ∧ a ≠ g.p ∧ a ≠ g.c ∧
    ∀ vs' ds', vs'.length ≤ sizeLine → DenL g U H vs' ds' → Stt g Mt U0 H0 U σ (upd H a (.lst vs')) b (ε.set i (.ow ds')) ∧ Ev U H U (upd H a (.lst vs')) := by
  obtain ⟨o, eo, a, vs, rfl, h, l, dn, ua, n1, n2⟩ := s.rel.at_ i _ hi
  refine ⟨a, vs, eo, h, l, dn, ua, n1, n2, fun vs' ds' l' dn' => ?_⟩
  have kp : Keep H (upd H a (.lst vs')) a := fun x o e ne => by rw [upd_ne ne]; exact e
  have xt : ExtU U H (upd H a (.lst vs')) := fun x o e ne _ => kp x o e (fun z => ne (z ▸ ua))
  have il : i < ε.length := (List.getElem?_eq_some_iff.mp hi).1
  have ow : ∀ j x, OwnAt σ (ε.set i (.ow ds')) j x → OwnAt σ ε j x := fun j x z => by
    obtain ⟨z1, z2⟩ := z
    by_cases q : i = j
    · subst q
      exact ⟨z1, .inl ⟨ds, hi⟩⟩
    · rw [List.getElem?_set_ne q] at z2
      exact ⟨z1, z2⟩
  have apart : ∀ j x, i ≠ j → OwnAt σ ε j x → x ≠ a := fun j x ne z e => by
    subst e
    exact s.rel.apart i j x ne ⟨eo, .inl ⟨ds, hi⟩⟩ z
  refine ⟨⟨⟨by rw [List.length_set]; exact s.rel.len, fun j x e => ?_, fun j k x ne z1 z2 => s.rel.apart j k x ne (ow _ _ z1) (ow _ _ z2)⟩, ⟨s.wd.pen.keep kp n1 n2, tabs_keepL kp h s.wd.tabs⟩, ⟨s.uok.p, s.uok.c, fun x hx => ?_⟩, s.sub, fun j x z => s.own j x (ow _ _ z), fun x o e m1 m2 m3 => ?_, fun j xs x e1 e2 => ?_, fun j c fs x e1 e2 => ?_⟩, xt, fun _ _ _ n _ => n⟩
  · by_cases q : i = j
    · subst q
      rw [List.getElem?_set_self il] at e
      cases e
      exact ⟨_, eo, a, vs', rfl, upd_same, l', dn'.ext xt, ua, n1, n2⟩
    · rw [List.getElem?_set_ne q] at e
      obtain ⟨o, e1, e2⟩ := s.rel.at_ j x e
      refine ⟨o, e1, ?_⟩
      cases x with
      | no => trivial
      | fz d =>
        obtain ⟨v, e3, e4⟩ := e2
        exact ⟨v, e3, e4.ext xt⟩
      | ow ds2 =>
        obtain ⟨a2, v2, rfl, h2, l2, d2, u2, m1, m2⟩ := e2
        have ne := apart j a2 q ⟨e1, .inl ⟨ds2, e⟩⟩
        exact ⟨a2, v2, rfl, kp _ _ h2 ne, l2, d2.ext xt, u2, m1, m2⟩
      | oi c fs =>
        obtain ⟨a2, dx, v2, rfl, h2, d2, u2, m1, m2⟩ := e2
        have ne := apart j a2 q ⟨e1, .inr ⟨c, fs, e⟩⟩
        exact ⟨a2, dx, v2, rfl, kp _ _ h2 ne, d2.ext xt, u2, m1, m2⟩
  · by_cases q : x = a
    · subst q
      exact ⟨_, upd_same, fun _ z => by cases z⟩
    · obtain ⟨o, e, t⟩ := s.uok.al x hx
      exact ⟨o, kp x o e q, t⟩
  · have q : x ≠ a := fun z => by
      subst z
      rcases s.own i x ⟨eo, .inl ⟨ds, hi⟩⟩ with w | w
      · exact m2 w
      · obtain ⟨ps, z⟩ := w o e
        exact m3 ps z
    exact kp x o (s.ext x o e m1 m2 m3) q
  · by_cases q : i = j
    · subst q
      exact s.nu0 i ds x hi e2
    · rw [List.getElem?_set_ne q] at e1
      exact s.nu0 j xs x e1 e2
  · by_cases q : i = j
    · subst q
      rw [List.getElem?_set_self il] at e1
      cases e1
    · rw [List.getElem?_set_ne q] at e1
      exact s.oim j c fs x e1 e2
theorem ss_app {i : Nat} {ds : List D} {k : D → Tr (Fl W L)} (he : SE g E ε te me) (hk : ∀ d, SS g E (ε.set i (.ow (ds ++ [d]))) u env envL (k d)) (hi : ε[i]? = some (.ow ds) := by rfl) :
    SS g E ε (tSeq (tDrop (tBM g.K "list" rAppend (tVar i) (tCons te tNil))) u) env envL (bd me fun d => if ds.length < sizeLine then k d else .bad) := fun Mt U0 H0 U D σ H b s q => by
  obtain ⟨a, vs, e1, h1, l1, d1, ua, n1, n2, _⟩ := own_mut (vs' := []) (ds' := []) s hi
  refine ⟨.ref a, e1, .inl ⟨rfl, vs, SqL.of h1⟩, ?_⟩
  refine he.sstep s q fun v d H1 b1 dv s1 q1 => ?_
  obtain ⟨a', vs', e2, h2, l2, d2, _, _, _, mt⟩ := own_mut (vs' := []) (ds' := []) s1 hi
  rw [e1] at e2
  cases e2
  by_cases hl : ds.length < sizeLine
  · rw [if_pos hl] at q1
    have hl2 : vs'.length < sizeLine := by rw [d2.length]; exact hl
    obtain ⟨s2, ev⟩ := mt (vs' ++ [v]) (ds ++ [d]) (by rw [List.length_append]; exact hl2) (d2.append (.cons dv .nil))
    exact ⟨a, vs', v, rfl, rfl, h2, hl2, hk d Mt U0 H0 U D σ _ b1 s2 (q1.mono (fun _ _ z => z.ev ev) (fun _ _ _ z => z))⟩
  · rw [if_neg hl] at q1
    exact q1.elim
theorem ss_fz {i : Nat} {ds : List D} {m : Tr (Fl W L)} (hi : ε[i]? = some (.ow ds)) (h : SS g E (ε.set i (.fz (.lst ds))) u env envL m) : SS g E ε u env envL m := fun Mt U0 H0 U D σ H b s q => by
  obtain ⟨a, vs, e1, h1, l1, d1, ua, n1, n2, _⟩ := own_mut (vs' := []) (ds' := []) s hi
  have il : i < ε.length := (List.getElem?_eq_some_iff.mp hi).1
  have sub : ∀ x, (∃ o, H x = some o) → (U x ∧ x ≠ a) → U x := fun x _ z => z.1
  have ow : ∀ j x, OwnAt σ (ε.set i (.fz (.lst ds))) j x → i ≠ j ∧ OwnAt σ ε j x := fun j x z => by
    obtain ⟨z1, z2⟩ := z
    by_cases q : i = j
    · subst q
      exfalso
      rcases z2 with ⟨y, z2⟩ | ⟨y1, y2, z2⟩
      · rw [List.getElem?_set_self il] at z2
        cases z2
      · rw [List.getElem?_set_self il] at z2
        cases z2
    · rw [List.getElem?_set_ne q] at z2
      exact ⟨q, z1, z2⟩
  have apart : ∀ j x, i ≠ j → OwnAt σ ε j x → x ≠ a := fun j x ne z e => by
    subst e
    exact s.rel.apart i j x ne ⟨e1, .inl ⟨ds, hi⟩⟩ z
  have ev : Ev U H (fun x => U x ∧ x ≠ a) H := ⟨fun _ _ e _ _ => e, fun _ _ _ n _ z => n z.1⟩
  refine h Mt U0 H0 (fun x => U x ∧ x ≠ a) D σ H b ⟨⟨by rw [List.length_set]; exact s.rel.len, fun j x e => ?_, fun j k x ne z1 z2 => s.rel.apart j k x ne (ow _ _ z1).2 (ow _ _ z2).2⟩, s.wd, ⟨⟨s.uok.p, n1.symm⟩, ⟨s.uok.c, n2.symm⟩, fun x hx => s.uok.al x hx.1⟩, fun x z => ⟨s.sub x z, fun e => s.nu0 i ds x hi (by rw [e1, e]) z⟩, fun j x z => s.own j x (ow _ _ z).2, s.ext, fun j xs x z1 z2 => ?_, fun j c fs x z1 z2 => ?_⟩ (q.mono (fun _ _ z => z.ev ev) (fun _ _ _ z => z))
  · by_cases q : i = j
    · subst q
      rw [List.getElem?_set_self il] at e
      cases e
      exact ⟨_, e1, _, rfl, .lst h1 (fun z => z.2 rfl) l1 (d1.sub sub)⟩
    · rw [List.getElem?_set_ne q] at e
      obtain ⟨o, e3, e2⟩ := s.rel.at_ j x e
      refine ⟨o, e3, ?_⟩
      cases x with
      | no => trivial
      | fz d =>
        obtain ⟨v, e4, e5⟩ := e2
        exact ⟨v, e4, e5.sub sub⟩
      | ow ds2 =>
        obtain ⟨a2, v2, rfl, h2, l2, d2, u2, m1, m2⟩ := e2
        have ne := apart j a2 q ⟨e3, .inl ⟨ds2, e⟩⟩
        exact ⟨a2, v2, rfl, h2, l2, d2.sub sub, ⟨u2, ne⟩, m1, m2⟩
      | oi c fs =>
        obtain ⟨a2, dx, v2, rfl, h2, d2, u2, m1, m2⟩ := e2
        have ne := apart j a2 q ⟨e3, .inr ⟨c, fs, e⟩⟩
        exact ⟨a2, dx, v2, rfl, h2, d2.sub sub, ⟨u2, ne⟩, m1, m2⟩
  · obtain ⟨q, _, z3⟩ := ow j x ⟨z2, .inl ⟨xs, z1⟩⟩
    rw [List.getElem?_set_ne q] at z1
    exact s.nu0 j xs x z1 z2
  · by_cases q : i = j
    · subst q
      rw [List.getElem?_set_self il] at z1
      cases z1
    · rw [List.getElem?_set_ne q] at z1
      exact s.oim j c fs x z1 z2
end
end Gp
end
section
set_option Elab.async false
set_option linter.all false
set_option maxRecDepth 100000
set_option maxHeartbeats 4000000
namespace Gp
open PySem PySem.Spec PyProof.Rows L2 Gh
section
variable {g : Gw} {Mt U0 U U' : Addr → Prop} {H0 H H' H1 H2 : Hp} {b b1 : Nat} {σ : L2.St} {ε ε' : Env} {E : XK} {W L W' : Type}
variable {env : W → Env} {envL : L → Env} {env' : W' → Env} {u ta tb : TS} {te : TE} {me : Tr D}
def spF (K : PySem.W.Frag) (T : List (Addr × Str)) (F : List D → Tr D) : Sp := fun vs H Q E => ∃ p c U ds b, DenL ⟨K, T, p, c⟩ U H vs ds ∧ Wd ⟨K, T, p, c⟩ H b ∧ UOk ⟨K, T, p, c⟩ U H ∧ Al (okP ⟨K, T, p, c⟩ U H Q) (exP ⟨K, T, p, c⟩ U E H) (F ds) b
theorem fin_ex (c : Str) (fs : Fs) : fin (.ex c fs) = .ex c fs := rfl
def envE : Empty → Env := fun e => nomatch e
theorem rel_start {N : List Str} {vs : List V} {ds : List D} (h : DenL g U H vs ds) : Rel g U H (L2.start N vs) (ds.map Sl.fz ++ List.replicate (N.length - ds.length) Sl.no) := by
  have no : ∀ i a, ¬ OwnAt (L2.start N vs) (ds.map Sl.fz ++ List.replicate (N.length - ds.length) Sl.no) i a := fun i a ⟨_, z⟩ => by
    have : ∀ s : Sl, (ds.map Sl.fz ++ List.replicate (N.length - ds.length) Sl.no)[i]? = some s → (∃ d, s = .fz d) ∨ s = .no := fun s e => by
      have m := List.mem_of_getElem? e
      rcases List.mem_append.mp m with m | m
      · obtain ⟨d, _, e⟩ := List.mem_map.mp m
        exact .inl ⟨d, e.symm⟩
      · exact .inr (List.mem_replicate.mp m).2
    rcases z with ⟨x, z⟩ | ⟨x, y, z⟩
    · rcases this _ z with ⟨d, e⟩ | e <;> cases e
    · rcases this _ z with ⟨d, e⟩ | e <;> cases e
  have hl := h.length
  refine ⟨?_, fun i s e => ?_, fun i j a _ h1 _ => (no i a h1).elim⟩
  · unfold L2.start
    simp only [List.length_append, List.length_map, List.length_replicate, hl]
  · unfold L2.start
    by_cases q : i < ds.length
    · rw [List.getElem?_append_left (by rw [List.length_map]; exact q), List.getElem?_map] at e
      rw [List.getElem?_append_left (by rw [List.length_map, hl]; exact q), List.getElem?_map]
      cases z : ds[i]? with
      | none => rw [z] at e; cases e
      | some d =>
        rw [z] at e
        cases e
        obtain ⟨v, hv, dn⟩ := h.getD z
        rw [hv]
        exact ⟨some v, rfl, v, rfl, dn⟩
    · rw [List.getElem?_append_right (by rw [List.length_map]; omega), List.length_map] at e
      rw [List.getElem?_append_right (by rw [List.length_map, hl]; omega), List.length_map, hl]
      have m := List.mem_of_getElem? e
      obtain ⟨n0, rfl⟩ := List.mem_replicate.mp m
      have i1 := (List.getElem?_eq_some_iff.mp e).1
      rw [List.length_replicate] at i1
      exact ⟨none, by rw [List.getElem?_replicate, if_pos i1], trivial⟩
theorem fn_of {K : PySem.W.Frag} {T : List (Addr × Str)} {N : List Str} {F : List D → Tr D} {vs : List V} {Q : VK} {t : TS} {envU : Unit → Env} (h : spF K T F vs H Q E)
    (hs : ∀ p c ds, (∃ (P : D → Nat → Prop) (X : Str → Fs → Nat → Prop) (b : Nat), Al P X (F ds) b) → ∃ m, F ds = fin m ∧ SS ⟨K, T, p, c⟩ E (ds.map Sl.fz ++ List.replicate (N.length - ds.length) Sl.no) t envU envE m) : t { nx := fun _ H' => Q .non H', rt := Q } (L2.start N vs) H := by
  obtain ⟨p, c, U, ds, b, dn, wd, u, al⟩ := h
  obtain ⟨m, e, ss⟩ := hs p c ds ⟨_, _, _, al⟩
  rw [e] at al
  have nn : ∀ i a, ¬ OwnAt (L2.start N vs) (ds.map Sl.fz ++ List.replicate (N.length - ds.length) Sl.no) i a := fun i a ⟨_, z⟩ => by
    have : ∀ s : Sl, (ds.map Sl.fz ++ List.replicate (N.length - ds.length) Sl.no)[i]? = some s → (∃ d, s = .fz d) ∨ s = .no := fun s e => by
      have m := List.mem_of_getElem? e
      rcases List.mem_append.mp m with m | m
      · obtain ⟨d, _, e⟩ := List.mem_map.mp m
        exact .inl ⟨d, e.symm⟩
      · exact .inr (List.mem_replicate.mp m).2
    rcases z with ⟨x, z⟩ | ⟨x, y, z⟩
    · rcases this _ z with ⟨d, e⟩ | e <;> cases e
    · rcases this _ z with ⟨d, e⟩ | e <;> cases e
  refine ss (fun _ => False) U H U _ _ H b ⟨rel_start dn, wd, u, fun _ z => z, fun i a z => (nn i a z).elim, fun _ _ z _ _ _ => z, fun i ds' a z1 z2 => (nn i a ⟨z2, .inl ⟨ds', z1⟩⟩).elim, fun i c fs a z1 z2 => (nn i a ⟨z2, .inr ⟨c, fs, z1⟩⟩).elim⟩ ((al_bd.mp al).mono (fun f b1 h1 => ?_) (fun c fs b1 h1 => ?_))
  · cases f with
    | nx w => exact fun U' σ' H' e s => h1 .non H' .non s.wd fun a o z1 z2 z3 => s.ext a o z1 z2 (fun z => z) z3
    | rt d => exact fun v H' dn w f => h1 v H' dn w fun a o z1 z2 z3 => f a o z1 z2 (fun z => z) z3
    | bk e => exact nomatch e
    | ct e => exact nomatch e
  · exact fun dd fvs H' z1 z2 z3 z4 z5 => h1 dd fvs H' z1 z2 z3 z4 fun a o y1 y2 y3 => z5 a o y1 y2 (fun z => z) y3
theorem le_no : ∀ (ε : Env) {n : Nat}, ε.length = n → Le (List.replicate n Sl.no) ε
  | [], _, rfl => .nil
  | x :: r, _, rfl => by
    show Le (List.replicate (r.length + 1) Sl.no) (x :: r)
    rw [List.replicate_succ]
    exact .n (le_no r rfl)
theorem fn_of1 {K : PySem.W.Frag} {T : List (Addr × Str)} {N : List Str} {F : D → Tr D} {vs : List V} {Q : VK} {t : TS} {envU : Unit → Env} {m : D → Tr (Fl Unit Empty)} (h : spF K T (ul1 F) vs H Q E) (hF : ∀ x, F x = fin (m x)) (hs : ∀ p c x, SS ⟨K, T, p, c⟩ E ([x].map Sl.fz ++ List.replicate (N.length - 1) Sl.no) t envU envE (m x)) : t { nx := fun _ H' => Q .non H', rt := Q } (L2.start N vs) H :=
  fn_of h fun p c ds ⟨_, _, _, al⟩ => by
    obtain ⟨x, rfl, _⟩ := al_ul1 al
    exact ⟨m x, hF x, hs p c x⟩
theorem fn_of2 {K : PySem.W.Frag} {T : List (Addr × Str)} {N : List Str} {F : D → D → Tr D} {vs : List V} {Q : VK} {t : TS} {envU : Unit → Env} {m : D → D → Tr (Fl Unit Empty)} (h : spF K T (ul2 F) vs H Q E) (hF : ∀ x y, F x y = fin (m x y)) (hs : ∀ p c x y, SS ⟨K, T, p, c⟩ E ([x, y].map Sl.fz ++ List.replicate (N.length - 2) Sl.no) t envU envE (m x y)) : t { nx := fun _ H' => Q .non H', rt := Q } (L2.start N vs) H :=
  fn_of h fun p c ds ⟨_, _, _, al⟩ => by
    obtain ⟨x, y, rfl, _⟩ := al_ul2 al
    exact ⟨m x y, hF x y, hs p c x y⟩
theorem fn_of3 {K : PySem.W.Frag} {T : List (Addr × Str)} {N : List Str} {F : D → D → D → Tr D} {vs : List V} {Q : VK} {t : TS} {envU : Unit → Env} {m : D → D → D → Tr (Fl Unit Empty)} (h : spF K T (ul3 F) vs H Q E) (hF : ∀ x y z, F x y z = fin (m x y z)) (hs : ∀ p c x y z, SS ⟨K, T, p, c⟩ E ([x, y, z].map Sl.fz ++ List.replicate (N.length - 3) Sl.no) t envU envE (m x y z)) : t { nx := fun _ H' => Q .non H', rt := Q } (L2.start N vs) H :=
  fn_of h fun p c ds ⟨_, _, _, al⟩ => by
    obtain ⟨x, y, z, rfl, _⟩ := al_ul3 al
    exact ⟨m x y z, hF x y z, hs p c x y z⟩
theorem fn_of4 {K : PySem.W.Frag} {T : List (Addr × Str)} {N : List Str} {F : D → D → D → D → Tr D} {vs : List V} {Q : VK} {t : TS} {envU : Unit → Env} {m : D → D → D → D → Tr (Fl Unit Empty)} (h : spF K T (ul4 F) vs H Q E) (hF : ∀ x y z w, F x y z w = fin (m x y z w)) (hs : ∀ p c x y z w, SS ⟨K, T, p, c⟩ E ([x, y, z, w].map Sl.fz ++ List.replicate (N.length - 4) Sl.no) t envU envE (m x y z w)) : t { nx := fun _ H' => Q .non H', rt := Q } (L2.start N vs) H :=
  fn_of h fun p c ds ⟨_, _, _, al⟩ => by
    obtain ⟨x, y, z, w, rfl, _⟩ := al_ul4 al
    exact ⟨m x y z w, hF x y z w, hs p c x y z w⟩
theorem spF_len {K : PySem.W.Frag} {T : List (Addr × Str)} {F : List D → Tr D} {n : Nat} (hn : ∀ (P : D → Nat → Prop) (X : Str → Fs → Nat → Prop) ds b, Al P X (F ds) b → ds.length = n) {vs : List V} {Q : VK} (h : spF K T F vs H Q E) : vs.length = n := by
  obtain ⟨p, c, U, ds, b, dn, wd, u, al⟩ := h
  rw [dn.length]
  exact hn _ _ _ _ al
theorem len1 {F : D → Tr D} (P : D → Nat → Prop) (X : Str → Fs → Nat → Prop) (ds : List D) (b : Nat) (h : Al P X (ul1 F ds) b) : ds.length = 1 := by obtain ⟨_, rfl, _⟩ := al_ul1 h; rfl
theorem len2 {F : D → D → Tr D} (P : D → Nat → Prop) (X : Str → Fs → Nat → Prop) (ds : List D) (b : Nat) (h : Al P X (ul2 F ds) b) : ds.length = 2 := by obtain ⟨_, _, rfl, _⟩ := al_ul2 h; rfl
theorem len3 {F : D → D → D → Tr D} (P : D → Nat → Prop) (X : Str → Fs → Nat → Prop) (ds : List D) (b : Nat) (h : Al P X (ul3 F ds) b) : ds.length = 3 := by obtain ⟨_, _, _, rfl, _⟩ := al_ul3 h; rfl
theorem len4 {F : D → D → D → D → Tr D} (P : D → Nat → Prop) (X : Str → Fs → Nat → Prop) (ds : List D) (b : Nat) (h : Al P X (ul4 F ds) b) : ds.length = 4 := by obtain ⟨_, _, _, _, rfl, _⟩ := al_ul4 h; rfl
theorem srl_sp0 {F : List D → Tr D} : SRL g E (rSp (spF g.K g.T F) [] E) F := fun U H b xs dxs Q dn wd u q =>
  ⟨g.p, g.c, U, dxs, b, by rw [List.append_nil]; exact dn, wd, u, q⟩
theorem al_isO {α : Type} {P : α → Nat → Prop} {X : Str → Fs → Nat → Prop} {c : Str} {o : D} {k : Fs → Tr α} (h : Al P X (isO c o k) b) : ∃ fs, o = .obj c fs ∧ Al P X (k fs) b := by
  unfold isO at h
  split at h
  · split at h
    · rename_i e
      subst e
      exact ⟨_, rfl, h⟩
    · exact h.elim
  · exact h.elim
theorem den_obj {v : V} {c : Str} {fs : Fs} (h : Den g U H v (.obj c fs)) : ∃ a dx fvs, v = .ref a ∧ H a = some (.ins (gd c g.K) dx fvs) ∧ ¬ U a ∧ DenF g U H fvs fs := by
  cases h with
  | obj h n k => exact ⟨_, _, _, rfl, h, n, k⟩
theorem se_pr {c : Str} {F : List D → Tr D} {ta : TE} {ma : Tr D} (ha : SE g EF ε ta ma) : SE g EF ε (tPr (gd c g.K) (spF g.K g.T F) [] EF ta) (bd ma fun o => isO c o fun _ => F [o]) := fun U σ H b Q R W u q =>
  ha.step R W u q fun v d H1 b1 d1 w1 f1 R1 u1 q1 => by
    obtain ⟨fs, rfl, q2⟩ := al_isO q1
    obtain ⟨a, dx, fvs, rfl, ea, na, df⟩ := den_obj d1
    exact ⟨a, dx, fvs, rfl, ea, g.p, g.c, U, [.obj c fs], b1, .cons d1 .nil, w1, u1, q2.mono (fun _ _ h => h.fr f1) (fun _ _ _ h => h)⟩
def fldD (c f : Str) (o : D) : Tr D := isO c o fun fs => match fs.lookup f with
  | some d => .ok d
  | none => .bad
theorem sr_fld {c f : Str} : SR1 g E (rFld (gd c g.K) f) (fldD c f) := fun U H b x dx Q dn wd u q => by
  obtain ⟨fs, rfl, q2⟩ := al_isO q
  obtain ⟨a, dx, fvs, rfl, ea, na, df⟩ := den_obj dn
  cases e : fs.lookup f with
  | none => rw [e] at q2; exact q2.elim
  | some d =>
    rw [e] at q2
    obtain ⟨v, hv, d1⟩ := df.look e
    exact st_fld ea hv (okP.here q2 wd d1)
def spI (K : PySem.W.Frag) (T : List (Addr × Str)) (cn : Str) (F : Fs → List D → Tr Fs) : Sp := fun vs H Q E => ∃ p c U ds b x dx fvs fs rest, vs = .ref x :: rest ∧ H x = some (.ins (gd cn K) dx fvs) ∧ DenF ⟨K, T, p, c⟩ U H fvs fs ∧ U x ∧ x ≠ p ∧ x ≠ c ∧ DenL ⟨K, T, p, c⟩ U H rest ds ∧
  Wd ⟨K, T, p, c⟩ H b ∧ UOk ⟨K, T, p, c⟩ U H ∧ Al (fun fs' b' => ∀ dx' fvs' H', H' x = some (.ins (gd cn K) dx' fvs') → DenF ⟨K, T, p, c⟩ U H' fvs' fs' → Wd ⟨K, T, p, c⟩ H' b' → FrM ⟨K, T, p, c⟩ (· = x) H H' → Q .non H')
    (fun cn fs b => ∀ dd fvs H', H' dd = some (.xd fvs) → ¬ U dd → DenF ⟨K, T, p, c⟩ U H' fvs fs → Wd ⟨K, T, p, c⟩ H' b → FrM ⟨K, T, p, c⟩ (· = x) H H' → E (.ref (gd cn K)) (some dd) H') (F fs ds) b
theorem srl_mk {cn : Str} {F : Fs → List D → Tr Fs} {dvs : List V} {dds : List D} (hd : ∀ U H, DenL g U H dvs dds) : SRL g E (rMk (gd cn g.K) (spI g.K g.T cn F) dvs E) (fun ds => bd (F [] (ds ++ dds)) fun fs => .ok (.obj cn fs)) := fun U H b xs dxs Q dn wd u q => by
  unfold rMk
  intro x dx nx ndx ne
  have s1 : L2.Same H (upd (upd H dx (.own x)) x (.ins (gd cn g.K) dx [])) := fun a o e => by
    rw [upd_ne (ne_of_none e nx), upd_ne (ne_of_none e ndx)]
    exact e
  have nU : ¬ U x := u.new nx
  have hp : x ≠ g.p := fun z => nU (z ▸ u.p)
  have hc : x ≠ g.c := fun z => nU (z ▸ u.c)
  have sx : ∀ a, (∃ o, H a = some o) → (U a ∨ a = x) → U a := fun a ⟨o, e⟩ z => z.elim (fun z => z) (fun z => (ne_of_none e nx z).elim)
  have k1 : DenL g (fun a => U a ∨ a = x) (upd (upd H dx (.own x)) x (.ins (gd cn g.K) dx [])) (xs ++ dvs) (dxs ++ dds) := ((dn.append (hd U H)).grow nx).ext (fun a o e _ _ => s1 a o e)
  have k2 : UOk g (fun a => U a ∨ a = x) (upd (upd H dx (.own x)) x (.ins (gd cn g.K) dx [])) := ⟨.inl u.p, .inl u.c, fun a ha => by
    rcases ha with ha | rfl
    · obtain ⟨o, e, t⟩ := u.al a ha
      exact ⟨o, s1 a o e, t⟩
    · exact ⟨_, upd_same, fun _ z => by cases z⟩⟩
  have fr : ∀ {H' : Hp}, FrM g (· = x) (upd (upd H dx (.own x)) x (.ins (gd cn g.K) dx [])) H' → Fr H H' g.p := fun f1 a o e n t => f1 a o (s1 a o e) n (fun z => ne_of_none e nx z) t
  exact ⟨g.p, g.c, fun a => U a ∨ a = x, dxs ++ dds, b, x, dx, [], [], xs ++ dvs, rfl, upd_same, .nil, .inr rfl, hp, hc, k1, wd.same s1, k2,
    (al_bd.mp q).mono (fun fs b1 h1 dx' fvs' H' e1 d1 w1 f1 => ⟨rfl, h1 _ H' (.obj e1 nU (d1.sub fun a _ z => .inl z)) w1 (fr f1)⟩) (fun c fs b1 h1 dd fvs H' e1 n1 d1 w1 f1 => h1 dd fvs H' e1 (fun z => n1 (.inl z)) (d1.sub fun a _ z => .inl z) w1 (fr f1))⟩
theorem srl_mk0 {cn : Str} {F : Fs → List D → Tr Fs} : SRL g E (rMk (gd cn g.K) (spI g.K g.T cn F) [] E) (fun ds => bd (F [] ds) fun fs => .ok (.obj cn fs)) := by
  have h := srl_mk (g := g) (E := E) (cn := cn) (F := F) (dvs := []) (dds := []) (fun _ _ => .nil)
  intro U H b xs dxs Q dn wd u q
  refine h U H b xs dxs Q dn wd u ?_
  show Al _ _ (bd (F [] (dxs ++ [])) _) b
  rw [List.append_nil]
  exact q
def finI (m : Tr (Fl Fs Empty)) : Tr Fs := bd m fun f => match f with
  | .nx fs => .ok fs
  | .rt _ => .bad
  | .bk e => nomatch e
  | .ct e => nomatch e
theorem finI_ex (c : Str) (fs : Fs) : finI (.ex c fs) = .ex c fs := rfl
theorem ini_of {K : PySem.W.Frag} {T : List (Addr × Str)} {N : List Str} {cn : Str} {F : Fs → List D → Tr Fs} {vs : List V} {Q : VK} {t : TS} {envI : Fs → Env} (h : spI K T cn F vs H Q E)
    (hs : ∀ p c fs ds, (∃ (P : Fs → Nat → Prop) (X : Str → Fs → Nat → Prop) (b : Nat), Al P X (F fs ds) b) → ∃ m, F fs ds = finI m ∧ SS ⟨K, T, p, c⟩ E (.oi cn fs :: (ds.map Sl.fz ++ List.replicate (N.length - (ds.length + 1)) Sl.no)) t envI envE m)
    (he : ∀ fs, (envI fs)[0]? = some (.oi cn fs)) : t { nx := fun _ H' => Q .non H', rt := Q } (L2.start N vs) H := by
  obtain ⟨p, c, U, ds, b, x, dx, fvs, fs, rest, rfl, hx, df, ux, np, nc, dn, wd, u, al⟩ := h
  obtain ⟨m, e, ss⟩ := hs p c fs ds ⟨_, _, _, al⟩
  rw [e] at al
  have st0 : L2.start N (.ref x :: rest) = some (.ref x) :: (rest.map some ++ List.replicate (N.length - (rest.length + 1)) none) := rfl
  have r1 : Rel ⟨K, T, p, c⟩ U H (rest.map some ++ List.replicate (N.length - (rest.length + 1)) none) (ds.map Sl.fz ++ List.replicate (N.length - (ds.length + 1)) Sl.no) := by
    have z := rel_start (g := ⟨K, T, p, c⟩) (N := N.drop 1) dn
    unfold L2.start at z
    rw [List.length_drop, Nat.sub_sub, Nat.sub_sub, Nat.add_comm 1, Nat.add_comm 1] at z
    exact z
  have nn : ∀ i a, ¬ OwnAt (rest.map some ++ List.replicate (N.length - (rest.length + 1)) none) (ds.map Sl.fz ++ List.replicate (N.length - (ds.length + 1)) Sl.no) i a := fun i a ⟨_, z⟩ => by
    have : ∀ s : Sl, (ds.map Sl.fz ++ List.replicate (N.length - (ds.length + 1)) Sl.no)[i]? = some s → (∃ d, s = .fz d) ∨ s = .no := fun s e => by
      have m := List.mem_of_getElem? e
      rcases List.mem_append.mp m with m | m
      · obtain ⟨d, _, e⟩ := List.mem_map.mp m
        exact .inl ⟨d, e.symm⟩
      · exact .inr (List.mem_replicate.mp m).2
    rcases z with ⟨x, z⟩ | ⟨x, y, z⟩
    · rcases this _ z with ⟨d, e⟩ | e <;> cases e
    · rcases this _ z with ⟨d, e⟩ | e <;> cases e
  have own : ∀ i a, OwnAt (L2.start N (.ref x :: rest)) (.oi cn fs :: (ds.map Sl.fz ++ List.replicate (N.length - (ds.length + 1)) Sl.no)) i a → i = 0 ∧ a = x := fun i a z => by
    rw [st0] at z
    obtain ⟨z1, z2⟩ := z
    cases i with
    | zero =>
      rw [List.getElem?_cons_zero] at z1
      cases z1
      exact ⟨rfl, rfl⟩
    | succ i =>
      rw [List.getElem?_cons_succ] at z1
      rw [List.getElem?_cons_succ] at z2
      exact (nn i a ⟨z1, z2⟩).elim
  refine ss (· = x) U H U _ _ H b ⟨⟨?_, fun i s e => ?_, fun i j a ne h1 h2 => ?_⟩, wd, u, fun _ z => z, fun i a z => .inl (own i a z).2, fun _ _ z _ _ _ => z, fun i ds' a z1 z2 => ?_, fun i c' fs' a z1 z2 => (own i a ⟨z2, .inr ⟨c', fs', z1⟩⟩).2⟩ ((al_bd.mp al).mono (fun f b1 h1 => ?_) (fun c fs b1 h1 => ?_))
  · rw [st0, List.length_cons, List.length_cons, r1.len]
  · rw [st0]
    cases i with
    | zero =>
      rw [List.getElem?_cons_zero] at e
      cases e
      exact ⟨_, rfl, x, dx, fvs, rfl, hx, df, ux, np, nc⟩
    | succ i =>
      rw [List.getElem?_cons_succ] at e
      rw [List.getElem?_cons_succ]
      exact r1.at_ i s e
  · exact ne ((own _ _ h1).1.trans (own _ _ h2).1.symm)
  · obtain ⟨rfl, _⟩ := own i a ⟨z2, .inl ⟨ds', z1⟩⟩
    cases z1
  · cases f with
    | nx w =>
      intro U' σ' H' ev s
      obtain ⟨o, e1, a, dx', fvs', rfl, ha, da, ua, _, _⟩ := s.rel.at_ 0 _ (he w)
      have ea := s.oim 0 cn w a (he w) e1
      subst ea
      exact h1 dx' fvs' H' ha (da.sub fun z _ y => s.sub z y) s.wd s.ext
    | rt d => exact h1.elim
    | bk e => exact nomatch e
    | ct e => exact nomatch e
  · exact fun dd fvs H' z1 z2 z3 z4 z5 => h1 dd fvs H' z1 z2 z3 z4 z5
end
end Gp
end
section
set_option Elab.async false
set_option linter.all false
set_option maxRecDepth 100000
set_option maxHeartbeats 4000000
namespace Gp
open PySem PySem.Spec PyProof.Rows L2 Gh
section
variable {g : Gw} {U : Addr → Prop} {H H' H1 : Hp} {b : Nat} {E : XK} {Q : VK}
theorem denL_dp {K : PySem.W.Frag} : ∀ {vs : List V} {ds : List D} {es : List PyData}, DenL g U H vs ds → (∀ d ∈ ds, ∀ v e, Den g U H v d → toPy d = some e → Dp g.K H v e) → toPyL ds = some es → DpAll g.K H vs es
  | _, _, _, .nil, _, h => by cases h; exact .nil
  | _, d :: ds, es, .cons a r, ih, h => by
    unfold toPyL at h
    cases e1 : toPy d with
    | none => rw [e1] at h; cases h
    | some e =>
      cases e2 : toPyL ds with
      | none => rw [e1, e2] at h; cases h
      | some es' =>
        rw [e1, e2] at h
        cases h
        exact .cons (ih d List.mem_cons_self _ _ a e1) (denL_dp (K := K) r (fun d hd => ih d (List.mem_cons_of_mem _ hd)) e2)
theorem den_dp : ∀ (d : D) {v : V} {e : PyData}, Den g U H v d → toPy d = some e → Dp g.K H v e
  | .non, _, _, h, z => by cases h; cases z; exact .non
  | .bl b, _, _, h, z => by cases h; cases z; exact .bl b
  | .int i, _, _, h, z => by cases h; cases z; exact .int i
  | .str x, _, _, h, z => by cases h; cases z; exact .str x
  | .tup ds, v, e, h, z => by
    unfold toPy at z
    cases q : toPyL ds with
    | none => rw [q] at z; cases z
    | some es =>
      rw [q] at z
      cases z
      obtain ⟨a, vs, rfl, sq, _, k⟩ := den_tup h
      exact .tup sq (denL_dp (K := g.K) k (fun d hd v e h1 h2 => den_dp d h1 h2) q)
  | .lst ds, v, e, h, z => by
    unfold toPy at z
    cases q : toPyL ds with
    | none => rw [q] at z; cases z
    | some es =>
      rw [q] at z
      cases z
      obtain ⟨a, vs, rfl, hh, _, _, k⟩ := den_lst h
      exact .lst (SqL.of hh) (denL_dp (K := g.K) k (fun d hd v e h1 h2 => den_dp d h1 h2) q)
  | .obj _ _, _, _, _, z => by cases z
  | .err _ _, _, _, _, z => by cases z
  | .pen, _, _, _, z => by cases z
theorem new_lst {vs : List V} {ds : List D} (q : okP g U H Q (.lst ds) b) (w : Wd g H b) (u : UOk g U H) (l : vs.length ≤ sizeLine) (dn : DenL g U H vs ds) : ∀ p, H p = none → Q (.ref p) (upd H p (.lst vs)) := fun p np =>
  q _ _ (.lst upd_same (u.new np) l (dn.ext (fun a o e _ _ => same_new np a o e))) (w.same (same_new np)) (fr_same (same_new np))
theorem new_tup {vs : List V} {ds : List D} (q : okP g U H Q (.tup ds) b) (w : Wd g H b) (u : UOk g U H) (l : vs.length ≤ sizeLine) (dn : DenL g U H vs ds) : ∀ p, H p = none → Q (.ref p) (upd H p (.tup vs)) := fun p np =>
  q _ _ (.tup upd_same (u.new np) l (dn.ext (fun a o e _ _ => same_new np a o e))) (w.same (same_new np)) (fr_same (same_new np))
def iiD (f : Int → Int → D) (x y : D) : Tr D := match x, y with
  | .int i, .int j => .ok (f i j)
  | _, _ => .bad
def iicD (c : Int → Int → Prop) [∀ i j, Decidable (c i j)] (f : Int → Int → D) (x y : D) : Tr D := match x, y with
  | .int i, .int j => if c i j then .ok (f i j) else .bad
  | _, _ => .bad
theorem al_ii {P : D → Nat → Prop} {X : Str → Fs → Nat → Prop} {f : Int → Int → D} {x y : D} (h : Al P X (iiD f x y) b) : ∃ i j, x = .int i ∧ y = .int j ∧ P (f i j) b := by
  unfold iiD at h
  split at h
  · exact ⟨_, _, rfl, rfl, h⟩
  · exact h.elim
theorem al_iic {P : D → Nat → Prop} {X : Str → Fs → Nat → Prop} {c : Int → Int → Prop} [∀ i j, Decidable (c i j)] {f : Int → Int → D} {x y : D} (h : Al P X (iicD c f x y) b) : ∃ i j, x = .int i ∧ y = .int j ∧ c i j ∧ P (f i j) b := by
  unfold iicD at h
  split at h
  · split at h
    · exact ⟨_, _, rfl, rfl, by assumption, h⟩
    · exact h.elim
  · exact h.elim
theorem sr_ii {f : Int → Int → D} {f' : Int → Int → V} (hf : ∀ i j U H, Den g U H (f' i j) (f i j)) : SR2 g E (rI0 f') (iiD f) := fun U H b x y dx dy Q d1 d2 w u q => by
  obtain ⟨i, j, rfl, rfl, q1⟩ := al_ii q
  cases den_int d1
  cases den_int d2
  exact ⟨i, j, rfl, rfl, okP.here q1 w (hf i j U H)⟩
theorem sr_iic {c : Int → Int → Prop} [∀ i j, Decidable (c i j)] {c' : Int → Int → Prop} {f : Int → Int → D} {f' : Int → Int → V} (hc : ∀ i j, c i j → c' i j) (hf : ∀ i j U H, Den g U H (f' i j) (f i j)) : SR2 g E (rI c' f') (iicD c f) := fun U H b x y dx dy Q d1 d2 w u q => by
  obtain ⟨i, j, rfl, rfl, hij, q1⟩ := al_iic q
  cases den_int d1
  cases den_int d2
  exact ⟨i, j, rfl, rfl, hc i j hij, okP.here q1 w (hf i j U H)⟩
def ltD : D → D → Tr D := iiD fun i j => .bl (decide (i < j))
def leD : D → D → Tr D := iiD fun i j => .bl (decide (i ≤ j))
def gtD : D → D → Tr D := iiD fun i j => .bl (decide (j < i))
def geD : D → D → Tr D := iiD fun i j => .bl (decide (j ≤ i))
def subD : D → D → Tr D := iiD fun i j => .int (i - j)
def modD : D → D → Tr D := iicD (fun _ j => 0 < j) fun i j => .int (i % j)
def divD : D → D → Tr D := iicD (fun _ j => 0 < j ∧ j < 10 ^ 100) fun i j => .int (i / j)
theorem sr_lt : SR2 g E (rI0 fun i j => .bl (decide (i < j))) ltD := sr_ii fun _ _ _ _ => .bl _
theorem sr_le : SR2 g E (rI0 fun i j => .bl (decide (i ≤ j))) leD := sr_ii fun _ _ _ _ => .bl _
theorem sr_gt : SR2 g E (rI0 fun i j => .bl (decide (j < i))) gtD := sr_ii fun _ _ _ _ => .bl _
theorem sr_sub : SR2 g E (rI0 fun i j => .int (i - j)) subD := sr_ii fun _ _ _ _ => .int _
theorem sr_div : SR2 g E (rI CDivW fun i j => .int (i / j)) divD := sr_iic (fun _ _ h => ⟨h.1, log_of h.1 h.2⟩) fun _ _ _ _ => .int _
def negD (x : D) : Tr D := match x with
  | .int i => .ok (.int (-i))
  | _ => .bad
theorem sr_neg : SR1 g E (rU fun i => .int (-i)) negD := fun U H b x dx Q d1 w u q => by
  cases dx with
  | int i =>
    cases den_int d1
    exact ⟨i, rfl, okP.here q w (.int _)⟩
  | _ => exact q.elim
def addD (x y : D) : Tr D := match x, y with
  | .int i, .int j => .ok (.int (i + j))
  | .str a, .str b => if a.length + b.length ≤ sizeLine then .ok (.str (a ++ b)) else .bad
  | .lst a, .lst b => if a.length + b.length ≤ sizeLine then .ok (.lst (a ++ b)) else .bad
  | .tup a, .tup b => if a.length + b.length ≤ sizeLine then .ok (.tup (a ++ b)) else .bad
  | _, _ => .bad
def rAddA (K : PySem.W.Frag) : R2 := fun x y H Q => rI0 (fun i j => .int (i + j)) x y H Q ∨ (∃ i j, x = .str i ∧ y = .str j ∧ i.length + j.length ≤ sizeLine ∧ Q (.str (i ++ j)) H) ∨ rCat x y H Q ∨ rCatA K x y H Q
theorem op_addA {X : Cx} {K : PySem.W.Frag} (h : X.K = K) : OpR X (binaryOp .Add) (rAddA K) := h ▸ op_add.or (op_add_str.or (op_cat.or op_catA))
theorem str_app_len (a b : Str) : (a ++ b).length = a.length + b.length := by
  show (a.cps ++ b.cps).size = _
  rw [Array.size_append]
  rfl
theorem sr_add : SR2 g E (rAddA g.K) addD := fun U H b x y dx dy Q d1 d2 w u q => by
  unfold addD at q
  split at q
  · rename_i i j
    cases den_int d1
    cases den_int d2
    exact .inl ⟨i, j, rfl, rfl, okP.here q w (.int _)⟩
  · rename_i a c
    split at q
    · rename_i h
      obtain ⟨rfl, l1⟩ := den_str d1
      obtain ⟨rfl, l2⟩ := den_str d2
      exact .inr (.inl ⟨a, c, rfl, rfl, h, okP.here q w (.str _ (by rw [str_app_len]; exact h))⟩)
    · exact q.elim
  · rename_i a c
    split at q
    · rename_i h
      obtain ⟨p1, v1, rfl, h1, n1, l1, k1⟩ := den_lst d1
      obtain ⟨p2, v2, rfl, h2, n2, l2, k2⟩ := den_lst d2
      have hl : v1.length + v2.length ≤ sizeLine := by rw [k1.length, k2.length]; exact h
      exact .inr (.inr (.inl ⟨p1, p2, v1, v2, rfl, rfl, h1, h2, hl, new_lst q w u (by rw [List.length_append]; exact hl) (k1.append k2)⟩))
    · exact q.elim
  · rename_i a c
    split at q
    · rename_i h
      obtain ⟨p1, v1, rfl, h1, l1, k1⟩ := den_tup d1
      obtain ⟨p2, v2, rfl, h2, l2, k2⟩ := den_tup d2
      have hl : v1.length + v2.length ≤ sizeLine := by rw [k1.length, k2.length]; exact h
      refine .inr (.inr (.inr ⟨p1, p2, v1, v2, rfl, rfl, h1, h2, hl, fun e => ?_, fun _ e => ?_, fun _ _ => new_tup q w u (by rw [List.length_append]; exact hl) (k1.append k2)⟩))
      · subst e
        cases k1
        exact okP.here q w d2
      · subst e
        cases k2
        rw [List.append_nil] at q
        exact okP.here q w d1
    · exact q.elim
  · exact q.elim
def mulD (x y : D) : Tr D := match x, y with
  | .int i, .int j => if (-(2 ^ 64) < i ∧ i < 2 ^ 64) ∨ (-(2 ^ 64) < j ∧ j < 2 ^ 64) then .ok (.int (i * j)) else .bad
  | .lst a, .int k => if -(2 ^ 63) ≤ k ∧ k < 2 ^ 63 ∧ a.length * k.toNat ≤ sizeLine then .ok (.lst (List.replicate k.toNat a).flatten) else .bad
  | _, _ => .bad
def rMulA : R2 := fun x y H Q => rI CMul (fun i j => .int (i * j)) x y H Q ∨ rRep x y H Q
theorem op_mulA {X : Cx} : OpR X (binaryOp .Mult) rMulA := op_mul.or op_rep
theorem denL_rep {vs : List V} {ds : List D} (h : DenL g U H vs ds) : ∀ n : Nat, DenL g U H (List.replicate n vs).flatten (List.replicate n ds).flatten
  | 0 => .nil
  | n + 1 => by
    rw [List.replicate_succ, List.replicate_succ, List.flatten_cons, List.flatten_cons]
    exact h.append (denL_rep h n)
theorem sr_mul : SR2 g E rMulA mulD := fun U H b x y dx dy Q d1 d2 w u q => by
  unfold mulD at q
  split at q
  · rename_i i j
    split at q
    · rename_i h
      cases den_int d1
      cases den_int d2
      exact .inl ⟨i, j, rfl, rfl, h, okP.here q w (.int _)⟩
    · exact q.elim
  · rename_i a k
    split at q
    · rename_i h
      obtain ⟨p1, v1, rfl, h1, n1, l1, k1⟩ := den_lst d1
      cases den_int d2
      have e : v1.length * k.toNat ≤ sizeLine := by rw [k1.length]; exact h.2.2
      refine .inr ⟨p1, k, v1, rfl, rfl, h1, h.1, h.2.1, e, new_lst q w u ?_ (denL_rep k1 _)⟩
      rw [(denL_rep k1 k.toNat).length, List.length_flatten, List.map_replicate, List.sum_replicate_nat, Nat.mul_comm]
      exact h.2.2
    · exact q.elim
  · exact q.elim
def eqS : D → D → Option Bool
  | .non, .non => some true | .non, .int _ => some false | .int _, .non => some false | .non, .bl _ => some false | .bl _, .non => some false | .non, .str _ => some false | .str _, .non => some false
  | .int i, .int j => some (decide (i = j)) | .bl a, .bl c => some (decide (a = c)) | .str a, .str c => some (decide (a = c))
  | .int _, .str _ => some false | .str _, .int _ => some false | .bl _, .str _ => some false | .str _, .bl _ => some false
  | _, _ => none
def eqB (x y : D) : Tr Bool := match eqS x y with
  | some b => .ok b
  | none => match toPy x, toPy y with
    | some a, some c => if SeqAt.shaped a = true ∧ SeqAt.shaped c = true then .ok (PyData.eqv a c) else .bad
    | _, _ => .bad
def eqD (x y : D) : Tr D := bd (eqB x y) fun k => .ok (.bl k)
def neD (x y : D) : Tr D := bd (eqB x y) fun k => .ok (.bl (!k))
def rEqA (K : PySem.W.Frag) : R2 := fun x y H Q => rEq x y H Q ∨ rEqD K x y H Q
def rNeA (K : PySem.W.Frag) : R2 := fun x y H Q => rNe x y H Q ∨ rNeD K x y H Q
theorem op_eqA {X : Cx} {K : PySem.W.Frag} (h : X.K = K) (hu : X.A.units + 64 < cLine) : OpR X (compareOp .Eq) (rEqA K) := h ▸ op_eq.or (op_eqD hu)
theorem op_neA {X : Cx} {K : PySem.W.Frag} (h : X.K = K) (hu : X.A.units + 64 < cLine) : OpR X (compareOp .NotEq) (rNeA K) := h ▸ op_ne.or (op_neD hu)
theorem eqS_scal {x y : D} {v w : V} {k : Bool} (h : eqS x y = some k) (d1 : Den g U H v x) (d2 : Den g U H w y) : scal v w = true ∧ decide (v = w) = k := by
  cases x <;> cases y <;> first
    | (cases h; done)
    | (cases d1; cases d2; cases h; exact ⟨rfl, by simp⟩)
theorem al_eqB {P : Bool → Nat → Prop} {X : Str → Fs → Nat → Prop} {x y : D} (h : Al P X (eqB x y) b) : (∃ k, eqS x y = some k ∧ P k b) ∨ ∃ a c, toPy x = some a ∧ toPy y = some c ∧ SeqAt.shaped a = true ∧ SeqAt.shaped c = true ∧ P (PyData.eqv a c) b := by
  unfold eqB at h
  split at h
  · exact .inl ⟨_, by assumption, h⟩
  · split at h
    · split at h
      · rename_i e1 e2 z
        exact .inr ⟨_, _, e1, e2, z.1, z.2, h⟩
      · exact h.elim
    · exact h.elim
theorem sr_eq : SR2 g E (rEqA g.K) eqD := fun U H b x y dx dy Q d1 d2 w u q => by
  rcases al_eqB (al_bd.mp q) with ⟨k, e, q1⟩ | ⟨a, c, e1, e2, s1, s2, q1⟩
  · obtain ⟨h1, h2⟩ := eqS_scal e d1 d2
    refine .inl ⟨h1, ?_⟩
    rw [h2]
    exact okP.here q1 w (.bl _)
  · exact .inr ⟨a, c, den_dp dx d1 e1, den_dp dy d2 e2, s1, s2, okP.here q1 w (.bl _)⟩
theorem sr_ne : SR2 g E (rNeA g.K) neD := fun U H b x y dx dy Q d1 d2 w u q => by
  rcases al_eqB (al_bd.mp q) with ⟨k, e, q1⟩ | ⟨a, c, e1, e2, s1, s2, q1⟩
  · obtain ⟨h1, h2⟩ := eqS_scal e d1 d2
    refine .inl ⟨h1, ?_⟩
    rw [h2]
    exact okP.here q1 w (.bl _)
  · exact .inr ⟨a, c, den_dp dx d1 e1, den_dp dy d2 e2, s1, s2, okP.here q1 w (.bl _)⟩
def isN (x : D) : Bool := match x with
  | .non => true
  | _ => false
theorem den_non {v : V} {d : D} (h : Den g U H v d) : decide (v = .non) = isN d := by
  cases h <;> simp [isN]
theorem sr_isN : SR2 g E rIsN (fun x y => match y with | .non => .ok (.bl (isN x)) | _ => .bad) := fun U H b x y dx dy Q d1 d2 w u q => by
  cases dy with
  | non =>
    cases d2
    refine st_isN ?_
    rw [den_non d1]
    exact okP.here q w (.bl _)
  | _ => exact q.elim
def ixD (x y : D) : Tr D := match x, y with
  | .lst ds, .int i => match atI ds i with | some d => .ok d | none => .bad
  | .tup ds, .int i => match atI ds i with | some d => .ok d | none => .bad
  | .str z, .int i => match atI z.cps.toList i with | some c => .ok (.str ⟨#[c]⟩) | none => .bad
  | _, _ => .bad
theorem ix_seqK {X : Cx} {K : PySem.W.Frag} (h : X.K = K) : IxR X (rIx K) := h ▸ ix_seq
theorem denL_at {vs : List V} {ds : List D} {i : Int} {d : D} (h : DenL g U H vs ds) (e : atI ds i = some d) : ∃ v, atI vs i = some v ∧ Den g U H v d := by
  unfold atI at e ⊢
  rw [h.length]
  cases q : ixN ds.length i with
  | none => rw [q] at e; cases e
  | some j =>
    rw [q] at e
    exact h.getD e
theorem sr_ix : SR2 g E (rIx g.K) ixD := fun U H b x y dx dy Q d1 d2 w u q => by
  unfold ixD at q
  split at q
  · rename_i ds i
    split at q
    · rename_i d e
      obtain ⟨p, vs, rfl, h, n, l, k⟩ := den_lst d1
      cases den_int d2
      obtain ⟨v, hv, dv⟩ := denL_at k e
      exact .inl ⟨p, vs, i, v, rfl, rfl, SqL.of h, hv, okP.here q w dv⟩
    · exact q.elim
  · rename_i ds i
    split at q
    · rename_i d e
      obtain ⟨p, vs, rfl, h, l, k⟩ := den_tup d1
      cases den_int d2
      obtain ⟨v, hv, dv⟩ := denL_at k e
      exact .inr (.inl ⟨p, vs, i, v, rfl, rfl, h, hv, okP.here q w dv⟩)
    · exact q.elim
  · rename_i z i
    split at q
    · rename_i c e
      obtain ⟨rfl, l⟩ := den_str d1
      cases den_int d2
      exact .inr (.inr ⟨z, i, c, rfl, rfl, l, e, okP.here q w den1⟩)
    · exact q.elim
  · exact q.elim
def lenD (x : D) : Tr D := match x with
  | .lst ds => .ok (.int ds.length)
  | .tup ds => .ok (.int ds.length)
  | .str z => .ok (.int z.length)
  | _ => .bad
theorem srl_len : SRL g E (rLn g.K) (ul1 lenD) := fun U H b xs dxs Q dn w u q => by
  obtain ⟨x, rfl, q1⟩ := al_ul1 q
  obtain ⟨v, rfl, d1⟩ := denL_1 dn
  cases x with
  | lst ds =>
    obtain ⟨p, vs, rfl, h, n, l, k⟩ := den_lst d1
    refine st_lenL h ?_
    rw [k.length]
    exact okP.here q1 w (.int _)
  | tup ds =>
    obtain ⟨p, vs, rfl, h, l, k⟩ := den_tup d1
    unfold rLn
    exact ⟨_, _, rfl, .inr ⟨vs, h, rfl⟩, by rw [k.length]; exact okP.here q1 w (.int _)⟩
  | str z =>
    obtain ⟨rfl, l⟩ := den_str d1
    exact st_lenS l (okP.here q1 w (.int _))
  | _ => exact q1.elim
def tupD (x : D) : Tr D := match x with
  | .lst ds => .ok (.tup ds)
  | .tup ds => .ok (.tup ds)
  | _ => .bad
theorem srl_tup : SRL g E (rTupOf g.K) (ul1 tupD) := fun U H b xs dxs Q dn w u q => by
  obtain ⟨x, rfl, q1⟩ := al_ul1 q
  obtain ⟨v, rfl, d1⟩ := denL_1 dn
  unfold rTupOf
  cases x with
  | lst ds =>
    obtain ⟨p, vs, rfl, h, n, l, k⟩ := den_lst d1
    exact ⟨p, vs, rfl, .inl ⟨SqL.of h, new_tup q1 w u l k⟩⟩
  | tup ds =>
    obtain ⟨p, vs, rfl, h, l, k⟩ := den_tup d1
    exact ⟨p, vs, rfl, .inr ⟨h, okP.here q1 w d1⟩⟩
  | _ => exact q1.elim
def intD (x : D) : Tr D := match x with
  | .int i => .ok (.int i)
  | .bl k => .ok (.int (if k = true then 1 else 0))
  | _ => .bad
theorem srl_int : SRL g E rInt (ul1 intD) := fun U H b xs dxs Q dn w u q => by
  obtain ⟨x, rfl, q1⟩ := al_ul1 q
  obtain ⟨v, rfl, d1⟩ := denL_1 dn
  cases x with
  | int i => cases d1; exact st_int (okP.here q1 w (.int _))
  | bl k => cases d1; exact st_intB (okP.here q1 w (.int _))
  | _ => exact q1.elim
def absD (x : D) : Tr D := match x with
  | .int i => .ok (.int (if i < 0 then -i else i))
  | _ => .bad
theorem srl_abs : SRL g E rAbs (ul1 absD) := fun U H b xs dxs Q dn w u q => by
  obtain ⟨x, rfl, q1⟩ := al_ul1 q
  obtain ⟨v, rfl, d1⟩ := denL_1 dn
  cases x with
  | int i => cases d1; exact st_abs (okP.here q1 w (.int _))
  | _ => exact q1.elim
end
end Gp
end
section
set_option Elab.async false
set_option linter.all false
set_option maxRecDepth 100000
set_option maxHeartbeats 4000000
namespace Gp
open PySem PySem.Spec PyProof.Rows L2 Gh
section
variable {g : Gw} {Mt U0 U U' : Addr → Prop} {H0 H H' H1 H2 : Hp} {b b1 : Nat} {σ : L2.St} {ε ε' : Env} {E : XK} {Q : VK} {W L W' : Type}
variable {env : W → Env} {envL : L → Env} {env' : W' → Env} {u ta tb : TS} {te : TE} {me : Tr D}
def flatD : D → Bool
  | .non => true
  | .bl _ => true
  | .int _ => true
  | .str _ => true
  | _ => false
def eqF : D → D → Bool
  | .non, .non => true
  | .bl a, .bl b => a == b
  | .bl a, .int b => (if a then 1 else 0) == b
  | .int a, .bl b => a == (if b then 1 else 0)
  | .int a, .int b => a == b
  | .str a, .str b => a == b
  | _, _ => false
theorem flat_den {v : V} {d : D} (h : Den g U H v d) (f : flatD d = true) : flatV v = true := by
  cases h <;> first
    | rfl
    | cases f
theorem eqF_den {v w : V} {d e : D} (h : Den g U H v d) (k : Den g U H w e) : eqF d e = eqV v w := by
  cases h <;> cases k <;> rfl
def inD (x : D) (ds : List D) : Bool := ds.any fun y => eqF y x
theorem inD_den {v : V} {d : D} (h : Den g U H v d) : ∀ {vs : List V} {ds : List D}, DenL g U H vs ds → inD d ds = inV v vs
  | _, _, .nil => rfl
  | _, _, .cons a r => by
    have := inD_den h r
    unfold inD inV at this ⊢
    rw [List.any_cons, List.any_cons, eqF_den a h, this]
theorem flats_den : ∀ {vs : List V} {ds : List D}, DenL g U H vs ds → ds.all flatD = true → vs.all flatV = true
  | _, _, .nil, _ => rfl
  | _, _, .cons a r, f => by
    rw [List.all_cons, Bool.and_eq_true] at f ⊢
    exact ⟨flat_den a f.1, flats_den r f.2⟩
def inB (x y : D) : Tr Bool := match y with
  | .lst ds => if flatD x = true ∧ ds.all flatD = true then .ok (inD x ds) else .bad
  | .tup ds => if flatD x = true ∧ ds.all flatD = true then .ok (inD x ds) else .bad
  | .str j => match x with
    | .str i => .ok (!(Builtin.Str.occurrences j i 0 j.length 1).isEmpty)
    | _ => .bad
  | _ => .bad
def notinD (x y : D) : Tr D := bd (inB x y) fun k => .ok (.bl (!k))
def rNotInA (K : PySem.W.Frag) : R2 := fun x y H Q => rIn K true x y H Q ∨ ∃ i j, x = .str i ∧ y = .str j ∧ Q (.bl (!(!(Builtin.Str.occurrences j i 0 j.length 1).isEmpty))) H
theorem op_notinA {X : Cx} {K : PySem.W.Frag} (h : X.K = K) : OpR X (compareOp .NotIn) (rNotInA K) := h ▸ op_notIn_seq.or op_notin_str
theorem al_inB {P : Bool → Nat → Prop} {Z : Str → Fs → Nat → Prop} {x y : D} {v w : V} (d1 : Den g U H v x) (d2 : Den g U H w y) (h : Al P Z (inB x y) b) :
    (∃ p vs, w = .ref p ∧ (SqL g.K H p vs ∨ SqT g.K H p vs) ∧ flatV v = true ∧ vs.all flatV = true ∧ P (inV v vs) b) ∨ ∃ i j, v = .str i ∧ w = .str j ∧ P (!(Builtin.Str.occurrences j i 0 j.length 1).isEmpty) b := by
  unfold inB at h
  split at h
  · split at h
    · rename_i z
      obtain ⟨p, vs, rfl, hh, _, _, k⟩ := den_lst d2
      rw [inD_den d1 k] at h
      exact .inl ⟨p, vs, rfl, .inl (SqL.of hh), flat_den d1 z.1, flats_den k z.2, h⟩
    · exact h.elim
  · split at h
    · rename_i z
      obtain ⟨p, vs, rfl, hh, _, k⟩ := den_tup d2
      rw [inD_den d1 k] at h
      exact .inl ⟨p, vs, rfl, .inr hh, flat_den d1 z.1, flats_den k z.2, h⟩
    · exact h.elim
  · split at h
    · obtain ⟨rfl, _⟩ := den_str d1
      obtain ⟨rfl, _⟩ := den_str d2
      exact .inr ⟨_, _, rfl, rfl, h⟩
    · exact h.elim
  · exact h.elim
theorem sr_notin : SR2 g E (rNotInA g.K) notinD := fun U H b x y dx dy Q d1 d2 w u q => by
  rcases al_inB d1 d2 (al_bd.mp q) with ⟨p, vs, rfl, h1, h2, h3, h4⟩ | ⟨i, j, rfl, rfl, h⟩
  · exact .inl ⟨p, vs, rfl, h1, h2, h3, okP.here h4 w (.bl _)⟩
  · exact .inr ⟨i, j, rfl, rfl, okP.here h w (.bl _)⟩
def SO (g : Gw) (E : XK) (ε : Env) (t : TO) (m : Tr (Option Int)) : Prop := ∀ U σ H b (Q : Option Int → Hp → Prop), Rel g U H σ ε → Wd g H b → UOk g U H → Al (fun o b' => ∀ H', Wd g H' b' → Fr H H' g.p → Q o H') (exP g U E H) m b → t σ H Q
theorem so_none : SO g E ε tNoPart (.ok none) := fun U σ H b Q R W u q => q H W Fr.refl
def asI (d : D) : Tr (Option Int) := match d with
  | .int i => .ok (some i)
  | _ => .bad
theorem so_some (he : SE g E ε te me) : SO g E ε (tPart te) (bd me asI) := fun U σ H b Q R W u q =>
  he.step R W u q fun v d H1 b1 d1 w1 f1 R1 u1 q1 => by
    cases d with
    | int i =>
      cases den_int d1
      exact ⟨i, rfl, q1 H1 w1 f1⟩
    | _ => exact q1.elim
theorem SO.step {α : Type} {t : TO} {m : Tr (Option Int)} {k : Option Int → Tr α} {P : α → Nat → Prop} {Q : Option Int → Hp → Prop} (ha : SO g E ε t m) (R : Rel g U H σ ε) (W : Wd g H b) (u : UOk g U H) (h : Al P (exP g U E H) (bd m k) b)
    (hk : ∀ d H1 b1, Wd g H1 b1 → Fr H H1 g.p → Rel g U H1 σ ε → UOk g U H1 → Al P (exP g U E H1) (k d) b1 → Q d H1) : t σ H Q :=
  ha U σ H b Q R W u ((al_bd.mp h).mono (fun d b1 h1 H1 w1 f1 => hk d H1 b1 w1 f1 (R.fr u f1) (u.fr f1 w1) (al_frX f1 h1)) (fun _ _ _ h => h))
def cutG {α : Type} (xs : List α) (lo hi : Option Int) : List α := (xs.drop (HT.sIx xs.length 0 lo)).take (HT.sIx xs.length xs.length hi - HT.sIx xs.length 0 lo)
def slD (x : D) (lo hi : Option Int) : Tr D := match x with
  | .lst ds => .ok (.lst (cutG ds lo hi))
  | .tup ds => .ok (.tup (cutG ds lo hi))
  | .str z => if (cutS z lo hi).length ≤ sizeLine then .ok (.str (cutS z lo hi)) else .bad
  | _ => .bad
def rSlAll (K : PySem.W.Frag) : V → Option Int → Option Int → Hp → VK → Prop := fun x lo hi H Q => rSlL K x lo hi H Q ∨ rSlA K x lo hi H Q ∨ L2.rSlS x lo hi H Q
theorem sl_all {X : Cx} {K : PySem.W.Frag} (h : X.K = K) : L2.SlR X (rSlAll K) := h ▸ sl_list.or (sl_tupA.or sl_str)
theorem denL_cut {vs : List V} {ds : List D} (k : DenL g U H vs ds) (lo hi : Option Int) : DenL g U H (cutV vs lo hi) (cutG ds lo hi) := by
  unfold cutV cutG
  rw [k.length]
  exact (k.drop _).take _
theorem se_sl {tl th : TO} {ml mh : Tr (Option Int)} (he : SE g E ε te me) (hl : SO g E ε tl ml) (hh : SO g E ε th mh) : SE g E ε (tSl (rSlAll g.K) te tl th) (bd me fun x => bd ml fun lo => bd mh fun hi => slD x lo hi) := fun U σ H b Q R W u q =>
  he.step R W u q fun v d H1 b1 d1 w1 f1 R1 u1 q1 => hl.step R1 w1 u1 q1 fun lo H2 b2 w2 f2 R2 u2 q2 => hh.step R2 w2 u2 q2 fun hi H3 b3 w3 f3 R3 u3 q3 => by
    have d3 := d1.fr u1 (f2.trans f3)
    have q4 := q3.mono (P' := okP g U H3 Q) (fun _ _ h => okP.fr ((f1.trans f2).trans f3) h) (fun _ _ _ h => h)
    cases d with
    | lst ds =>
      obtain ⟨p, vs, rfl, h, n, l, k⟩ := den_lst d3
      exact .inl ⟨p, vs, rfl, SqL.of h, new_lst q4 w3 u3 (Nat.le_trans (cutV_length _ _ _) l) (denL_cut k lo hi)⟩
    | tup ds =>
      obtain ⟨p, vs, rfl, h, l, k⟩ := den_tup d3
      refine .inr (.inl ⟨p, vs, rfl, h, fun e => ?_, fun _ => new_tup q4 w3 u3 (Nat.le_trans (cutV_length _ _ _) l) (denL_cut k lo hi)⟩)
      have e2 : cutG ds lo hi = ds := by
        unfold cutG
        rw [← k.length, e.1, e.2, List.drop_zero, Nat.sub_zero, k.length]
        exact List.take_length
      have q5 : okP g U H3 Q (.tup (cutG ds lo hi)) b3 := q4
      rw [e2] at q5
      exact okP.here q5 w3 d3
    | str z =>
      obtain ⟨rfl, l⟩ := den_str d3
      by_cases hz : (cutS z lo hi).length ≤ sizeLine
      · have q5 : Al (okP g U H3 Q) (exP g U E H3) (if (cutS z lo hi).length ≤ sizeLine then .ok (.str (cutS z lo hi)) else .bad) b3 := q4
        rw [if_pos hz] at q5
        exact .inr (.inr ⟨z, rfl, l, okP.here q5 w3 (.str _ hz)⟩)
      · have q5 : Al (okP g U H3 Q) (exP g U E H3) (if (cutS z lo hi).length ≤ sizeLine then .ok (.str (cutS z lo hi)) else .bad) b3 := q4
        rw [if_neg hz] at q5
        exact q5.elim
    | _ => exact q4.elim
def rgOk (a b : Int) : Prop := -(2 ^ 62) ≤ a ∧ a < 2 ^ 62 ∧ -(2 ^ 62) ≤ b ∧ b < 2 ^ 62 ∧ b - a ≤ 16777216
instance (a b : Int) : Decidable (rgOk a b) := by unfold rgOk; infer_instance
def IsT (g : Gw) (u : Value) (f : D → Option Bool) : Prop := ∀ U H v d k, Den g U H v d → f d = some k → (∃ t, TyX g.K H v t ∧ PySem.W.kitOne g.K t u = some k) ∨ ∃ a C dd fvs, v = .ref a ∧ H a = some (exk a C dd) ∧ H dd = some (.xd fvs) ∧ ErrT g.K C ∧ PySem.W.kitOne g.K (.ref C) u = some k
def opt {α : Type} (o : Option α) : Tr α := match o with
  | some a => .ok a
  | none => .bad
theorem se_isi {cv : V} {u : Value} {f : D → Option Bool} (hc : ClsV cv u) (hT : IsT g u f) (he : SE g E ε te me) : SE g E ε (tCB (rIsiZ g.K) (tCons te (tCons (tC cv) tNil))) (bd me fun d => bd (opt (f d)) fun k => .ok (.bl k)) := fun U σ H b Q R W uo q =>
  he.step R W uo q fun v d H1 b1 d1 w1 f1 R1 u1 q1 => by
    cases e : f d with
    | none => rw [e] at q1; exact q1.elim
    | some k =>
      rw [e] at q1
      have q2 := okP.here (okP.fr f1 q1) w1 (.bl k)
      rcases hT U H1 v d k d1 e with ⟨t, h1, h2⟩ | ⟨a, C, dd, fvs, rfl, h1, h2, h3, h4⟩
      · exact .inl ⟨v, cv, t, u, k, rfl, hc, h1, h2, q2⟩
      · exact .inr ⟨a, C, dd, fvs, cv, u, k, rfl, hc, h1, h2, h3, h4, q2⟩
def kdN : D → Option String
  | .non => some "NoneType"
  | .bl _ => some "bool"
  | .int _ => some "int"
  | .str _ => some "str"
  | .lst _ => some "list"
  | .tup _ => some "tuple"
  | .dct => some "dict"
  | .dic _ => some "dict"
  | _ => none
theorem kd_ty {v : V} {d : D} {n : String} (h : Den g U H v d) (e : kdN d = some n) : TyX g.K H v (.type n) := by
  cases h with
  | non => cases e; exact .base .non
  | bl b => cases e; exact .base (.bl b)
  | int i => cases e; exact .base (.int i)
  | str x _ => cases e; exact .base (.str x)
  | tup h _ _ _ => cases e; exact .base (.tup h)
  | tupW h _ _ =>
    cases e
    rcases h (fun _ => none) with (z | ⟨o, z⟩) | ⟨o, its, n, z1, z2, _⟩
    · cases z
    · cases z
    · exact .kTuple z1 z2
  | lst h _ _ _ => cases e; exact .base (.lst h)
  | obj _ _ _ => cases e
  | err _ _ _ _ _ => cases e
  | pen => cases e
  | cls _ => cases e
  | dct h _ => cases e; exact .base (.dK h)
  | dic h _ _ _ => cases e; exact .base (.dK h)
  | dit _ _ _ _ => cases e
def isF (kb : String → Option Bool) (tab etab : List (Str × Bool)) (d : D) : Option Bool := match d with
  | .obj c _ => tab.lookup c
  | .err c _ => etab.lookup c
  | d => (kdN d).bind kb
theorem isT_of {u : Value} {kb : String → Option Bool} {tab etab : List (Str × Bool)} (h1 : ∀ n k, kb n = some k → PySem.W.kitOne g.K (.type n) u = some k) (h2 : ∀ c k, tab.lookup c = some k → Cls g.K (gd c g.K) ∧ InsT g.K (gd c g.K) ∧ PySem.W.kitOne g.K (.ref (gd c g.K)) u = some k)
    (h3 : ∀ c k, etab.lookup c = some k → ErrT g.K (gd c g.K) ∧ PySem.W.kitOne g.K (.ref (gd c g.K)) u = some k) : IsT g u (isF kb tab etab) := fun U H v d k dn e => by
  have base : ∀ d, Den g U H v d → (kdN d).bind kb = some k → ∃ t, TyX g.K H v t ∧ PySem.W.kitOne g.K t u = some k := fun d dn e => by
    cases q : kdN d with
    | none => rw [q] at e; cases e
    | some n =>
      rw [q] at e
      exact ⟨_, kd_ty dn q, h1 n k e⟩
  cases d with
  | obj c fs =>
    obtain ⟨a, dx, fvs, rfl, ea, _, _⟩ := den_obj dn
    obtain ⟨z1, z2, z3⟩ := h2 c k e
    exact .inl ⟨_, z2.ty z1 ea, z3⟩
  | err c fs =>
    cases dn with
    | err ha _ hd _ _ =>
      obtain ⟨z1, z2⟩ := h3 c k e
      exact .inr ⟨_, _, _, _, rfl, ha, hd, z1, z2⟩
  | non => exact .inl (base _ dn e)
  | bl b => exact .inl (base _ dn e)
  | int i => exact .inl (base _ dn e)
  | str x => exact .inl (base _ dn e)
  | lst ds => exact .inl (base _ dn e)
  | tup ds => exact .inl (base _ dn e)
  | pen => exact .inl (base _ dn e)
  | cls c => exact .inl (base _ dn e)
  | dct => exact .inl (base _ dn e)
  | dic ps => exact .inl (base _ dn e)
  | dit ps => exact .inl (base _ dn e)
theorem den_shw {v : V} {d : D} {x : Str} (h : Den g U H v d) (e : shwD d = some x) : Shw g.K H v x := by
  have cmp : ∀ {a : Addr}, v = .ref a → (match toPy d with
    | some e => if e.showable = true ∧ e.hasDict = false ∧ e.depth ≤ 100 ∧ e.shown.length ≤ sizeLine then some e.shown else none
    | none => none) = some x → Shw g.K H v x := fun {a} ev e => by
    subst ev
    split at e
    · split at e
      · rename_i q z
        cases e
        exact .dp (den_dp d h q) z.1 z.2.1 z.2.2.1 z.2.2.2
      · cases e
    · cases e
  cases d with
  | non => cases h; cases e; exact .non
  | bl b => cases h; cases e; exact .bl b
  | int i =>
    cases h
    unfold shwD at e
    dsimp only at e
    split at e
    · cases e; exact .int i (by assumption)
    · cases e
  | str y =>
    cases h
    unfold shwD at e
    dsimp only at e
    split at e
    · cases e; exact .str y (by assumption)
    · cases e
  | tup ds =>
    obtain ⟨a, _, rfl, _⟩ := den_tup h
    exact cmp rfl e
  | lst ds =>
    obtain ⟨a, _, rfl, _⟩ := den_lst h
    exact cmp rfl e
  | obj c fs => cases e
  | dic ps => cases e
  | dit ps => cases e
  | err c fs => cases e
  | pen => cases e
  | cls c => cases e
  | dct => cases e
theorem srl_repr : SRL g E (rShow g.K) (ul1 reprD) := fun U H b xs dxs Q dn w u q => by
  obtain ⟨x, rfl, q1⟩ := al_ul1 q
  obtain ⟨v, rfl, d1⟩ := denL_1 dn
  unfold reprD at q1
  split at q1
  · rename_i z e
    split at q1
    · exact rShow_of (den_shw d1 e) (okP.here q1 w (.str _ (by assumption)))
    · exact q1.elim
  · exact q1.elim
theorem ss_setf {c f : Str} {fs : Fs} {k : D → Tr (Fl W L)} (he : SE g E ε te me) (hk : ∀ d, SS g E (ε.set 0 (.oi c (putD f d fs))) u env envL (k d)) (hi : ε[0]? = some (.oi c fs) := by rfl) :
    SS g E ε (tSeq (sF (gd c g.K) (tVar 0) te f) u) env envL (bd me fun d => if fs.length < 900 then k d else .bad) := fun Mt U0 H0 U Ds σ H b s q => by
  refine st_sF ?_
  refine he.sstep s q fun y d H1 b1 dy s1 q1 => ?_
  by_cases hl : fs.length < 900
  · rw [if_pos hl] at q1
    obtain ⟨o, eo, a, dx, fvs, rfl, ha, df, ua, n1, n2⟩ := s1.rel.at_ 0 _ hi
    refine ⟨.ref a, eo, st_setF ha (by rw [df.length]; omega) fun H2 m2 => ?_⟩
    have kp := m2.keep
    have xt : ExtU U H1 H2 := fun x o e ne _ => kp x o e (fun z => ne (z ▸ ua))
    have il : 0 < ε.length := (List.getElem?_eq_some_iff.mp hi).1
    have ow : ∀ j x, OwnAt σ (ε.set 0 (.oi c (putD f d fs))) j x → OwnAt σ ε j x := fun j x z => by
      obtain ⟨z1, z2⟩ := z
      by_cases q : 0 = j
      · subst q
        exact ⟨z1, .inr ⟨c, fs, hi⟩⟩
      · rw [List.getElem?_set_ne q] at z2
        exact ⟨z1, z2⟩
    have apart : ∀ j x, 0 ≠ j → OwnAt σ ε j x → x ≠ a := fun j x ne z e => by
      subst e
      exact s1.rel.apart 0 j x ne ⟨eo, .inr ⟨c, fs, hi⟩⟩ z
    have hmt := s1.oim 0 c fs a hi eo
    have ev : Ev U H1 U H2 := ⟨xt, fun _ _ _ n _ => n⟩
    refine hk d Mt U0 H0 U Ds σ H2 b1 ⟨⟨by rw [List.length_set]; exact s1.rel.len, fun j x e => ?_, fun j k x ne z1 z2 => s1.rel.apart j k x ne (ow _ _ z1) (ow _ _ z2)⟩, ⟨s1.wd.pen.keep kp n1 n2, tabs_muI m2 ha s1.wd.tabs⟩, ⟨s1.uok.p, s1.uok.c, fun x hx => ?_⟩, s1.sub, fun j x z => s1.own j x (ow _ _ z), fun x o e m1 m2 m3 => ?_, fun j xs x e1 e2 => ?_, fun j c' fs' x e1 e2 => ?_⟩ (q1.mono (fun _ _ z => z.ev ev) (fun _ _ _ z => z))
    · by_cases q : 0 = j
      · subst q
        rw [List.getElem?_set_self il] at e
        cases e
        exact ⟨_, eo, a, dx, _, rfl, m2.at_, (df.put dy).ext xt, ua, n1, n2⟩
      · rw [List.getElem?_set_ne q] at e
        obtain ⟨o, e1, e2⟩ := s1.rel.at_ j x e
        refine ⟨o, e1, ?_⟩
        cases x with
        | no => trivial
        | fz d =>
          obtain ⟨v, e3, e4⟩ := e2
          exact ⟨v, e3, e4.ext xt⟩
        | ow ds2 =>
          obtain ⟨a2, v2, rfl, h2, l2, d2, u2, m1, m2⟩ := e2
          have ne := apart j a2 q ⟨e1, .inl ⟨ds2, e⟩⟩
          exact ⟨a2, v2, rfl, kp _ _ h2 ne, l2, d2.ext xt, u2, m1, m2⟩
        | oi c fs =>
          obtain ⟨a2, dx, v2, rfl, h2, d2, u2, m1, m2⟩ := e2
          have ne := apart j a2 q ⟨e1, .inr ⟨c, fs, e⟩⟩
          exact ⟨a2, dx, v2, rfl, kp _ _ h2 ne, d2.ext xt, u2, m1, m2⟩
    · by_cases q : x = a
      · subst q
        exact ⟨_, m2.at_, fun _ z => by cases z⟩
      · obtain ⟨o, e, t⟩ := s1.uok.al x hx
        exact ⟨o, kp x o e q, t⟩
    · exact kp x o (s1.ext x o e m1 m2 m3) (fun z => m2 (z ▸ hmt))
    · by_cases q : 0 = j
      · subst q
        rw [List.getElem?_set_self il] at e1
        cases e1
      · rw [List.getElem?_set_ne q] at e1
        exact s1.nu0 j xs x e1 e2
    · by_cases q : 0 = j
      · subst q
        exact s1.oim 0 c fs x hi e2
      · rw [List.getElem?_set_ne q] at e1
        exact s1.oim j c' fs' x e1 e2
  · rw [if_neg hl] at q1
    exact q1.elim
theorem ss_raise1 {c f : Str} (he : SE g E ε te me) : SS g E ε (tSeq (fun _ σ H => tMkO (gd c g.K) (spErr1 (gd c g.K) f) [] (tCons te tNil) σ H (fun cls d H' => E cls d H')) u) env envL (bd me fun d => .ex c [(f, d)]) := fun Mt U0 H0 U Ds σ H b s q => by
  show te σ H _
  refine he.sstep s q fun v d H1 b1 dv s1 q1 => ?_
  refine mk_err1 fun dd H2 sm nd hd => ?_
  have q2 : exS g Mt U0 H0 E c [(f, d)] b1 := q1
  exact q2 dd _ H2 hd (fun z => s1.uok.new nd (s1.sub _ z)) (.cons ((dv.ext (fun a o e _ _ => sm a o e)).sub fun a _ z => s1.sub a z) .nil) (s1.wd.same sm) (s1.ext.trans (fr_same sm))
end
end Gp
end
section
set_option Elab.async false
set_option linter.all false
set_option maxRecDepth 100000
set_option maxHeartbeats 4000000
namespace Gp
open PySem PySem.Spec PyProof.Rows L2 Gh
section
variable {g : Gw} {Mt U0 U U' : Addr → Prop} {H0 H H' H1 H2 : Hp} {b b1 : Nat} {σ : L2.St} {ε ε' : Env} {E : XK} {Q : VK} {W L W' : Type}
variable {env : W → Env} {envL : L → Env} {env' : W' → Env} {u ta tb : TS} {te : TE} {me : Tr D}
theorem se_powK {a c r : Int} (h1 : 0 ≤ c ∧ c ≤ 1000) (h2 : -(2 ^ 60) < a ∧ a < 2 ^ 60) (h3 : a ^ c.toNat = r) : SE g E ε (tOp (rPowK r) (tC (.int a)) (tC (.int c))) (.ok (.int r)) := fun U σ H b Q R W u q =>
  st_powK ⟨h1.1, by omega, by omega⟩ h3 (okP.here q W (.int _))
theorem passA {X : Cx} {E : XK} : Passes CX0 X E := fun _ _ _ _ _ _ _ h => h.elim
theorem PE.or {X : Cx} {e : Expr} {t1 t2 : TE} (a : PE X e t1) (c : PE X e t2) : PE X e (fun σ H Q => t1 σ H Q ∨ t2 σ H Q) := ⟨fun pins s σ H Q I h => h.elim (a.run pins s σ H Q I) (c.run pins s σ H Q I)⟩
theorem se_or {t1 t2 : TE} {m1 m2 : Tr D} (k : Bool) (h1 : SE g E ε t1 m1) (h2 : SE g E ε t2 m2) : SE g E ε (fun σ H Q => t1 σ H Q ∨ t2 σ H Q) (if k = true then m1 else m2) := fun U σ H b Q R W u q => by
  cases k with
  | true => exact .inl (h1 U σ H b Q R W u q)
  | false => exact .inr (h2 U σ H b Q R W u q)
def isC (c : Str) (o : D) : Bool := match o with
  | .obj c' _ => decide (c' = c)
  | _ => false
def IsA (g : Gw) (us : List Value) (f : D → Option Bool) : Prop := ∀ U H v d k, Den g U H v d → f d = some k → ∃ t, TyX g.K H v t ∧ PySem.W.kitAny g.K t us = some k
theorem tyX_new {K : PySem.W.Frag} {v : V} {t : Value} {p : Addr} {o : HO} (np : H p = none) (h : TyX K H v t) : TyX K (upd H p o) v t := by
  have s := same_new (o := o) np
  cases h with
  | base h =>
    cases h with
    | non => exact .base .non
    | bl x => exact .base (.bl x)
    | int i => exact .base (.int i)
    | str x => exact .base (.str x)
    | flt x => exact .base (.flt x)
    | lst e => exact .base (.lst (s _ _ e))
    | frz e => exact .base (.frz (s _ _ e))
    | tup e => exact .base (.tup (s _ _ e))
    | dK e => exact .base (.dK (s _ _ e))
    | dT e => exact .base (.dT (s _ _ e))
    | ins e cl ha hn htk hm => exact .base (.ins (s _ _ e) cl ha hn htk hm)
  | byt b => exact .byt b
  | set e => exact .set (s _ _ e)
  | kList e c => exact .kList e c
  | kTuple e c => exact .kTuple e c
  | kDict e c => exact .kDict e c
  | fTuple e => exact .fTuple (s _ _ e)
  | fDict e => exact .fDict (s _ _ e)
theorem se_isiT {n1 n2 : String} {f : D → Option Bool} (hT : IsA g [.type n1, .type n2] f) (he : SE g E ε te me) : SE g E ε (tCB (rIsiT g.K) (tCons te (tCons (tTup (tCons (tC (.ty n1)) (tCons (tC (.ty n2)) tNil))) tNil))) (bd me fun d => bd (opt (f d)) fun k => .ok (.bl k)) := fun U σ H b Q R W uo q =>
  he.step R W uo q fun v d H1 b1 d1 w1 f1 R1 u1 q1 => by
    refine ⟨by show 2 ≤ sizeLine; decide, fun p np => ?_⟩
    cases e : f d with
    | none => rw [e] at q1; exact q1.elim
    | some k =>
      rw [e] at q1
      obtain ⟨t, h1, h2⟩ := hT U H1 v d k d1 e
      have s := same_new (o := .tup [V.ty n1, V.ty n2]) np
      exact ⟨v, p, _, t, _, k, rfl, upd_same, .cons (.ty _) (.cons (.ty _) .nil), tyX_new np h1, h2, q1 _ _ (.bl k) (w1.same s) (f1.trans (fr_same s))⟩
theorem isA_of {us : List Value} {kb : String → Option Bool} {tab : List (Str × Bool)} (h1 : ∀ n k, kb n = some k → PySem.W.kitAny g.K (.type n) us = some k) (h2 : ∀ c k, tab.lookup c = some k → Cls g.K (gd c g.K) ∧ InsT g.K (gd c g.K) ∧ PySem.W.kitAny g.K (.ref (gd c g.K)) us = some k) : IsA g us (isF kb tab []) := fun U H v d k dn e => by
  have base : ∀ d, Den g U H v d → (kdN d).bind kb = some k → ∃ t, TyX g.K H v t ∧ PySem.W.kitAny g.K t us = some k := fun d dn e => by
    cases q : kdN d with
    | none => rw [q] at e; cases e
    | some n =>
      rw [q] at e
      exact ⟨_, kd_ty dn q, h1 n k e⟩
  cases d with
  | obj c fs =>
    obtain ⟨a, dx, fvs, rfl, ea, _, _⟩ := den_obj dn
    obtain ⟨z1, z2, z3⟩ := h2 c k e
    exact ⟨_, z2.ty z1 ea, z3⟩
  | err c fs => cases e
  | non => exact base _ dn e
  | bl b => exact base _ dn e
  | int i => exact base _ dn e
  | str x => exact base _ dn e
  | lst ds => exact base _ dn e
  | tup ds => exact base _ dn e
  | pen => exact base _ dn e
  | cls c => exact base _ dn e
  | dct => exact base _ dn e
  | dic ps => exact base _ dn e
  | dit ps => exact base _ dn e
theorem spI_len {K : PySem.W.Frag} {T : List (Addr × Str)} {cn : Str} {F : Fs → List D → Tr Fs} {n : Nat} (hn : ∀ fs (P : Fs → Nat → Prop) (X : Str → Fs → Nat → Prop) ds b, Al P X (F fs ds) b → ds.length = n) {vs : List V} (h : spI K T cn F vs H Q E) : vs.length = n + 1 := by
  obtain ⟨p, c, U, ds, b, x, dx, fvs, fs, rest, rfl, hx, df, ux, np, nc, dn, wd, u, al⟩ := h
  rw [List.length_cons, dn.length, hn _ _ _ _ _ al]
theorem lenI1 {F : Fs → D → Tr Fs} (fs : Fs) (P : Fs → Nat → Prop) (X : Str → Fs → Nat → Prop) (ds : List D) (b : Nat) (h : Al P X (ul1 (F fs) ds) b) : ds.length = 1 := by obtain ⟨_, rfl, _⟩ := al_ul1 h; rfl
theorem lenI3 {F : Fs → D → D → D → Tr Fs} (fs : Fs) (P : Fs → Nat → Prop) (X : Str → Fs → Nat → Prop) (ds : List D) (b : Nat) (h : Al P X (ul3 (F fs) ds) b) : ds.length = 3 := by obtain ⟨_, _, _, rfl, _⟩ := al_ul3 h; rfl
theorem lenI4 {F : Fs → D → D → D → D → Tr Fs} (fs : Fs) (P : Fs → Nat → Prop) (X : Str → Fs → Nat → Prop) (ds : List D) (b : Nat) (h : Al P X (ul4 (F fs) ds) b) : ds.length = 4 := by obtain ⟨_, _, _, _, rfl, _⟩ := al_ul4 h; rfl
section
variable {K : PySem.W.Frag} {T : List (Addr × Str)} {N : List Str} {cn : Str} {vs : List V} {t : TS} {envI : Fs → Env}
theorem ini_of1 {F : Fs → D → Tr Fs} {m : Fs → D → Tr (Fl Fs Empty)} (h : spI K T cn (fun fs => ul1 (F fs)) vs H Q E) (hF : ∀ fs x, F fs x = finI (m fs x)) (hs : ∀ p c fs x, SS ⟨K, T, p, c⟩ E (.oi cn fs :: ([x].map Sl.fz ++ List.replicate (N.length - (1 + 1)) Sl.no)) t envI envE (m fs x)) (he : ∀ fs, (envI fs)[0]? = some (.oi cn fs) := by intro _; rfl) : t { nx := fun _ H' => Q .non H', rt := Q } (L2.start N vs) H :=
  ini_of h (fun p c fs ds ⟨_, _, _, al⟩ => by
    obtain ⟨x, rfl, _⟩ := al_ul1 al
    exact ⟨m fs x, hF fs x, hs p c fs x⟩) he
theorem ini_of2 {F : Fs → D → D → Tr Fs} {m : Fs → D → D → Tr (Fl Fs Empty)} (h : spI K T cn (fun fs => ul2 (F fs)) vs H Q E) (hF : ∀ fs x y, F fs x y = finI (m fs x y)) (hs : ∀ p c fs x y, SS ⟨K, T, p, c⟩ E (.oi cn fs :: ([x, y].map Sl.fz ++ List.replicate (N.length - (2 + 1)) Sl.no)) t envI envE (m fs x y)) (he : ∀ fs, (envI fs)[0]? = some (.oi cn fs) := by intro _; rfl) : t { nx := fun _ H' => Q .non H', rt := Q } (L2.start N vs) H :=
  ini_of h (fun p c fs ds ⟨_, _, _, al⟩ => by
    obtain ⟨x, y, rfl, _⟩ := al_ul2 al
    exact ⟨m fs x y, hF fs x y, hs p c fs x y⟩) he
theorem ini_of3 {F : Fs → D → D → D → Tr Fs} {m : Fs → D → D → D → Tr (Fl Fs Empty)} (h : spI K T cn (fun fs => ul3 (F fs)) vs H Q E) (hF : ∀ fs x y z, F fs x y z = finI (m fs x y z)) (hs : ∀ p c fs x y z, SS ⟨K, T, p, c⟩ E (.oi cn fs :: ([x, y, z].map Sl.fz ++ List.replicate (N.length - (3 + 1)) Sl.no)) t envI envE (m fs x y z)) (he : ∀ fs, (envI fs)[0]? = some (.oi cn fs) := by intro _; rfl) : t { nx := fun _ H' => Q .non H', rt := Q } (L2.start N vs) H :=
  ini_of h (fun p c fs ds ⟨_, _, _, al⟩ => by
    obtain ⟨x, y, z, rfl, _⟩ := al_ul3 al
    exact ⟨m fs x y z, hF fs x y z, hs p c fs x y z⟩) he
theorem ini_of4 {F : Fs → D → D → D → D → Tr Fs} {m : Fs → D → D → D → D → Tr (Fl Fs Empty)} (h : spI K T cn (fun fs => ul4 (F fs)) vs H Q E) (hF : ∀ fs x y z w, F fs x y z w = finI (m fs x y z w)) (hs : ∀ p c fs x y z w, SS ⟨K, T, p, c⟩ E (.oi cn fs :: ([x, y, z, w].map Sl.fz ++ List.replicate (N.length - (4 + 1)) Sl.no)) t envI envE (m fs x y z w)) (he : ∀ fs, (envI fs)[0]? = some (.oi cn fs) := by intro _; rfl) : t { nx := fun _ H' => Q .non H', rt := Q } (L2.start N vs) H :=
  ini_of h (fun p c fs ds ⟨_, _, _, al⟩ => by
    obtain ⟨x, y, z, w, rfl, _⟩ := al_ul4 al
    exact ⟨m fs x y z w, hF fs x y z w, hs p c fs x y z w⟩) he
end
def spLaw (K : PySem.W.Frag) (T : List (Addr × Str)) : Sp := fun vs H Q _ => ∃ (a : Addr) (ns : List Int), vs = [.ref a] ∧ SqL K H a (ns.map V.int) ∧ ns.length ≤ 63 ∧ LamX.Tabs T H ∧ ∀ H', Q (.bl true) H'
theorem spLaw_len {K : PySem.W.Frag} {T : List (Addr × Str)} {vs : List V} (h : spLaw K T vs H Q E) : vs.length = 1 := by
  obtain ⟨a, ns, rfl, _⟩ := h
  rfl
theorem law_of {K : PySem.W.Frag} {T : List (Addr × Str)} {N : List Str} {i n : Nat} {F : Tr D} {m : Tr (Fl Unit Empty)} {vs : List V} {t : TS} {envU : Unit → Env} (yes : Yes F) (h : spLaw K T vs H Q E) (hN : N.length = n + 1) (hi : i < n + 1) (h0 : i ≠ 0) (hF : F = fin m)
    (hs : ∀ p c, SS ⟨K, T, p, c⟩ EF ((List.replicate (n + 1) Sl.no).set i (.fz .pen)) t envU envE m) : tSeq (tAsg (tCl (rSp (spPn K) [] E) (tCons (tVar 0) tNil)) (gName i)) t { nx := fun _ H' => Q .non H', rt := Q } (L2.start N vs) H := by
  obtain ⟨a, ns, rfl, hS, hl, hT, q⟩ := h
  have st0 : L2.start N [V.ref a] = some (.ref a) :: List.replicate n none := by
    unfold L2.start
    rw [List.length_singleton, hN]
    rfl
  rw [st0]
  refine ⟨.ref a, rfl, ?_⟩
  refine ⟨a, ns, rfl, hS, hl, fun p c H1 np pn s => ?_⟩
  obtain ⟨ns', i', z', h1, h2, _⟩ := id pn
  have wd : Wd ⟨K, T, p, c⟩ H1 1000000 := ⟨pn, hT.ext s⟩
  have u : UOk ⟨K, T, p, c⟩ (fun x => x = p ∨ x = c) H1 := ⟨.inl rfl, .inr rfl, fun x hx => by
    rcases hx with rfl | rfl
    · exact ⟨_, h1, fun _ z => by cases z⟩
    · exact ⟨_, h2, fun _ z => by cases z⟩⟩
  have own : ∀ j x, ¬ OwnAt ((some (V.ref a) :: List.replicate n none).set i (some (.ref p))) ((List.replicate (n + 1) Sl.no).set i (.fz .pen)) j x := fun j x z => by
    obtain ⟨_, z2⟩ := ownAt_set z
    rcases z2.2 with ⟨ds, e⟩ | ⟨c, fs, e⟩
    · cases (List.mem_replicate.mp (List.mem_of_getElem? e)).2
    · cases (List.mem_replicate.mp (List.mem_of_getElem? e)).2
  have rl0 : Rel ⟨K, T, p, c⟩ (fun x => x = p ∨ x = c) H1 (some (V.ref a) :: List.replicate n none) (List.replicate (n + 1) Sl.no) := by
    refine ⟨by rw [List.length_cons, List.length_replicate, List.length_replicate], fun j s e => ?_, fun j k x ne z1 z2 => ?_⟩
    · have hj := (List.getElem?_eq_some_iff.mp e).1
      rw [List.length_replicate] at hj
      obtain ⟨_, rfl⟩ := List.mem_replicate.mp (List.mem_of_getElem? e)
      have hl2 : j < (some (V.ref a) :: List.replicate n (none : Option V)).length := by rw [List.length_cons, List.length_replicate]; exact hj
      exact ⟨_, List.getElem?_eq_getElem hl2, trivial⟩
    · rcases z1.2 with ⟨ds, e⟩ | ⟨c, fs, e⟩
      · cases (List.mem_replicate.mp (List.mem_of_getElem? e)).2
      · cases (List.mem_replicate.mp (List.mem_of_getElem? e)).2
  have rl := rl0.set i (v := .ref p) (d := .pen) .pen
  have yes' : Al (fun d _ => d = .bl true) (fun _ _ _ => False) (fin m) 1000000 := hF ▸ yes
  refine hs p c (fun _ => False) (fun x => x = p ∨ x = c) H1 (fun x => x = p ∨ x = c) _ _ H1 1000000 ⟨rl, wd, u, fun _ z => z, fun j x z => (own j x z).elim, fun _ _ z _ _ _ => z, fun j ds x z1 z2 => (own j x ⟨z2, .inl ⟨ds, z1⟩⟩).elim, fun j cc fs x z1 z2 => (own j x ⟨z2, .inr ⟨cc, fs, z1⟩⟩).elim⟩ ((al_bd.mp yes').mono (fun f b h => ?_) (fun _ _ _ z => z.elim))
  cases f with
  | nx w => cases (show D.non = .bl true from h)
  | rt d =>
    have h' : d = .bl true := h
    subst h'
    intro v H2 dn _ _
    cases dn
    exact q H2
  | bk e => exact nomatch e
  | ct e => exact nomatch e
def EqR (g : Gw) (c : Str) (f : D → Bool) : Prop := ∀ U H v d, Den g U H v d → f d = true → ∃ tb, TyX g.K H v tb ∧ PySem.W.notFirst g.K (gd c g.K) tb = true
theorem sr_eqO {c : Str} {f : D → Bool} {r : List V → Hp → VK → Prop} {F : List D → Tr D} (hf : EqR g c f) (hr : SRL g E r F) : SR2 g E (rEqO g.K (gd c g.K) r) (eqO c f F) := fun U H b x y dx dy Q d1 d2 w u q => by
  obtain ⟨fs, rfl, q1⟩ := al_isO q
  obtain ⟨a, da, fa, rfl, ea, _, _⟩ := den_obj d1
  by_cases h : f dy = true
  · rw [if_pos h] at q1
    obtain ⟨tb, h1, h2⟩ := hf U H y dy d2 h
    exact st_eqO ea h1 h2 (hr U H b _ _ Q (.cons d1 (.cons d2 .nil)) w u q1)
  · rw [if_neg h] at q1
    exact q1.elim
def neO (c : Str) (f : D → Bool) (F : List D → Tr D) (x y : D) : Tr D := isO c x fun _ => if f y = true then bd (bd (F [x, y]) asB) fun k => .ok (.bl (!k)) else .bad
theorem sr_neO {c : Str} {f : D → Bool} {F : List D → Tr D} (hf : EqR g c f) : SR2 g E (rNeO g.K (gd c g.K) (spF g.K g.T F) E) (neO c f F) := fun U H b x y dx dy Q d1 d2 w u q => by
  obtain ⟨fs, rfl, q1⟩ := al_isO q
  obtain ⟨a, da, fa, rfl, ea, _, _⟩ := den_obj d1
  by_cases h : f dy = true
  · rw [if_pos h, bd_bd] at q1
    obtain ⟨tb, h1, h2⟩ := hf U H y dy d2 h
    refine st_neO ea h1 h2 ⟨g.p, g.c, U, _, b, .cons d1 (.cons d2 .nil), w, u, (al_bd.mp q1).mono (fun d b1 h1 v H1 dv w1 f1 => ?_) (fun _ _ _ z => z)⟩
    obtain ⟨k, rfl, q2⟩ := al_asBk h1
    exact ⟨k, den_bl dv, q2 _ H1 (.bl _) w1 f1⟩
  · rw [if_neg h] at q1
    exact q1.elim
end
end Gp
namespace Gp
open PySem PySem.Spec PyProof.Rows L2 Gh
section
variable {g : Gw}
theorem kitAny2 {K : PySem.W.Frag} {n a c : String} {k : Bool} (h : ((kitB n a).bind fun x => (kitB n c).map fun y => x || y) = some k) : PySem.W.kitAny K (.type n) [.type a, .type c] = some k := by
  cases e1 : kitB n a with
  | none => rw [e1] at h; cases h
  | some x =>
    cases e2 : kitB n c with
    | none => rw [e1, e2] at h; cases h
    | some y =>
      rw [e1, e2] at h
      cases h
      cases x with
      | true => exact kitAny_cons (kit_ty e1) (fun z => by cases z) (fun _ => rfl)
      | false =>
        refine kitAny_cons (kit_ty e1) (fun _ => ?_) (fun z => by cases z)
        cases y with
        | true => exact kitAny_cons (kit_ty e2) (fun z => by cases z) (fun _ => rfl)
        | false => exact kitAny_cons (kit_ty e2) (fun _ => rfl) (fun z => by cases z)
def eqF0 (cs : List Str) (d : D) : Bool := match d with
  | .obj c _ => cs.contains c
  | d => (kdN d).isSome
theorem eqR_of {c : Str} {cs : List Str} (h1 : ∀ n ∈ (["NoneType", "bool", "int", "str", "list", "tuple", "dict"] : List String), PySem.W.notFirst g.K (gd c g.K) (.type n) = true) (h2 : ∀ c' ∈ cs, Cls g.K (gd c' g.K) ∧ InsT g.K (gd c' g.K) ∧ PySem.W.notFirst g.K (gd c g.K) (.ref (gd c' g.K)) = true) : EqR g c (eqF0 cs) := fun U H v d dn e => by
  have base : ∀ d, Den g U H v d → (kdN d).isSome = true → ∃ tb, TyX g.K H v tb ∧ PySem.W.notFirst g.K (gd c g.K) tb = true := fun d dn e => by
    cases q : kdN d with
    | none => rw [q] at e; cases e
    | some n =>
      refine ⟨_, kd_ty dn q, h1 n ?_⟩
      cases d <;> cases q <;> decide
  cases d with
  | obj c' fs =>
    obtain ⟨a, dx, fvs, rfl, ea, _, _⟩ := den_obj dn
    obtain ⟨z1, z2, z3⟩ := h2 c' (by simpa [eqF0] using e)
    exact ⟨_, z2.ty z1 ea, z3⟩
  | err c fs => exact base _ dn e
  | non => exact base _ dn e
  | bl b => exact base _ dn e
  | int i => exact base _ dn e
  | str x => exact base _ dn e
  | lst ds => exact base _ dn e
  | tup ds => exact base _ dn e
  | pen => exact base _ dn e
  | cls c => exact base _ dn e
  | dct => exact base _ dn e
  | dic ps => exact base _ dn e
  | dit ps => exact base _ dn e
end
end Gp
namespace Gp
open PySem PySem.Spec PyProof.Rows L2 Gh
theorem fnOk_weak {P : Program} {w : World} {K : PySem.W.Frag} {mg : Str → Option Value} {base : Heap} {CX : CXT} {k : Nat} {f : Addr} {fd : FuncData} {ps : List Str} {sp sp' : Sp} (F : FnOk P w K mg base CX k f fd ps sp) (h : ∀ vs H Q E, sp' vs H Q E → sp vs H Q E) : FnOk P w K mg base CX k f fd ps sp' :=
  ⟨fun vs H Q E z => F.len vs H Q E (h _ _ _ _ z), fun A o s H a us vs Q E hr e0 hb r z => F.run A o s H a us vs Q E hr e0 hb r (h _ _ _ _ z)⟩
def F_draw (x y : D) : Tr D := match x, y with
  | .pen, .int m => .draw m fun d => .ok (.int d)
  | _, _ => .bad
theorem draw_of {K : PySem.W.Frag} {T : List (Addr × Str)} {vs : List V} {H : Hp} {Q : VK} {E : XK} (h : spF K T (ul2 F_draw) vs H Q E) : spDr vs H Q E := by
  obtain ⟨p, c, U, ds, b, dn, wd, u, al⟩ := h
  obtain ⟨x, y, rfl, al2⟩ := al_ul2 al
  obtain ⟨v, w, rfl, d1, d2⟩ := denL_2 dn
  unfold F_draw at al2
  split at al2
  · rename_i m
    cases d1
    cases d2
    obtain ⟨b', rfl, h0, h1, h2⟩ := al2
    refine ⟨p, c, b', m, rfl, h0, log_of h0 h1, wd.pen, fun d H' d0 d1 pn k => ?_⟩
    exact h2 d d0 d1 (.int d) H' (.int d) ⟨pn, tabs_keepP k wd.pen wd.tabs⟩ (keep_fr k)
  · exact al2.elim
end Gp
end
section
set_option Elab.async false
set_option linter.all false
set_option maxRecDepth 100000
set_option maxHeartbeats 4000000
namespace Gp
open PySem PySem.Spec PyProof.Rows L2 Gh
def intsD : List D → Option (List Int)
  | [] => some []
  | .int i :: r => (intsD r).map (i :: ·)
  | _ => none
def blsD : List D → Option (List Bool)
  | [] => some []
  | .bl i :: r => (blsD r).map (i :: ·)
  | _ => none
theorem intsD_map (ns : List Int) : intsD (ns.map D.int) = some ns := by
  induction ns with
  | nil => rfl
  | cons n r ih => show (intsD (r.map D.int)).map (n :: ·) = _; rw [ih]; rfl
theorem blsD_map (ns : List Bool) : blsD (ns.map D.bl) = some ns := by
  induction ns with
  | nil => rfl
  | cons n r ih => show (blsD (r.map D.bl)).map (n :: ·) = _; rw [ih]; rfl
section
variable {g : Gw} {U : Addr → Prop} {H : Hp} {b : Nat} {E : XK} {Q : VK} {ε : Env} {te : TE} {me : Tr D}
theorem ints_den : ∀ {vs : List V} {ds : List D} {ns : List Int}, DenL g U H vs ds → intsD ds = some ns → vs = ns.map V.int
  | _, _, _, .nil, h => by cases h; rfl
  | _, d :: ds, ns, .cons a r, h => by
    cases d with
    | int i =>
      cases q : intsD ds with
      | none => unfold intsD at h; rw [q] at h; cases h
      | some z =>
        unfold intsD at h
        rw [q] at h
        cases h
        rw [den_int a, ints_den r q]
        rfl
    | _ => cases h
theorem bls_den : ∀ {vs : List V} {ds : List D} {ns : List Bool}, DenL g U H vs ds → blsD ds = some ns → vs = ns.map V.bl
  | _, _, _, .nil, h => by cases h; rfl
  | _, d :: ds, ns, .cons a r, h => by
    cases d with
    | bl i =>
      cases q : blsD ds with
      | none => unfold blsD at h; rw [q] at h; cases h
      | some z =>
        unfold blsD at h
        rw [q] at h
        cases h
        rw [den_bl a, bls_den r q]
        rfl
    | _ => cases h
def lsI (x : D) (k : List Int → Tr D) : Tr D := match x with
  | .lst ds => match intsD ds with
    | some ns => k ns
    | none => .bad
  | _ => .bad
theorem al_lsI {P : D → Nat → Prop} {X : Str → Fs → Nat → Prop} {x : D} {k : List Int → Tr D} {v : V} (dn : Den g U H v x) (h : Al P X (lsI x k) b) : ∃ a ns, v = .ref a ∧ SqL g.K H a (ns.map V.int) ∧ x = .lst (ns.map D.int) ∧ ns.length ≤ sizeLine ∧ Al P X (k ns) b := by
  unfold lsI at h
  split at h
  · rename_i ds
    split at h
    · rename_i ns e
      obtain ⟨a, vs, rfl, hh, _, l, kk⟩ := den_lst dn
      have e2 := ints_den kk e
      subst e2
      refine ⟨a, ns, rfl, SqL.of hh, ?_, by rw [List.length_map] at l; exact l, h⟩
      congr 1
      clear kk l hh dn h
      induction ds generalizing ns with
      | nil => cases e; rfl
      | cons d r ih =>
        cases d with
        | int i =>
          unfold intsD at e
          cases q : intsD r with
          | none => rw [q] at e; cases e
          | some z =>
            rw [q] at e
            cases e
            rw [List.map_cons, ← ih z q]
        | _ => cases e
    · exact h.elim
  · exact h.elim
def sumD (x : D) : Tr D := lsI x fun ns => .ok (.int ns.sum)
theorem cr_sumK {X : Cx} {K : PySem.W.Frag} (h : X.K = K) (hc : X.calm = true) : CallR X (.builtin "sum") (rSum K) := h ▸ cr_sum hc
theorem srl_sum : SRL g E (rSum g.K) (ul1 sumD) := fun U H b xs dxs Q dn w u q => by
  obtain ⟨x, rfl, q1⟩ := al_ul1 q
  obtain ⟨v, rfl, d1⟩ := denL_1 dn
  obtain ⟨a, ns, rfl, h1, _, _, q2⟩ := al_lsI d1 q1
  exact ⟨a, ns, rfl, h1, okP.here q2 w (.int _)⟩
def insI (a : Int) : List Int → List Int
  | [] => [a]
  | b :: r => if a ≤ b then a :: b :: r else b :: insI a r
def sortI : List Int → List Int
  | [] => []
  | a :: r => insI a (sortI r)
theorem insI_perm (a : Int) : ∀ l : List Int, (insI a l).Perm (a :: l)
  | [] => .refl _
  | b :: r => by
    unfold insI
    split
    · exact .refl _
    · exact ((insI_perm a r).cons b).trans (.swap a b r)
theorem insI_sorted (a : Int) : ∀ l : List Int, l.Pairwise (· ≤ ·) → (insI a l).Pairwise (· ≤ ·)
  | [], _ => List.pairwise_singleton _ _
  | b :: r, h => by
    unfold insI
    split
    · rename_i hab
      refine List.pairwise_cons.mpr ⟨fun y hy => ?_, h⟩
      rcases List.mem_cons.mp hy with rfl | hy
      · exact hab
      · exact Int.le_trans hab ((List.pairwise_cons.mp h).1 y hy)
    · rename_i hab
      refine List.pairwise_cons.mpr ⟨fun y hy => ?_, insI_sorted a r (List.pairwise_cons.mp h).2⟩
      rcases List.mem_cons.mp ((insI_perm a r).mem_iff.mp hy) with rfl | hy
      · omega
      · exact (List.pairwise_cons.mp h).1 y hy
theorem sortI_perm : ∀ l : List Int, (sortI l).Perm l
  | [] => .refl _
  | a :: r => (insI_perm a _).trans ((sortI_perm r).cons a)
theorem sortI_sorted : ∀ l : List Int, (sortI l).Pairwise (· ≤ ·)
  | [] => .nil
  | a :: r => insI_sorted a _ (sortI_sorted r)
theorem sorted_eq : ∀ {l m : List Int}, l.Perm m → l.Pairwise (· ≤ ·) → m.Pairwise (· ≤ ·) → l = m
  | [], m, p, _, _ => (List.nil_perm.mp p).symm
  | a :: r, [], p, _, _ => by cases List.perm_nil.mp p
  | a :: r, c :: s, p, h1, h2 => by
    have e : a = c := by
      have m1 : c ∈ a :: r := p.mem_iff.mpr List.mem_cons_self
      have m2 : a ∈ c :: s := p.mem_iff.mp List.mem_cons_self
      rcases List.mem_cons.mp m1 with e | e
      · exact e.symm
      · rcases List.mem_cons.mp m2 with e2 | e2
        · exact e2
        · exact Int.le_antisymm ((List.pairwise_cons.mp h1).1 c e) ((List.pairwise_cons.mp h2).1 a e2)
    subst e
    rw [sorted_eq (List.perm_cons a |>.mp p) (List.pairwise_cons.mp h1).2 (List.pairwise_cons.mp h2).2]
def sortD (x : D) : Tr D := lsI x fun ns => .ok (.lst ((sortI ns).map .int))
theorem cr_sortedK {X : Cx} {K : PySem.W.Frag} (h : X.K = K) : CallR X (.builtin "sorted") (rSortedI K) := h ▸ cr_sortedI
theorem srl_sorted : SRL g E (rSortedI g.K) (ul1 sortD) := fun U H b xs dxs Q dn w u q => by
  obtain ⟨x, rfl, q1⟩ := al_ul1 q
  obtain ⟨v, rfl, d1⟩ := denL_1 dn
  obtain ⟨a, ns, rfl, h1, _, l, q2⟩ := al_lsI d1 q1
  refine ⟨a, ns, rfl, h1, fun ns' p pm srt np => ?_⟩
  have e : ns' = sortI ns := sorted_eq (pm.trans (sortI_perm ns).symm) srt (sortI_sorted ns)
  subst e
  refine new_lst q2 w u ?_ (DenL.ints _) p np
  rw [List.length_map, (sortI_perm ns).length_eq]
  exact l
def lsB (x : D) (k : List Bool → Tr D) : Tr D := match x with
  | .lst ds => match blsD ds with
    | some ns => k ns
    | none => .bad
  | _ => .bad
def allD (x : D) : Tr D := lsB x fun ns => .ok (.bl (ns.all id))
theorem cr_allK {X : Cx} {K : PySem.W.Frag} (h : X.K = K) (hc : X.calm = true) : CallR X (.builtin "all") (rAll K) := h ▸ cr_all hc
theorem al_lsB {P : D → Nat → Prop} {X : Str → Fs → Nat → Prop} {x : D} {k : List Bool → Tr D} {v : V} (dn : Den g U H v x) (h : Al P X (lsB x k) b) : ∃ a ns, v = .ref a ∧ SqL g.K H a (ns.map V.bl) ∧ Al P X (k ns) b := by
  unfold lsB at h
  split at h
  · split at h
    · rename_i ns e
      obtain ⟨a, vs, rfl, hh, _, l, kk⟩ := den_lst dn
      have e2 := bls_den kk e
      subst e2
      exact ⟨a, ns, rfl, SqL.of hh, h⟩
    · exact h.elim
  · exact h.elim
theorem srl_all : SRL g E (rAll g.K) (ul1 allD) := fun U H b xs dxs Q dn w u q => by
  obtain ⟨x, rfl, q1⟩ := al_ul1 q
  obtain ⟨v, rfl, d1⟩ := denL_1 dn
  obtain ⟨a, ns, rfl, h1, q2⟩ := al_lsB d1 q1
  exact ⟨a, ns, rfl, h1, okP.here q2 w (.bl _)⟩
end
end Gp
end
section
set_option Elab.async false
set_option linter.all false
set_option maxRecDepth 100000
set_option maxHeartbeats 4000000
namespace Gp
open PySem PySem.Spec PyProof.Rows L2 Gh
def tryT {α β : Type} : Tr α → (α → Tr β) → (Str → Fs → Tr β) → Tr β
  | .ok a, k, _ => k a
  | .ex c fs, _, x => x c fs
  | .bad, _, _ => .bad
  | .draw m f, k, x => .draw m fun d => tryT (f d) k x
theorem al_try {α β : Type} {P : β → Nat → Prop} {E : Str → Fs → Nat → Prop} {m : Tr α} {k : α → Tr β} {x : Str → Fs → Tr β} {b : Nat} : Al P E (tryT m k x) b ↔ Al (fun a b1 => Al P E (k a) b1) (fun c fs b1 => Al P E (x c fs) b1) m b := by
  induction m generalizing b with
  | draw m f ih =>
    constructor
    · rintro ⟨b', e, h1, h2, h3⟩
      exact ⟨b', e, h1, h2, fun d d0 d1 => (ih d).mp (h3 d d0 d1)⟩
    · rintro ⟨b', e, h1, h2, h3⟩
      exact ⟨b', e, h1, h2, fun d d0 d1 => (ih d).mpr (h3 d d0 d1)⟩
  | _ => exact Iff.rfl
def THd (K : PySem.W.Frag) (T : List (Addr × Str)) (FH : Tr D → Tr D) : (XK → Hp → VK → Prop) → Hp → VK → Prop := fun tl H Q => ∃ p c U b m, Wd ⟨K, T, p, c⟩ H b ∧ UOk ⟨K, T, p, c⟩ U H ∧
  (∀ (E : XK) H' b' Q', Fr H H' p → Wd ⟨K, T, p, c⟩ H' b' → Al (okP ⟨K, T, p, c⟩ U H' Q') (exP ⟨K, T, p, c⟩ U E H') m b' → tl E H' Q') ∧ Al (okP ⟨K, T, p, c⟩ U H Q) (fun _ _ _ => False) (FH m) b
section
variable {g : Gw} {Mt U0 U U' : Addr → Prop} {H0 H H' H1 H2 : Hp} {b b1 : Nat} {σ : L2.St} {ε ε' : Env} {E : XK} {W L W' : Type}
variable {env : W → Env} {envL : L → Env} {env' : W' → Env} {u ta tb : TS} {te : TE} {me : Tr D}
theorem UOk.extN (u : UOk g U H) (n : LamX.ExtN H H') : UOk g U H' := ⟨u.p, u.c, fun a ha => by
  obtain ⟨o, h, z⟩ := u.al a ha
  exact ⟨o, n a o h z, z⟩⟩
theorem se_lam {FH : Tr D → Tr D} {t : XK → TE} {m : Tr D} (h : ∀ E, SE g E ε (t E) m) : SE g E ε (LamX.tLam g.T (THd g.K g.T FH) t) (nox (FH m)) := fun U σ H b Q R W u q => by
  refine ⟨W.tabs, fun H1 n t1 => ⟨g.p, g.c, U, b, m, ⟨W.pen.extN n, t1⟩, u.extN n, fun E H' b' Q' f w' a' => ?_, ?_⟩⟩
  · have f1 : Fr H H' g.p := (ext_fr n).trans f
    exact h E U σ H' b' Q' (R.fr u f1) w' (u.fr f1 w') a'
  · exact Al.mono (fun _ _ z => okP.fr (ext_fr n) z) (fun _ _ _ z => z) (al_nox (E' := fun _ _ _ => False) q)
theorem fin_al {P : D → Nat → Prop} {X : Str → Fs → Nat → Prop} {m : Tr (Fl Unit Empty)} (h : Al P X (fin m) b) : Al (fun f b => match f with | .nx _ => P .non b | .rt d => P d b | .bk e => nomatch e | .ct e => nomatch e) X m b := by
  refine (al_bd.mp h).mono (fun f b h => ?_) (fun _ _ _ h => h)
  cases f with
  | nx w => exact h
  | rt d => exact h
  | bk e => exact nomatch e
  | ct e => exact nomatch e
theorem run_rest {t : TS} {envU : Unit → Env} {m : Tr (Fl Unit Empty)} {Q : VK} (ss : SS g EF ε t envU envE m) (R : Rel g U H1 σ ε) (no : ∀ i a, ¬ OwnAt σ ε i a) (w : Wd g H1 b) (u : UOk g U H1) (f : Fr H H1 g.p) (al : Al (okP g U H Q) (fun _ _ _ => False) (fin m) b) :
    t { nx := fun _ H' => Q .non H', rt := Q } σ H1 := by
  refine ss (fun _ => False) U H U _ _ H1 b ⟨R, w, u, fun _ z => z, fun i a z => (no i a z).elim, fun a o z1 z2 _ z3 => f a o z1 z2 z3, fun i ds' a z1 z2 => (no i a ⟨z2, .inl ⟨ds', z1⟩⟩).elim, fun i c fs a z1 z2 => (no i a ⟨z2, .inr ⟨c, fs, z1⟩⟩).elim⟩ ((fin_al al).mono (fun f b1 h1 => ?_) (fun c fs b1 h1 => h1.elim))
  cases f with
  | nx w => exact fun U' σ' H' e s => h1 .non H' .non s.wd fun a o z1 z2 z3 => s.ext a o z1 z2 (fun z => z) z3
  | rt d => exact fun v H' dn w f => h1 v H' dn w fun a o z1 z2 z3 => f a o z1 z2 (fun z => z) z3
  | bk e => exact nomatch e
  | ct e => exact nomatch e
def ExH (g : Gw) (U : Addr → Prop) (H : Hp) (Q : VK) (x : Str → Fs → Tr D) : XK := fun cls d H' => ∃ cl fs b1 dd fvs, cls = .ref (gd cl g.K) ∧ d = some dd ∧ H' dd = some (.xd fvs) ∧ ¬ U dd ∧ DenF g U H' fvs fs ∧ Wd g H' b1 ∧ Fr H H' g.p ∧ Al (okP g U H Q) (fun _ _ _ => False) (x cl fs) b1
theorem se_bad {t : TE} : SE g E ε t .bad := fun _ _ _ _ _ _ _ _ q => q.elim
end
end Gp
end
section
set_option Elab.async false
set_option linter.all false
set_option maxRecDepth 100000
set_option maxHeartbeats 4000000
namespace Gp
open PySem PySem.Spec PyProof.Rows L2 Gh
section
variable {g : Gw} {Mt U0 U U' : Addr → Prop} {H0 H H' H1 H2 : Hp} {b b1 b2 : Nat} {σ : L2.St} {ε ε' : Env} {E : XK} {W L W' : Type}
variable {env : W → Env} {envL : L → Env} {env' : W' → Env} {u ta tb : TS} {te : TE} {me : Tr D}
theorem oi_step {c : Str} {fs fs' : Fs} {a dx' : Addr} {fvs' : List (Str × V)} (s1 : Stt g Mt U0 H0 U σ H1 b1 ε) (hi : ε[0]? = some (.oi c fs)) (eo : σ[0]? = some (some (.ref a))) (h2 : H2 a = some (.ins (gd c g.K) dx' fvs')) (d2 : DenF g U H2 fvs' fs') (w2 : Wd g H2 b2) (f2 : FrM g (· = a) H1 H2) :
    Stt g Mt U0 H0 U σ H2 b2 (ε.set 0 (.oi c fs')) ∧ Ev U H1 U H2 := by
  obtain ⟨o, eo', a0, dx, fvs, e0, ha, df, ua, n1, n2⟩ := s1.rel.at_ 0 _ hi
  have ea : a0 = a := by
    rw [eo'] at eo
    subst e0
    cases eo
    rfl
  subst ea
  have xt : ExtU U H1 H2 := fun x o e ne t => f2 x o e (fun z => ne (z ▸ s1.uok.p)) (fun z => ne (z ▸ ua)) t
  have il : 0 < ε.length := (List.getElem?_eq_some_iff.mp hi).1
  have ow : ∀ j x, OwnAt σ (ε.set 0 (.oi c fs')) j x → OwnAt σ ε j x := fun j x z => by
    obtain ⟨z1, z2⟩ := z
    by_cases q : 0 = j
    · subst q
      exact ⟨z1, .inr ⟨c, fs, hi⟩⟩
    · rw [List.getElem?_set_ne q] at z2
      exact ⟨z1, z2⟩
  have apart : ∀ j x, 0 ≠ j → OwnAt σ ε j x → x ≠ a0 := fun j x ne z e => by
    subst e
    exact s1.rel.apart 0 j x ne ⟨eo, .inr ⟨c, fs, hi⟩⟩ z
  have hmt := s1.oim 0 c fs a0 hi eo
  refine ⟨⟨⟨by rw [List.length_set]; exact s1.rel.len, fun j x e => ?_, fun j k x ne z1 z2 => s1.rel.apart j k x ne (ow _ _ z1) (ow _ _ z2)⟩, w2, ⟨s1.uok.p, s1.uok.c, fun x hx => ?_⟩, s1.sub, fun j x z => s1.own j x (ow _ _ z), fun x o e m1 m2 m3 => ?_, fun j xs x e1 e2 => ?_, fun j c' fs' x e1 e2 => ?_⟩, ⟨xt, fun _ _ _ n _ => n⟩⟩
  · by_cases q : 0 = j
    · subst q
      rw [List.getElem?_set_self il] at e
      cases e
      exact ⟨_, eo, a0, dx', _, rfl, h2, d2, ua, n1, n2⟩
    · rw [List.getElem?_set_ne q] at e
      obtain ⟨o, e1, e2⟩ := s1.rel.at_ j x e
      refine ⟨o, e1, ?_⟩
      cases x with
      | no => trivial
      | fz d =>
        obtain ⟨v, e3, e4⟩ := e2
        exact ⟨v, e3, e4.ext xt⟩
      | ow ds2 =>
        obtain ⟨a2, v2, rfl, h2, l2, d2, u2, m1, m2⟩ := e2
        have ne := apart j a2 q ⟨e1, .inl ⟨ds2, e⟩⟩
        exact ⟨a2, v2, rfl, f2 _ _ h2 m1 ne (fun _ z => by cases z), l2, d2.ext xt, u2, m1, m2⟩
      | oi c fs =>
        obtain ⟨a2, dx, v2, rfl, h2, d2, u2, m1, m2⟩ := e2
        have ne := apart j a2 q ⟨e1, .inr ⟨c, fs, e⟩⟩
        exact ⟨a2, dx, v2, rfl, f2 _ _ h2 m1 ne (fun _ z => by cases z), d2.ext xt, u2, m1, m2⟩
  · by_cases q : x = a0
    · subst q
      exact ⟨_, h2, fun _ z => by cases z⟩
    · by_cases qp : x = g.p
      · subst qp
        obtain ⟨ns, i, z, h, _⟩ := w2.pen
        exact ⟨_, h, fun _ z => by cases z⟩
      · obtain ⟨o, e, t⟩ := s1.uok.al x hx
        exact ⟨o, f2 x o e qp q t, t⟩
  · exact f2 x o (s1.ext x o e m1 m2 m3) m1 (fun z => m2 (z ▸ hmt)) m3
  · by_cases q : 0 = j
    · subst q
      rw [List.getElem?_set_self il] at e1
      cases e1
    · rw [List.getElem?_set_ne q] at e1
      exact s1.nu0 j xs x e1 e2
  · by_cases q : 0 = j
    · subst q
      exact s1.oim 0 c fs x hi e2
    · rw [List.getElem?_set_ne q] at e1
      exact s1.oim j c' fs' x e1 e2
def tSup (K : PySem.W.Frag) (B : Addr) (m : Str) (f2 : Addr) (ta : TA) (sp : Sp) (dvs : List V) (E : XK) : TS := fun D σ H => ∃ a C dx fs, σ[0]? = some (some (.ref a)) ∧ H a = some (.ins C dx fs) ∧ SupC K C B m f2 ∧ ta σ H fun us H2 => sp (.ref a :: (us ++ dvs)) H2 (fun _ H3 => D.nx σ H3) E
theorem ss_sup {c m : Str} {B f2 : Addr} {fs : Fs} {t : TA} {mt : Tr (List D)} {F : Fs → List D → Tr Fs} {k : Fs → Tr (Fl W L)} (hS : SupC g.K (gd c g.K) B m f2) (ht : SA g E ε t mt) (hk : ∀ fs', SS g E (ε.set 0 (.oi c fs')) u env envL (k fs')) (hi : ε[0]? = some (.oi c fs) := by rfl) :
    SS g E ε (tSeq (tSup g.K B m f2 t (spI g.K g.T c F) [] E) u) env envL (bd mt fun ds => bd (F fs ds) k) := fun Mt U0 H0 U Ds σ H b s q => by
  obtain ⟨o, eo, a, dx, fvs, rfl, ha, df, ua, n1, n2⟩ := s.rel.at_ 0 _ hi
  refine ⟨a, _, dx, fvs, eo, ha, hS, ht.sstep s q fun vs ds H1 b1 dv s1 q1 => ?_⟩
  obtain ⟨o, eo', a', dx', fvs', rfl, ha', df', ua', n1', n2'⟩ := s1.rel.at_ 0 _ hi
  have ea : a' = a := by rw [eo'] at eo; cases eo; rfl
  subst ea
  rw [List.append_nil]
  refine ⟨g.p, g.c, U, ds, b1, a', dx', fvs', fs, vs, rfl, ha', df', ua', n1', n2', dv, s1.wd, s1.uok, (al_bd.mp q1).mono (fun fs2 b2 h dx2 fvs2 H2 e2 d2 w2 f2 => ?_) (fun cn fs2 b2 h dd fv H2 e1 nd d1 w1 f1 => ?_)⟩
  · obtain ⟨s2, ev⟩ := oi_step s1 hi eo e2 d2 w2 f2
    exact hk fs2 Mt U0 H0 U Ds σ H2 b2 s2 (h.mono (fun _ _ z => z.ev ev) (fun _ _ _ z => z))
  · have hmt := s1.oim 0 c fs a' hi eo
    exact h dd fv H2 e1 (fun z => nd (s1.sub _ z)) (d1.sub fun x _ z => s1.sub x z) w1 fun x o e m1 m2 m3 => f1 x o (s1.ext x o e m1 m2 m3) m1 (fun z => m2 (z ▸ hmt)) m3
def plD : D → Tr D
  | .non => .ok .non
  | .bl b => .ok (.bl b)
  | .int i => .ok (.int i)
  | .str x => .ok (.str x)
  | _ => .bad
theorem al_pl {P : D → Nat → Prop} {X : Str → Fs → Nat → Prop} {d : D} (h : Al P X (plD d) b) : P d b ∧ ∀ U' H v, Den g U' H v d → ∀ U, Den g U H v d := by
  cases d with
  | non => exact ⟨h, fun _ _ _ d _ => by cases d; exact .non⟩
  | bl b => exact ⟨h, fun _ _ _ d _ => by cases d; exact .bl _⟩
  | int i => exact ⟨h, fun _ _ _ d _ => by cases d; exact .int _⟩
  | str x => exact ⟨h, fun _ _ _ d _ => by cases d with | str _ l => exact .str _ l⟩
  | _ => exact h.elim
theorem se_prS {c : Str} {fs : Fs} {F : List D → Tr D} (hi : ε[0]? = some (.oi c fs) := by rfl) : SE g E ε (tPr (gd c g.K) (spF g.K g.T F) [] EF (tVar 0)) (bd (nox (F [.obj c fs])) plD) := fun U σ H b Q R W u q => by
  obtain ⟨o, eo, a, dx, fvs, rfl, ha, df, ua, n1, n2⟩ := R.at_ 0 _ hi
  refine ⟨.ref a, eo, a, dx, fvs, rfl, ha, g.p, g.c, fun x => U x ∧ x ≠ a, [.obj c fs], b, .cons (.obj ha (fun z => z.2 rfl) (df.sub fun x _ z => z.1)) .nil, W, ⟨⟨u.p, n1.symm⟩, ⟨u.c, n2.symm⟩, fun x z => u.al x z.1⟩, (al_nox (al_bd.mp q)).mono (fun d b1 h => ?_) (fun _ _ _ h => h)⟩
  obtain ⟨h1, h2⟩ := al_pl (g := g) h
  exact fun v H' dn w f => h1 v H' (h2 _ _ _ dn U) w f
end
section
variable {K : PySem.W.Frag} {x qual file : Str} {params : Arguments} {body : List Stmt} {scope : Scope} {dvs : List V} {f B : Addr} {fd : FuncData} {ps : List Str}
theorem SupF.bindsN (F : SupF K x qual params body scope [] f B file fd)
    (h : ∀ (cl : List (Str × Addr)) (kV doc pm : Value) (an : Option Addr) (cdv ct : Value) (us : List Value), us.length = ps.length → bindArgs (PySem.W.fnX x qual params body scope cl .none kV doc pm an cdv ct) ⟨us, []⟩ = pure (ps.zip us)) : Binds K fd ps [] := by
  obtain ⟨oc, od, dV, kV, doc, pm, an, cda, ct, osl, cc, rfl, lk, hcd, hD, _⟩ := F.ex
  rcases hD with ⟨_, rfl⟩ | ⟨e, _⟩
  · exact .all (h _ kV doc pm an _ ct)
  · exact absurd rfl e
theorem SupF.binds1 (F : SupF K x qual params body scope dvs f B file fd) (n j : Nat) (hd : dvs ≠ []) (hn : n + (dvs.length - j) = ps.length)
    (h : ∀ (cl : List (Str × Addr)) (T : Addr) (kV doc pm : Value) (an : Option Addr) (cdv ct : Value) (us its : List Value), us.length = n → its.length = dvs.length →
      ∃ k, bindArgs (PySem.W.fnX x qual params body scope cl (.ref T) kV doc pm an cdv ct) ⟨us, []⟩ = seqItems? (.ref T) >>= k ∧ k (some its.toArray) = pure (ps.zip (us ++ its.drop j))) : ∃ ds, Vals (dvs.drop j) ds ∧ Binds K fd ps ds := by
  obtain ⟨oc, od, dV, kV, doc, pm, an, cda, ct, osl, cc, rfl, lk, hcd, hD, _⟩ := F.ex
  rcases hD with ⟨e, _⟩ | ⟨_, T, o, its, m, rfl, lT, oT, rT⟩
  · exact absurd e hd
  · refine ⟨its.drop j, rT.drop j, fun s us X hlen => ?_⟩
    have l1 : its.length = dvs.length := rT.length.symm
    have l2 : us.length = n := by
      rw [List.length_append, List.length_drop, l1] at hlen
      omega
    obtain ⟨k, e1, e2⟩ := h _ T kV doc pm an _ ct us its l2 l1
    refine BindsTo.of_looks fun M => ?_
    rw [e1]
    exact looks_items X lT oT (.of_pure e2)
end
end Gp
end
section
set_option Elab.async false
set_option linter.all false
set_option maxRecDepth 100000
set_option maxHeartbeats 4000000
namespace Gp
open PySem PySem.Spec PyProof.Rows L2 Gh
theorem fileB_ok {K : PySem.W.Frag} {file : Str} {v : Value} (h : fileB K file v = true) : ∃ c, v = .ref c ∧ ∃ ccl cdd vs ccs tf, K.lookup c = some ⟨ccl, cdd, .fields vs, ccs⟩ ∧ vs[2]? = some (.str file tf) := by
  unfold fileB at h
  split at h
  · rename_i c
    split at h
    · rename_i e
      split at h
      · rename_i e2
        have := of_decide_eq_true h
        subst this
        exact ⟨c, rfl, _, _, _, _, _, e, e2⟩
      · cases h
    · cases h
  · cases h
theorem cellB_ok {K : PySem.W.Frag} {B : Addr} {l : List (Str × Addr)} (h : cellB K B l = true) : ∃ x c, l = [(x, c)] ∧ ∃ cl cld csl, K.lookup c = some ⟨cl, cld, .cell (some (.ref B)), csl⟩ := by
  unfold cellB at h
  split at h
  · rename_i x c
    split at h
    · rename_i e
      have := of_decide_eq_true h
      subst this
      exact ⟨x, c, rfl, _, _, _, e⟩
    · cases h
  · cases h
abbrev FnS (K : PySem.W.Frag) (d : Ds) (file : Str) (fd : FuncData) : Prop := SupF K d.d.name d.d.qual (defArgs d.d.st) (defBody d.d.st) (defScope d.d.st) (d.d.dvs K) (d.d.adr K) (d.own K) file fd
theorem Ds.supF {file : Str} {K : PySem.W.Frag} {d : Ds} (e : fnAtS K (d.d.adr K) = d.val) (c : d.ok file K = true) : ∃ fd, FnS K d file fd := by
  obtain ⟨kp, c2⟩ := He.ba c
  unfold fnAtS at e
  cases q : K.lookup (d.d.adr K) with
  | none =>
    rw [q] at c2
    cases c2
  | some o =>
    obtain ⟨oc, od, dt, osl⟩ := o
    rw [q] at c2 e
    cases dt with
    | func fd =>
      obtain ⟨n1, n2, n3, n4, n5, n6, n7, n8, n9, n10, n11, n12, n13, n14, n15⟩ := fd
      have e2 : (some (n1, n2, n3, n4, n5, n6, n7.map (fun q => (q.1, 0)), n15) : He.FnW) = (some (d.d.name, d.d.qual, defArgs d.d.st, FuncBody.stmts (defBody d.d.st), defScope d.d.st, mainGlobals, [(("__class__" : Str), (0 : Addr))], builtinsNs) : He.FnW) := e
      simp only [Option.some.injEq, Prod.mk.injEq] at e2
      obtain ⟨h1, h2, h3, h4, h5, h6, h7, h8⟩ := e2
      subst h1 h2 h3 h4 h5 h6 h8
      have c3 : (PySem.W.codeIn K n13 d.d.qual && (He.dflB K n8 (d.d.dvs K) && (fileB K file n13 && cellB K (d.own K) n7))) = true := c2
      obtain ⟨k1, k2⟩ := He.ba c3
      obtain ⟨k3, k4⟩ := He.ba k2
      obtain ⟨k5, k6⟩ := He.ba k4
      obtain ⟨cda, rfl, hf⟩ := fileB_ok k5
      obtain ⟨x, cc, rfl, hc⟩ := cellB_ok k6
      have hx : x = "__class__" := by
        simp only [List.map_cons, List.map_nil, List.cons.injEq, Prod.mk.injEq, and_true] at h7
        exact h7
      subst hx
      exact ⟨_, ⟨oc, od, n8, n9, n10, n11, n12, cda, n14, osl, cc, rfl, q, k1, He.dflB_ok k3, hc, hf⟩, kp⟩
    | _ => cases c2
theorem SaysS.sup_ {ex : List (PySem.W.Frag → Bool)} {fn : List Df} {tf : List He.Defn} {fs : List Ds} {file : Str} {h : Heap} {K : PySem.W.Frag} (c : SaysS ex fn tf fs file h K) (i : Nat) {d : Ds} (hd : fs[i]? = some d := by rfl) : ∃ fd, FnS K d file fd := by
  have e2 : (fs.map fun d => fnAtS K (d.d.adr K))[i]? = (fs.map Ds.val)[i]? := by rw [c.v]
  rw [List.getElem?_map, List.getElem?_map, hd] at e2
  exact Ds.supF (Option.some.inj e2) (List.all_eq_true.mp c.o d (List.mem_of_getElem? hd))
theorem supCB_ok {c b m : Str} {f2 : PySem.W.Frag → Addr} {K : PySem.W.Frag} (h : supCB c b m f2 K = true) : SupC K (gd c K) (gd b K) m (f2 K) := by
  obtain ⟨h1, h2⟩ := He.ba h
  obtain ⟨h3, h4⟩ := He.ba h2
  obtain ⟨h5, h6⟩ := He.ba h4
  exact ⟨of_decide_eq_true h1, He.eqO_ok h3, of_decide_eq_true h5, h6⟩
end Gp
end
section
set_option Elab.async false
set_option linter.all false
set_option maxRecDepth 100000
set_option maxHeartbeats 4000000
namespace Gp
open PySem PySem.Spec PyProof.Rows L2 Gh
section
variable {P : Program} {w : World} {K : PySem.W.Frag} {mg : Str → Option Value} {base : Heap} {CX : CXT} {k : Nat} {x qual file m ar : Str} {params : Arguments} {body : List Stmt} {scope : Scope} {dvs : List V} {f D : Addr} {fd : FuncData} {N ps : List Str} {sp : Sp}
def starSp (n : Nat) (sp : Sp) : Sp := fun vs H Q E => ∃ ws rest, vs = ws ++ rest ∧ ws.length = n ∧ rest.length ≤ sizeLine ∧ ∀ p, H p = Option.none → sp (ws ++ [V.ref p]) (upd H p (.tup rest)) Q E
theorem bnd_star {pv : Str} {A : Around} {outer : List PySem.Env} {s : Shared} {H : Hp} {E : XK} {u1 u2 : List Value} {ws rest : List V} (hCX : StX.CXUp CX) (e0 : Env0 P w K mg base A outer s H) (r1 : Vals ws u1) (r2 : Vals rest u2) (hl : ws.length = ps.length) (hz : rest.length ≤ sizeLine)
    (hb : bindArgs fd ⟨u1 ++ u2, []⟩ = (newTuple u2 >>= fun t => pure (ps.zip u1 ++ [(pv, t)]))) :
    StX.Bnd CX P w K mg base fd ⟨u1 ++ u2, []⟩ (ps ++ [pv]) A outer s H E (fun xs H2 => ∃ p, H p = Option.none ∧ xs = ws ++ [V.ref p] ∧ H2 = upd H p (.tup rest)) := fun A' Ex Q' h => by
  have hn : H s.heap.objs.size = Option.none := e0.hok.fresh (Nat.le_refl _)
  have hl1 : u1.length = ps.length := by rw [← r1.length]; exact hl
  have hl2 : u2.length ≤ sizeLine := by rw [← r2.length]; exact hz
  rw [hb]
  refine wpAny_bind (wpAny_newTuple (wpAny_pure ?_) hl2)
  have new : ObjOk P w (upd H s.heap.objs.size (.tup rest)) (s.heap.push ({ cls := .type "tuple", data := .seq u2.toArray } : Obj)) s.heap.objs.size (.tup rest) := ⟨hz, u2, r2, ⟨_, Heap.get?_push_size _ rfl, rfl, _, rfl⟩⟩
  have un := StX.un_laid (fs := frs outer) (s := s) (o := ({ cls := .type "tuple", data := .seq u2.toArray } : Obj)) (u := .tup rest) hn
  have z := h _ _ (ws ++ [V.ref s.heap.objs.size]) (u1 ++ [Value.ref s.heap.objs.size]) (StX.env0_laid e0 new) un rfl (fun e s' => hCX outer s H _ _ E e s' un (fun b o q => Heap.get?_push_of_some _ q) rfl) (r1.append (.cons rfl .nil))
    (by rw [List.length_append, List.length_append, hl] <;> rfl) ⟨_, hn, rfl, rfl⟩
  rw [List.zip_append hl1.symm] at z
  exact z
theorem SupF.star {pv : Str} {pre post : List Stmt} {p0 p1 apos pos epos : Pos} {e : Expr} {es : List Expr} (eb : body = pre ++ .Expr (.Call (.Attribute (.Call (.Name "super" p0) [] [] p1) m apos) (e :: es) [] pos) epos :: post) (F : SupF K x qual params body scope [] f D file fd) (T : SupT K mg D) (S : NdefX.NScope N (ps ++ [pv]) ["__class__"] scope) (hCX : StX.CXUp CX)
    (hb : ∀ (cl : List (Str × Addr)) (kV doc pm : Value) (an : Option Addr) (cdv ct : Value) (us rest : List Value), us.length = ps.length → bindArgs (PySem.W.fnX x qual params body scope cl .none kV doc pm an cdv ct) ⟨us ++ rest, []⟩ = (newTuple rest >>= fun t => pure (ps.zip us ++ [(pv, t)])))
    (hfile : ((P.main.file : Str) == file) = true) (htop : (P.main.scope.names.lookup ("super" : Str)).isSome = false) (hm : (m == ("__class__" : Str)) = false) (hks : scope.names.lookup ("super" : Str) = some .globalImplicit)
    (har : ((params.posonlyargs ++ params.args).head?).map (·.arg) = some ar) (hn0 : N[0]? = some ar) (hka : scope.names.lookup ar = some .local)
    (hbody : ∀ (cc cda : Addr) (A : Around) (outer : List PySem.Env) (s : Shared) (H : Hp) (vs : List V) (Q : VK) (E : XK), Room k (scx CX P w K mg base N x qual params body scope cc cda f A outer s H E).A → sp vs H Q E →
      ∃ t1 ta t2 CX2 k2 f2 dvs2 sp2 E2, PSs (scx CX P w K mg base N x qual params body scope cc cda f A outer s H E) pre t1 ∧
        PA (scx CX P w K mg base N x qual params body scope cc cda f A outer s H E) (e :: es) ta ∧
        PSs (scx CX P w K mg base N x qual params body scope cc cda f A outer s H E) post t2 ∧
        PromO P w K mg base CX2 k2 f2 dvs2 sp2 ∧ k2 ≤ k ∧ Passes CX2 (scx CX P w K mg base N x qual params body scope cc cda f A outer s H E) E2 ∧
        t1 { nx := fun σ1 H1 => ∃ a C dx fs, σ1[0]? = some (some (.ref a)) ∧ H1 a = some (.ins C dx fs) ∧ SupC K C D m f2 ∧ ta σ1 H1 fun us H2 => sp2 (.ref a :: (us ++ dvs2)) H2 (fun _ H3 => t2 { nx := fun _ H' => Q .non H', rt := Q } σ1 H3) E2, rt := Q } (L2.start N vs) H)
    (hst : ∀ env : PySem.Env, starEach (e :: es) env = (false, eval e env) :: starEach es env := by intro _; rfl) (hpl : ∀ env : PySem.Env, (backTo pos (starEach es env)).any (·.1) = false := by intro _; rfl)
    (pl : PySem.Env → Sem Bool)
    (he : ∀ env : PySem.Env, eval (.Call (.Attribute (.Call (.Name "super" p0) [] [] p1) m apos) (e :: es) [] pos) env = (do
      let ov ← attributeBase (.Call (.Name "super" p0) [] [] p1) m env (eval (.Call (.Name "super" p0) [] [] p1) env)
      standAt apos.atName
      let (f, first) ← holding [ov] (getMethod ov m (pl env))
      callWith pos f first (backTo pos (starEach (e :: es) env)) []))
    (hsw : ∀ env : PySem.Env, swapsWith (.Call (.Attribute (.Call (.Name "super" p0) [] [] p1) m apos) (e :: es) [] pos) none epos.line env = pure false := by intro _; rfl) :
    FnR P w K mg base CX (k + 1) f (starSp ps.length sp) := by
  intro A outer s H us vs Q E hr e0 r hsp
  obtain ⟨ws, rest, ev, hl, hz, hq⟩ := hsp
  subst ev
  obtain ⟨u1, u2, eu, r1, r2⟩ := StX.vals_split r
  subst eu
  have hl1 : u1.length = ps.length := by rw [← r1.length]; exact hl
  have hbb : bindArgs fd ⟨u1 ++ u2, []⟩ = (newTuple u2 >>= fun t => pure (ps.zip u1 ++ [(pv, t)])) := by
    obtain ⟨oc, od, dV, kV, doc, pm, an, cda, ct, osl, cc, rfl, lk, hcd, hD, _⟩ := F.ex
    rcases hD with ⟨_, rfl⟩ | ⟨e, _⟩
    · exact hb _ _ _ _ _ _ _ _ _ hl1
    · exact absurd rfl e
  exact SupF.run eb F T S hr e0 (bnd_star hCX e0 r1 r2 hl hz hbb) hfile htop hm hks har hn0 hka (fun cc cda s2 H2 xs hr' ⟨p, hp, ex, eH⟩ => by
    subst ex eH
    exact hbody cc cda A outer s2 _ _ Q E hr' (hq p hp)) hst hpl pl he hsw
end
section
variable {g : Gw} {Mt U0 U U' : Addr → Prop} {H0 H H' H1 H2 : Hp} {b b1 b2 : Nat} {σ : L2.St} {ε ε' : Env} {E : XK}
def rMkR (C : Addr) (sp : Sp) (E : XK) : List V → Hp → VK → Prop := fun vs H1 Q => ∀ x dx, H1 x = Option.none → H1 dx = Option.none → dx ≠ x → sp (V.ref x :: vs) (upd (upd H1 dx (.own x)) x (.ins C dx [])) (fun v H2 => v = .non ∧ Q (.ref x) H2) E
theorem pe_mkR {X : Cx} {CX : CXT} {k : Nat} {f C : Addr} {sp : Sp} {x : Str} {e : Expr} {es : List Expr} {t : TA} {p pos : Pos} (M : Mk X.K C f) (F : FnR X.prog X.w X.K X.mg X.base CX k f sp) (hr : Room (k + 1) X.A) (hg : Gl X x) (hm : X.mg x = some (.ref C)) (hx : Passes CX X E) (ha : PA X (e :: es) t) (hdb : (x == ("__debug__" : Str)) = false := by decide)
    (he : starEach (e :: es) X.env = (false, eval e X.env) :: starEach es X.env := by rfl) (hpl : (backTo pos (starEach es X.env)).any (·.1) = false := by rfl) : PE X (.Call (.Name x p) (e :: es) [] pos) (tCl (rMkR C sp E) t) := StX.pe_makeR M F hr hg hm hx ha hdb he hpl
def stD {α : Type} (n : Nat) (ds : List D) (k : List D → Tr α) : Tr α := if n ≤ ds.length ∧ ds.length ≤ sizeLine then k (ds.take n ++ [.tup (ds.drop n)]) else .bad
theorem srl_mkR {cn : Str} {n : Nat} {F : Fs → List D → Tr Fs} : SRL g E (rMkR (gd cn g.K) (starSp (n + 1) (spI g.K g.T cn F)) E) (fun ds => stD n ds fun es => bd (F [] es) fun fs => .ok (.obj cn fs)) := fun U H b xs dxs Q dn wd u q => by
  dsimp only [stD] at q
  split at q
  · rename_i hn
    have hlx := dn.length
    intro x dx nx ndx ne
    refine ⟨.ref x :: xs.take n, xs.drop n, by rw [List.cons_append, List.take_append_drop], by rw [List.length_cons, List.length_take, hlx]; omega, by rw [List.length_drop, hlx]; omega, fun p np => ?_⟩
    have s1 : L2.Same H (upd (upd H dx (.own x)) x (.ins (gd cn g.K) dx [])) := fun a o e => by
      rw [upd_ne (ne_of_none e nx), upd_ne (ne_of_none e ndx)]
      exact e
    have s2 := s1.trans (same_new (o := .tup (xs.drop n)) np)
    have nxp : x ≠ p := fun z => by
      subst z
      rw [upd_same] at np
      cases np
    have nU : ¬ U x := u.new nx
    have hp : x ≠ g.p := fun z => nU (z ▸ u.p)
    have hc : x ≠ g.c := fun z => nU (z ▸ u.c)
    have pU : ¬ U p := fun z => by
      obtain ⟨o, e, _⟩ := u.al p z
      rw [s1 _ _ e] at np
      cases np
    have k0 : DenL g (fun a => U a ∨ a = x) (upd (upd (upd H dx (.own x)) x (.ins (gd cn g.K) dx [])) p (.tup (xs.drop n))) xs dxs := (dn.grow nx).ext (fun a o e _ _ => s2 a o e)
    have k1 : DenL g (fun a => U a ∨ a = x) (upd (upd (upd H dx (.own x)) x (.ins (gd cn g.K) dx [])) p (.tup (xs.drop n))) (xs.take n ++ [.ref p]) (dxs.take n ++ [.tup (dxs.drop n)]) :=
      (k0.take n).append (.cons (.tup upd_same (fun z => z.elim pU (fun z => nxp z.symm)) (by rw [List.length_drop, hlx]; omega) (k0.drop n)) .nil)
    have k2 : UOk g (fun a => U a ∨ a = x) (upd (upd (upd H dx (.own x)) x (.ins (gd cn g.K) dx [])) p (.tup (xs.drop n))) := ⟨.inl u.p, .inl u.c, fun a ha => by
      rcases ha with ha | rfl
      · obtain ⟨o, e, t⟩ := u.al a ha
        exact ⟨o, s2 a o e, t⟩
      · exact ⟨_, by rw [upd_ne nxp, upd_same], fun _ z => by cases z⟩⟩
    have fr : ∀ {H' : Hp}, FrM g (· = x) (upd (upd (upd H dx (.own x)) x (.ins (gd cn g.K) dx [])) p (.tup (xs.drop n))) H' → Fr H H' g.p := fun f1 a o e n t => f1 a o (s2 a o e) n (fun z => ne_of_none e nx z) t
    exact ⟨g.p, g.c, fun a => U a ∨ a = x, _, b, x, dx, [], [], xs.take n ++ [.ref p], rfl, by rw [upd_ne nxp, upd_same], .nil, .inr rfl, hp, hc, k1, wd.same s2, k2,
      (al_bd.mp q).mono (fun fs b1 h1 dx' fvs' H' e1 d1 w1 f1 => ⟨rfl, h1 _ H' (.obj e1 nU (d1.sub fun a _ z => .inl z)) w1 (fr f1)⟩) (fun c fs b1 h1 dd fvs H' e1 n1 d1 w1 f1 => h1 dd fvs H' e1 (fun z => n1 (.inl z)) (d1.sub fun a _ z => .inl z) w1 (fr f1))⟩
  · exact q.elim
end
end Gp
end
section
set_option Elab.async false
set_option linter.all false
set_option maxRecDepth 100000
set_option maxHeartbeats 4000000
namespace Gp
open PySem PySem.Spec PyProof.Rows L2 Gh
structure CvT (K : PySem.W.Frag) (C : Addr) (f : Str) (v : V) : Prop where
  r : ClX.CRead K C (.type "type")
  v : ∃ u, ClX.CVal K C (.type "type") f v u
theorem cvB_ok {c f : Str} {i : Int} {K : PySem.W.Frag} (h : cvB c f i K = true) : CvT K (gd c K) f (.int i) := by
  obtain ⟨h1, h2⟩ := He.ba h
  refine ⟨⟨h1, ?_⟩, ?_⟩
  · have h := h1
    unfold PySem.W.readsIn at h
    obtain ⟨h, _⟩ := He.ba h
    obtain ⟨h, _⟩ := He.ba h
    obtain ⟨h, h3⟩ := He.ba h
    obtain ⟨_, h2⟩ := He.ba h
    unfold PySem.W.specialIn
    rw [beq_iff_eq.mp h2, Option.bind_some]
    exact beq_iff_eq.mp h3
  · split at h2
    · rename_i e
      have := of_decide_eq_true h2
      subst this
      exact ⟨_, e, ⟨_, rfl⟩⟩
    · cases h2
def iEnA (K : PySem.W.Frag) (ta : TA) : TI := fun σ H R => ta σ H fun vs H1 => (∃ a xs, vs = [.ref a] ∧ SqL K H1 a xs ∧ R (Ite K a) H1) ∨ ∃ a xs, vs = [.ref a] ∧ SqT K H1 a xs ∧ R (Itu K a) H1
def enD : D → Tr (List D)
  | .lst ds => .ok (ds.mapIdx fun i d => .tup [.int i, d])
  | .tup ds => .ok (ds.mapIdx fun i d => .tup [.int i, d])
  | _ => .bad
section
variable {g : Gw} {Mt U0 U U' : Addr → Prop} {H0 H H' H1 H2 : Hp} {b b1 b2 : Nat} {σ : L2.St} {ε ε' : Env} {E : XK}
theorem se_cval {c f : Str} {v : V} {d : D} (hd : ∀ U H, Den g U H v d) (h : CvT g.K (gd c g.K) f v) : SE g E ε (ClX.tCVal g.K (tC (.ref (gd c g.K))) f) (.ok d) := fun U σ H b Q R W u q => by
  obtain ⟨w, k⟩ := h.v
  exact ⟨_, _, v, w, rfl, h.r, k, okP.here q W (hd U H)⟩
theorem pi_enumA {X : Cx} {K : PySem.W.Frag} {e : Expr} {ta : TA} {p pos tpos : Pos} {elts : List Expr} {kk : Nat} (hK : X.K = K) (hg : Gl X "enumerate") (hm : X.mg "enumerate" = none) (ha : PA X [e] ta) (hs : starEach [e] X.env = [(false, eval e X.env)] := by rfl) :
    PI X (.Tuple elts kk tpos) (.Call (.Name "enumerate" p) [e] [] pos) (iEnA K ta) := by
  subst hK
  refine ⟨fun pins s σ H R I h => ?_⟩
  refine Call_ (ld_blt I hg hm boot_enumerate (PyProof.Rows.callWith_type1 (thn (ha.run pos pins s σ H _ I h) fun us s1 ⟨vs, H1, I1, r1, q1⟩ => ?_) hs rfl))
  have fp : ∀ b ∈ [s1.heap.objs.size + 1, s1.heap.objs.size], FpOk X pins H1 b := fun b hb => by
    have e' : b = s1.heap.objs.size + 1 ∨ b = s1.heap.objs.size := by simpa using hb
    have hle : s1.heap.objs.size ≤ b := by
      rcases e' with z | z
      · rw [z]; exact Nat.le_add_right _ _
      · rw [z]; exact Nat.le_refl _
    exact I1.fpOk hle (I1.hok.fresh hle)
  rcases q1 with ⟨a, xs, ex, hq, q⟩ | ⟨a, xs, ex, hq, q⟩
  · subst ex
    cases r1 with
    | cons r rr =>
      cases rr
      cases r
      obtain ⟨its, rv, p', hz⟩ := I1.list hq
      refine call_enumerate_list p'.isList fun h' he hit hsz hk => wpAny_pyIter_enum he ?_
      have I2 : Inv X pins σ H1 { s1 with heap := h' } := I1.kept (t' := s1.toks) hk
      exact ⟨s1.heap.objs.size + 1, [s1.heap.objs.size + 1, s1.heap.objs.size], _, _, H1, rfl, I2, turn_enum a (s1.heap.objs.size + 1) s1.heap.objs.size, ⟨⟨.none, he⟩, hit, Nat.succ_ne_self _⟩, fp, q⟩
  · subst ex
    cases r1 with
    | cons r rr =>
      cases rr
      cases r
      obtain ⟨its, rv, p', hz⟩ := I1.tuple hq
      have hal : a < s1.heap.objs.size := by obtain ⟨_, z, _⟩ := p'; exact Heap.lt_size z
      refine call_enumerate_tup p' fun h' he hit hsz hk => wpAny_pyIter_enum he ?_
      have I2 : Inv X pins σ H1 { s1 with heap := h' } := I1.kept (t' := s1.toks) hk
      exact ⟨s1.heap.objs.size + 1, [s1.heap.objs.size + 1, s1.heap.objs.size], _, _, H1, rfl, I2, turn_enumT a (s1.heap.objs.size + 1) s1.heap.objs.size, ⟨⟨.none, he⟩, hit, Nat.succ_ne_self _, Nat.ne_of_lt hal, Nat.ne_of_gt (Nat.lt_succ_of_lt hal)⟩, fp, q⟩
theorem den_pair {x : V} {d : D} {T : Addr} (i : Nat) (u : UOk g U H1) (n : H1 T = none) (h : Den g U H1 x d) : Den g U (upd H1 T (.tup [.int i, x])) (.ref T) (.tup [.int i, d]) := by
  have s := same_new (o := .tup [.int i, x]) n
  exact .tup upd_same (u.new n) (by show 2 ≤ sizeLine; decide) (.cons (.int _) (.cons (h.ext (u.extU (fr_same s))) .nil))
theorem itd_enL {a : Addr} {vs : List V} {ds : List D} (h : H a = some (.lst vs)) (n : ¬ U a) (k : DenL g U H vs ds) : ItD g U H (Ite g.K a) (ds.mapIdx fun i d => .tup [.int i, d]) := fun i U1 H1 b e w u => by
  have h1 : H1 a = some (.lst vs) := e.keep _ _ h n (fun _ z => by cases z)
  refine ⟨fun d hd => ?_, fun hl => ⟨vs, SqL.of h1, by rw [k.length]; rw [List.length_mapIdx] at hl; exact Nat.le_of_eq hl⟩⟩
  rw [List.getElem?_mapIdx] at hd
  cases q : ds[i]? with
  | none => rw [q] at hd; cases hd
  | some d0 =>
    rw [q] at hd
    cases hd
    obtain ⟨v, hv, dn⟩ := k.getD q
    refine ⟨⟨vs, v, SqL.of h1, hv⟩, ?_⟩
    rintro x H2 ⟨T, y, rfl, nT, rfl, hy⟩
    have e2 := hy vs (SqL.of h1)
    rw [hv] at e2
    cases e2
    exact ⟨den_pair i u nT (dn.ev e), same_new nT⟩
theorem itd_enT {a : Addr} {vs : List V} {ds : List D} (h : ∀ U1 H1, Ev U H U1 H1 → SqT g.K H1 a vs) (k : DenL g U H vs ds) : ItD g U H (Itu g.K a) (ds.mapIdx fun i d => .tup [.int i, d]) := fun i U1 H1 b e w u => by
  have h1 := h U1 H1 e
  refine ⟨fun d hd => ?_, fun hl => ⟨vs, h1, by rw [k.length]; rw [List.length_mapIdx] at hl; exact hl⟩⟩
  rw [List.getElem?_mapIdx] at hd
  cases q : ds[i]? with
  | none => rw [q] at hd; cases hd
  | some d0 =>
    rw [q] at hd
    cases hd
    obtain ⟨v, hv, dn⟩ := k.getD q
    refine ⟨⟨vs, v, h1, hv⟩, ?_⟩
    rintro x H2 ⟨T, y, rfl, nT, rfl, hy⟩
    have e2 := hy vs h1
    rw [hv] at e2
    cases e2
    exact ⟨den_pair i u nT (dn.ev e), same_new nT⟩
theorem si_enum {t : TA} {m : Tr (List D)} (ha : SA g E ε t m) : SI g E ε (iEnA g.K t) (bd m (ul1 enD)) := fun U σ H b R rl wd u q =>
  ha.step rl wd u q fun v d H1 b1 d1 w1 f1 R1 u1 q1 => by
    obtain ⟨x, rfl, q2⟩ := al_ul1 q1
    obtain ⟨v, rfl, e1⟩ := denL_1 d1
    cases x with
    | lst ds =>
      obtain ⟨a, vs, rfl, h, n, l, k⟩ := den_lst e1
      exact .inl ⟨a, vs, rfl, SqL.of h, q2 _ H1 (by rw [List.length_mapIdx, ← k.length]; exact l) (itd_enL h n k) w1 f1⟩
    | tup ds =>
      obtain ⟨a, vs, rfl, h, l, k⟩ := den_tupE e1
      exact .inr ⟨a, vs, rfl, h U H1 Ev.refl, q2 _ H1 (by rw [List.length_mapIdx, ← k.length]; exact l) (itd_enT h k) w1 f1⟩
    | _ => exact q2.elim
variable {W L : Type} {env : W → Env} {envL : L → Env} {a r : TS} {t : TS} {m : Tr (Fl W L)}
theorem ss_assoc {c : TS} (h : SS g E ε (tSeq a (tSeq c r)) env envL m) : SS g E ε (tSeq (tSeq a c) r) env envL m := h
theorem ss_next (h : SS g E ε r env envL m) : SS g E ε (tSeq tNext r) env envL m := h
end
theorem sup_goal {K : PySem.W.Frag} {B f2 : Addr} {m : Str} {t1 t2 : TS} {ta : TA} {sp2 : Sp} {dvs2 : List V} {E2 : XK} {Q : VK} {σ : L2.St} {H : Hp} (h : tSeq t1 (tSeq (tSup K B m f2 ta sp2 dvs2 E2) t2) { nx := fun _ H' => Q .non H', rt := Q } σ H) :
    t1 { nx := fun σ1 H1 => ∃ a C dx fs, σ1[0]? = some (some (.ref a)) ∧ H1 a = some (.ins C dx fs) ∧ SupC K C B m f2 ∧ ta σ1 H1 fun us H2 => sp2 (.ref a :: (us ++ dvs2)) H2 (fun _ H3 => t2 { nx := fun _ H' => Q .non H', rt := Q } σ1 H3) E2, rt := Q } σ H := h
end Gp
end
section
set_option Elab.async false
set_option linter.all false
set_option maxRecDepth 100000
set_option maxHeartbeats 4000000
namespace Gp
open PySem PySem.Spec PyProof.Rows L2 Gh
theorem obsL_eq {as : List Addr} {ex : List (PySem.W.Frag → Bool)} {fn : List Df} {tf : List He.Defn} {fs : List Ds} {file : Str} {g : Addr → Option Obj} {s : Shared} (h : ∀ a, g a = s.heap.get? a) : obsL as ex fn tf fs file g = (hookL as ex fn tf fs file).obs s := by
  have e : g = s.heap.get? := funext h
  rw [e] <;> rfl
end Gp
end
section
set_option Elab.async false
set_option linter.all false
set_option maxRecDepth 100000
set_option maxHeartbeats 4000000
namespace Gp
open PySem PySem.Spec PyProof.Rows L2 Gh
def insS (a : Int) : List Int → List Int
  | [] => [a]
  | b :: r => if a < b then a :: b :: r else if a = b then b :: r else b :: insS a r
def setI : List Int → List Int
  | [] => []
  | a :: r => insS a (setI r)
theorem mem_insS {x a : Int} : ∀ {l : List Int}, x ∈ insS a l ↔ x = a ∨ x ∈ l
  | [] => by simp [insS]
  | b :: r => by
    unfold insS
    split
    · simp
    · split
      · rename_i h
        subst h
        simp
      · rw [List.mem_cons, mem_insS, List.mem_cons]
        constructor
        · rintro (h | h | h)
          · exact .inr (.inl h)
          · exact .inl h
          · exact .inr (.inr h)
        · rintro (h | h | h)
          · exact .inr (.inl h)
          · exact .inl h
          · exact .inr (.inr h)
theorem mem_setI {x : Int} : ∀ {l : List Int}, x ∈ setI l ↔ x ∈ l
  | [] => Iff.rfl
  | a :: r => by
    unfold setI
    rw [mem_insS, mem_setI, List.mem_cons]
theorem ris_insS {a : Int} : ∀ {l : List Int}, l.Pairwise (· < ·) → (insS a l).Pairwise (· < ·)
  | [], _ => List.pairwise_singleton _ _
  | b :: r, h => by
    obtain ⟨h1, h2⟩ := List.pairwise_cons.mp h
    unfold insS
    split
    · rename_i q
      refine List.pairwise_cons.mpr ⟨fun x hx => ?_, h⟩
      rcases List.mem_cons.mp hx with rfl | hx
      · exact q
      · exact Int.lt_trans q (h1 x hx)
    · split
      · exact h
      · rename_i q1 q2
        refine List.pairwise_cons.mpr ⟨fun x hx => ?_, ris_insS h2⟩
        rcases mem_insS.mp hx with rfl | hx
        · omega
        · exact h1 x hx
theorem ris_setI : ∀ l : List Int, (setI l).Pairwise (· < ·)
  | [] => List.Pairwise.nil
  | a :: r => ris_insS (ris_setI r)
theorem ris_eq : ∀ {l m : List Int}, l.Pairwise (· < ·) → m.Pairwise (· < ·) → (∀ x, x ∈ l ↔ x ∈ m) → l = m
  | [], [], _, _, _ => rfl
  | [], b :: m, _, _, h => absurd ((h b).mpr List.mem_cons_self) (by simp)
  | a :: l, [], _, _, h => absurd ((h a).mp List.mem_cons_self) (by simp)
  | a :: l, b :: m, h1, h2, h => by
    obtain ⟨p1, p2⟩ := List.pairwise_cons.mp h1
    obtain ⟨q1, q2⟩ := List.pairwise_cons.mp h2
    have e : a = b := by
      rcases List.mem_cons.mp ((h a).mp List.mem_cons_self) with e | e
      · exact e
      · rcases List.mem_cons.mp ((h b).mpr List.mem_cons_self) with e2 | e2
        · exact e2.symm
        · have := q1 a e
          have := p1 b e2
          omega
    subst e
    congr 1
    refine ris_eq p2 q2 fun x => ⟨fun hx => ?_, fun hx => ?_⟩
    · rcases List.mem_cons.mp ((h x).mp (List.mem_cons_of_mem _ hx)) with rfl | z
      · exact absurd (p1 x hx) (Int.lt_irrefl _)
      · exact z
    · rcases List.mem_cons.mp ((h x).mpr (List.mem_cons_of_mem _ hx)) with rfl | z
      · exact absurd (q1 x hx) (Int.lt_irrefl _)
      · exact z
theorem nodup_setI (l : List Int) : (setI l).Nodup := (ris_setI l).imp fun h => Int.ne_of_lt h
theorem len_of_mem {l m : List Int} (h1 : l.Nodup) (h2 : m.Nodup) (h : ∀ x, x ∈ l ↔ x ∈ m) : l.length = m.length :=
  ((List.perm_ext_iff_of_nodup h1 h2).mpr h).length_eq
theorem len_insS {a : Int} : ∀ {l : List Int}, (insS a l).length ≤ l.length + 1
  | [] => Nat.le_refl _
  | b :: r => by
    unfold insS
    split
    · exact Nat.le_refl _
    · split
      · exact Nat.le_succ _
      · exact Nat.succ_le_succ len_insS
theorem len_setI : ∀ l : List Int, (setI l).length ≤ l.length
  | [] => Nat.le_refl _
  | a :: r => Nat.le_trans len_insS (Nat.succ_le_succ (len_setI r))
end Gp
namespace Gp
open PySem PySem.Spec PyProof.Rows L2 Gh
section
variable {P : Program} {w : World} {A : Around} {E : Value → Shared → Prop} {s : Shared}
abbrev eSet (w : World) : Obj := { cls := .type "set", dict := none, data := .set #[] 0 (.fresh 0 0 (!w.params.followText "set-order")) }
set_option maxHeartbeats 3200000 in
theorem call_set_lstI {l : Addr} {items : Array Value} (ns : List Int) {Q : Value → Shared → Prop} (hh : A.handled = none) (hl : s.heap.IsList l items) (zit : IntsAre items.toList ns) (hb : ns.length + 1 < scanBound)
    (h : ∀ (h' : Heap) (tk c : Nat), SetR w h' s.heap.objs.size (fun j => decide (j ∈ ns)) c → c ≤ ns.length → (∀ b o, s.heap.get? b = some o → h'.get? b = some o) → Q (.ref s.heap.objs.size) { s with heap := h', toks := tk }) :
    wpAny (model P w) A (call (.type "set") [.ref l]) Q E s := by
  have zisz : items.size = ns.length := by
    have q := IntsAre.length zit
    rw [Array.length_toList] at q
    exact q
  obtain ⟨c, tl, zmro⟩ := F.called_set.mro
  have zmade := F.called_set.made
  have zsub := F.called_set.sub
  refine wpAny_call (codeAny_of_tree ?_)
  show wpAny _ _ (callAny (.type "set") _) _ _ _
  refine wpAny_pure ⟨Code.quiet_builtin _ (by decide +kernel), codeAny_builtin F.entry_type_call ?_⟩
  rw [Around.under_plain (weight_type_call_type "set" [.ref l] []) rfl]
  have z1 := F.called_set.notType
  have z2 := F.called_set.canCreate
  have zct := F.typeCall_set_1 (.ref l)
  repeat (any_goals (first | assumption | wp_step))

  refine codeAny_mono (code_set_led1 (.ref l) (E := E) (Q₁ := fun ob t₁ => ob = .ref s.heap.objs.size ∧ t₁ = { s with heap := s.heap.push (eSet w) }) ⟨rfl, rfl⟩) fun r t₁ zr => ?_
  cases r with
  | error e => exact zr
  | ok g₁ =>
    cases g₁ with
    | ret ob =>
      obtain ⟨rfl, rfl⟩ := zr
      have zS : (s.heap.push (eSet w)).get? s.heap.objs.size = some (eSet w) := Heap.get?_push_size _ rfl
      have zT : Shared.TypeIs { s with heap := s.heap.push (eSet w) } (.ref s.heap.objs.size) "set" := ⟨_, zS, rfl⟩
      have zli := F.called_set.init.lookup
      have zbi := F.called_set.init.bind (.ref s.heap.objs.size)
      repeat (any_goals (first | assumption | wp_step))

      refine codeAny_mono (codeAny_call_builtin (R := wants (fun r t₂ => r = .none ∧ ∃ h' tk c, t₂ = { s with heap := h', toks := tk } ∧ SetR w h' s.heap.objs.size (fun j => decide (j ∈ ns)) c ∧ c ≤ ns.length ∧
          (∀ b o, s.heap.get? b = some o → h'.get? b = some o)) E) F.called_set.init.plain F.entry_set_init (check_set_init_1 zT ?_)) fun y₂ t₂ zr₂ => ?_
      · obtain ⟨zo, zol, zcl, zn, zdl⟩ := hl
        obtain ⟨kcls, kdict, kdata, kslots⟩ := zo
        simp only at zcl zdl
        subst zcl; subst zdl
        have zol' : (s.heap.push (eSet w)).get? l = some { cls := .type "list", dict := kdict, data := .seq items zn, slots := kslots } := Heap.get?_push_of_some _ zol
        have zsls := F.sub_list_set
        have zslf := F.sub_list_frozenset
        have zne : (Value.type "list" == Value.type "dict") = false := by decide
        have zl1 : (s.heap.push (eSet w)).IsList l items := ⟨_, zol', rfl, zn, rfl⟩
        unfold Builtin.«set.__init__» noKeywords Builtin.Frozenset.updateFrom
        generalize hPI : pyIter = PI
        wp_walk
        subst hPI

        refine wpAny_pyIter_list zl1 ?_
        refine wpAny_bind (wpAny_runValue ?_)
        have zlS : l < s.heap.objs.size := Heap.lt_size zol
        have zh3 : A.in1.in1.in1.handled = none := by simp [hh]
        have zz1 : (s.heap.push (eSet w)).objs.size = s.heap.objs.size + 1 := Heap.size_push ..
        have zneI : l ≠ (s.heap.push (eSet w)).objs.size := by
          rw [Heap.size_push]; exact Nat.ne_of_lt (Nat.lt_succ_of_lt zlS)
        have zSf : s.heap.objs.size ∉ [(s.heap.push (eSet w)).objs.size, l] := by
          rw [Heap.size_push]; simp only [List.mem_cons, List.mem_singleton, List.not_mem_nil, or_false, not_or]
          exact ⟨Nat.ne_of_lt (Nat.lt_succ_self _), Nat.ne_of_gt zlS⟩
        have zval : ∀ (i : Nat) (v : Value), items[i]? = some v → ∃ k t, ns[i]? = some k ∧ v = .int k t := fun i v hv => by
          have hi : i < ns.length := by rw [← zisz]; exact (Array.getElem?_eq_some_iff.mp hv).1
          obtain ⟨t, e⟩ := PyProof.Rows.IntsAre.int_at zit i v (by rw [Array.getElem?_toList]; exact hv)
          refine ⟨ns[i], t, List.getElem?_eq_getElem hi, ?_⟩
          rw [e, List.getD_eq_getElem?_getD, List.getElem?_eq_getElem hi] <;> rfl
        refine set_update_ints ((Walks.list zh3 _ l zneI items).toS) s.heap.objs.size
          zSf ns zisz hb zval (items.size - 0) 0 _ (by omega) (Nat.zero_le _)
          ⟨⟨_, Heap.get?_push_size _ rfl, rfl, rfl⟩, (zl1.push _)⟩ ?hS0 ?hR
        case hS0 =>
          have zget : ((s.heap.push (eSet w)).push { cls := .type "list_iterator", data := .fields #[.ref l, .int 0 0] }).get? s.heap.objs.size
              = some (eSet w) := Heap.get?_push_of_some _ zS
          exact ⟨0, Nat.le_refl 0, setR_new_at zget⟩
        case hR =>
          intro s' c' zm zc' zS'
          obtain ⟨h', g2, d', tk', os'⟩ := s'
          have zeg : g2 = s.gens := zm.gens
          have zed : d' = s.drawn := zm.drawn
          have zeo : os' = s.os := zm.os
          subst zeg; subst zed; subst zeo
          show wpAny _ _ _ _ _ _
          refine wpAny_pure ?_
          show wpAny _ _ (ret Value.none) _ _ _
          rw [zisz] at zc'
          refine wpAny_pure ⟨rfl, h', tk', c', rfl, zS', zc', fun b o e => ?_⟩
          have zb0 : b < s.heap.objs.size := Heap.lt_size e
          have zb1 : b ≠ s.heap.objs.size := Nat.ne_of_lt zb0
          have zb2 : b ≠ (s.heap.push (eSet w)).objs.size := by
            rw [Heap.size_push]; exact Nat.ne_of_lt (Nat.lt_succ_of_lt zb0)
          exact zm.heap b o (by simp only [List.mem_cons, List.mem_singleton, List.not_mem_nil, or_false, not_or]; exact ⟨zb1, zb2⟩) (Heap.get?_push_of_some _ (Heap.get?_push_of_some _ e))

      · cases y₂ with
        | error e => exact zr₂
        | ok g₂ =>
          cases g₂ with
          | ret r =>
            obtain ⟨rfl, h', tk, c', rfl, zS', zc', zk'⟩ := zr₂
            repeat (any_goals (first | assumption | wp_step))
            exact h _ _ _ zS' zc' zk'
          | _ => exact zr₂.elim
    | _ => exact zr.elim
end
end Gp
end
section
set_option Elab.async false
set_option linter.all false
set_option maxRecDepth 100000
set_option maxHeartbeats 4000000
namespace Gp
open PySem PySem.Spec PyProof.Rows L2 Gh
def rSetI (K : PySem.W.Frag) (w : World) : List V → Hp → VK → Prop := fun xs H Q => ∃ (l : Addr) (ns : List Int), xs = [.ref l] ∧ SqL K H l (ns.map V.int) ∧ ns.length ≤ 4000 ∧
  ∀ p, H p = none → Q (.ref p) (upd H p (SetO w p (fun j => decide (j ∈ ns)) (setI ns).length))
theorem setR_len {w : World} {h : Heap} {a : Addr} {ns : List Int} {c : Nat} (R : SetR w h a (fun j => decide (j ∈ ns)) c) : c = (setI ns).length := by
  obtain ⟨o, es, ep, t, ho, hx, hd, g, nd, hm, hb, hf, hn, _⟩ := R
  have e : (es.toList.map keyOf).length = (setI ns).length := len_of_mem nd (nodup_setI ns) fun x => by
    rw [mem_setI, ← hm x]
    exact decide_eq_true_iff
  rw [← e, List.length_map, Array.length_toList]
  exact hn.symm
theorem cr_setI {X : Cx} {K : PySem.W.Frag} (h : X.K = K) (hc : X.calm = true) : CallR X (.type "set") (rSetI K X.w) := by
  subst h
  intro pins s σ H xs us Q I r h
  obtain ⟨l, ns, rfl, hq, hl, q⟩ := h
  rw [Vals.ref1 r]
  obtain ⟨its, rv, p, hz⟩ := I.list hq
  refine call_set_lstI ns (I.ok.hd hc) p.isList (by simpa using RZ.intsAre_vals rv) (by unfold scanBound; omega) fun h' tk c hS hle hk => ?_
  have e := setR_len hS
  subst e
  exact ⟨.ref _, upd H s.heap.objs.size (SetO X.w s.heap.objs.size (fun j => decide (j ∈ ns)) (setI ns).length), I.laid (t' := tk) hk (Nat.le_refl _) (setO_new hS), rfl, q _ (I.hok.fresh (Nat.le_refl _))⟩
def rLnSet (w : World) : List V → Hp → VK → Prop := fun xs H Q => ∃ (a : Addr) (S : Int → Bool) (n : Nat), xs = [.ref a] ∧ H a = some (SetO w a S n) ∧ n ≤ 4000 ∧ Q (.int n) H
theorem cr_lnSet {X : Cx} : CallR X (.builtin "len") (rLnSet X.w) := by
  intro pins s σ H xs us Q I r h
  obtain ⟨a, S, n, rfl, ha, hn, q⟩ := h
  rw [Vals.ref1 r]
  obtain ⟨o, es, ep, t, ho, hx, hd, _, _, _, hb, hf, e, _⟩ := setO_get I ha
  exact call_len_set ho hx hd hf (by rw [e] <;> omega) ⟨.int n, H, I.tok _, ⟨_, by rw [e]⟩, q⟩
section
variable {g : Gw} {E : XK} {ε : Env} {te : TE} {me : Tr D} {w : World}
def rSS (K : PySem.W.Frag) (w : World) (te : TE) : TE := tCB (rSortedSet w) (tCons (tCB (rSetI K w) (tCons te tNil)) tNil)
def rLS (K : PySem.W.Frag) (w : World) (te : TE) : TE := tCB (rLnSet w) (tCons (tCB (rSetI K w) (tCons te tNil)) tNil)
def sortSD (x : D) : Tr D := lsI x fun ns => if ns.length < 64 then .ok (.lst ((setI ns).map .int)) else .bad
def lenSD (x : D) : Tr D := lsI x fun ns => if ns.length ≤ 4000 then .ok (.int (setI ns).length) else .bad
theorem se_sortS (he : SE g E ε te me) : SE g E ε (rSS g.K w te) (bd me sortSD) := fun U σ H b Q R W u q =>
  he.step R W u q fun v d H1 b1 d1 w1 f1 R1 u1 q1 => by
    obtain ⟨a, ns, rfl, h1, _, hl, q2⟩ := al_lsI d1 q1
    split at q2
    · rename_i h64
      refine ⟨a, ns, rfl, h1, by omega, fun p np => ?_⟩
      have s1 := same_new (o := SetO w p (fun j => decide (j ∈ ns)) (setI ns).length) np
      refine ⟨p, _, _, rfl, upd_same, Nat.lt_of_le_of_lt (len_setI ns) h64, fun ms p2 hp hm hlen np2 => ?_⟩
      have e : ms = setI ns := ris_eq hp (ris_setI ns) fun x => by rw [hm x, mem_setI]; exact decide_eq_true_iff
      subst e
      have s2 := same_new (o := .lst ((setI ns).map V.int)) np2
      have s := s1.trans s2
      have npH : H1 p2 = none := by
        cases z : H1 p2 with
        | none => rfl
        | some o => rw [s1 _ _ z] at np2; cases np2
      exact q2 _ _ (.lst upd_same (u1.new npH) (by rw [List.length_map]; exact Nat.le_trans (len_setI ns) hl) (DenL.ints _)) (w1.same s) (f1.trans (fr_same s))
    · exact q2.elim
theorem se_lenS (he : SE g E ε te me) : SE g E ε (rLS g.K w te) (bd me lenSD) := fun U σ H b Q R W u q =>
  he.step R W u q fun v d H1 b1 d1 w1 f1 R1 u1 q1 => by
    obtain ⟨a, ns, rfl, h1, _, hl, q2⟩ := al_lsI d1 q1
    split at q2
    · rename_i h4
      refine ⟨a, ns, rfl, h1, h4, fun p np => ?_⟩
      have s1 := same_new (o := SetO w p (fun j => decide (j ∈ ns)) (setI ns).length) np
      exact ⟨p, _, _, rfl, upd_same, Nat.le_trans (len_setI ns) h4, q2 _ _ (.int _) (w1.same s1) (f1.trans (fr_same s1))⟩
    · exact q2.elim
end
end Gp
end
section
set_option Elab.async false
set_option linter.all false
set_option maxRecDepth 100000
set_option maxHeartbeats 4000000
namespace Gp
open PySem PySem.Spec PyProof.Rows L2 Gh
section
variable {g : Gw} {Mt U0 U U' : Addr → Prop} {H0 H H' H1 H2 : Hp} {b b1 : Nat} {σ : L2.St} {ε ε' : Env} {E : XK} {W L W' : Type}
variable {env : W → Env} {envL : L → Env} {env' : W' → Env} {u ta tb : TS} {te : TE} {me : Tr D}
theorem sn_lc {wi : TI} {gt : TG} {tt : TT} {vs : List Nat} {mi : Tr (List D)} {f : D → Tr (Option D)} (hi : SI g E ε wi mi) (hf : ∀ d, SC g ε d gt tt te vs (f d)) : SN g E ε (tLc wi gt tt te vs) (bd mi fun ds => lcF (fun d => nox (f d)) ds) := fun U σ H b Q rl wd u q => by
  refine hi U σ H b _ rl wd u ((al_bd.mp q).mono (fun ds b1 h1 J H1 hsz it w1 f1 => ?_) (fun _ _ _ h => h))
  intro A nA
  have u1 := u.fr f1 w1
  have nUA : ¬ U A := u1.new nA
  have hp : A ≠ g.p := fun z => nUA (z ▸ u.p)
  have hc : A ≠ g.c := fun z => nUA (z ▸ u.c)
  have rl1 := (rl.fr u f1).grow nA
  generalize hV : (fun a => U a ∨ a = A) = V at rl1
  have VA : V A := by rw [← hV]; exact .inr rfl
  have VU : ∀ a, U a → V a := fun a z => by rw [← hV]; exact .inl z
  have VO : ∀ a o, H1 a = some o → ¬ U a → ¬ V a := fun a o e n => by
    rw [← hV]
    rintro (z | z)
    · exact n z
    · exact ne_of_none e nA z
  have uv : ∀ {H' : Hp} {b : Nat} {o : List L2.V}, Fr H1 H' g.p → Wd g H' b → H' A = some (.lst o) → UOk g V H' := fun f w h => ⟨VU _ u.p, VU _ u.c, fun a ha => by
    rw [← hV] at ha
    rcases ha with ha | rfl
    · exact (u1.fr f w).al a ha
    · exact ⟨_, h, fun _ z => by cases z⟩⟩
  refine ⟨fun i m H' => ∃ b' accV accD, m = ds.length - i ∧ i ≤ ds.length ∧ accV.length ≤ i ∧ H' A = some (.lst accV) ∧ DenL g V H' accV accD ∧ Wd g H' b' ∧ Fr H1 H' g.p ∧ Al (fun r b => okN g U H Q (accD ++ r) b) (exP g U E H) (lcF (fun d => nox (f d)) (ds.drop i)) b', ?_, ?_⟩
  · refine ⟨ds.length, b1, [], [], by simp, Nat.zero_le _, Nat.zero_le _, upd_same, .nil, w1.same (same_new nA), fr_same (same_new nA), ?_⟩
    exact h1.mono (fun r b h => h) (fun _ _ _ h => h)
  · rintro i m H' ⟨b', accV, accD, rfl, hle, hla, hA, dA, w', f', q'⟩
    have u' := uv f' w' hA
    have ev' : Ev U H1 V H' := ⟨fun a o e n t => f' a o e (fun z => n (z ▸ u.p)) t, fun a o e n _ => VO a o e n⟩
    obtain ⟨it1, it2⟩ := it i V H' b' ev' w' u'
    by_cases hlt : i < ds.length
    · have ei : ds[i]? = some ds[i] := List.getElem?_eq_getElem hlt
      obtain ⟨go, y⟩ := it1 _ ei
      rw [List.drop_eq_getElem_cons hlt, lcF_cons] at q'
      refine .inr ⟨go, fun H' => ∃ b' accV accD, accV.length ≤ i + 1 ∧ H' A = some (.lst accV) ∧ DenL g V H' accV accD ∧ Wd g H' b' ∧ Fr H1 H' g.p ∧ Al (fun r b => okN g U H Q (accD ++ r) b) (exP g U E H) (lcF (fun d => nox (f d)) (ds.drop (i + 1))) b', ?_, ?_⟩
      · rintro H2 ⟨b2, av, ad, h1, h2⟩
        exact ⟨ds.length - (i + 1), by omega, b2, av, ad, rfl, hlt, h1, h2⟩
      · intro x H2 hy
        obtain ⟨dn, sm⟩ := y x H2 hy
        have w2 := w'.same sm
        have f2 : Fr H1 H2 g.p := f'.trans (fr_same sm)
        have hA2 := sm _ _ hA
        refine hf ds[i] V σ H2 b' x (fun o H4 => match o with
          | some y => ∃ acc, H4 A = some (.lst acc) ∧ acc.length < sizeLine ∧ ∃ b' accV accD, accV.length ≤ i + 1 ∧ (upd H4 A (.lst (acc ++ [y]))) A = some (.lst accV) ∧ DenL g V (upd H4 A (.lst (acc ++ [y]))) accV accD ∧ Wd g (upd H4 A (.lst (acc ++ [y]))) b' ∧ Fr H1 (upd H4 A (.lst (acc ++ [y]))) g.p ∧ Al (fun r b => okN g U H Q (accD ++ r) b) (exP g U E H) (lcF (fun d => nox (f d)) (ds.drop (i + 1))) b'
          | none => ∃ b' accV accD, accV.length ≤ i + 1 ∧ H4 A = some (.lst accV) ∧ DenL g V H4 accV accD ∧ Wd g H4 b' ∧ Fr H1 H4 g.p ∧ Al (fun r b => okN g U H Q (accD ++ r) b) (exP g U E H) (lcF (fun d => nox (f d)) (ds.drop (i + 1))) b')
          (rl1.frp (VU _ u.p) f2) w2 (uv f2 w2 hA2) dn ((al_noX (al_bd.mp q')).mono (fun o b2 h2 => ?_) (fun _ _ _ z => z))
        have h3 := al_bd.mp h2
        cases o with
        | some y =>
          intro w H4 dw w4 f4
          have hA4 := f4 _ _ hA2 hp (fun _ z => by cases z)
          have e4 : ExtU V H4 (upd H4 A (.lst (accV ++ [w]))) := fun a o e n _ => by
            rw [upd_ne (fun z => n (by rw [z]; exact VA))]
            exact e
          have k4 : Keep H4 (upd H4 A (.lst (accV ++ [w]))) A := fun a o e n => by rw [upd_ne n]; exact e
          refine ⟨accV, hA4, Nat.lt_of_le_of_lt hla (Nat.lt_of_lt_of_le hlt hsz), b2, accV ++ [w], accD ++ [y], ?_, upd_same, ?_, ?_, ?_, ?_⟩
          · rw [List.length_append]
            exact Nat.add_le_add_right hla 1
          · exact DenL.append ((dA.ext (extU_of (VU _ u.p) ((fr_same sm).trans f4))).ext e4) (.cons (dw.ext e4) .nil)
          · exact ⟨w4.pen.keep k4 hp hc, tabs_keepL k4 hA4 w4.tabs⟩
          · intro a o e n t
            rw [upd_ne (ne_of_none e nA)]
            exact f4 _ _ (f2 a o e n t) n t
          · exact h3.mono (fun r b h => by
              have : okN g U H Q (accD ++ (y :: r)) b := h
              rw [List.append_cons] at this
              exact this) (fun _ _ _ z => z)
        | none =>
          intro H4 w4 f4
          exact ⟨b2, accV, accD, Nat.le_succ_of_le hla, f4 _ _ hA2 hp (fun _ z => by cases z), dA.ext (extU_of (VU _ u.p) ((fr_same sm).trans f4)), w4, f2.trans f4, h3.mono (fun r b h => h) (fun _ _ _ z => z)⟩
    · have e : i = ds.length := by omega
      subst e
      rw [List.drop_length, lcF_nil] at q'
      refine .inl ⟨it2 (rfl), ?_⟩
      have q2 : okN g U H Q (accD ++ []) b' := q'
      rw [List.append_nil] at q2
      have e2 : upd (fun a => if a = A then none else H' a) A (.lst accV) = H' := by
        funext a
        by_cases z : a = A
        · subst z
          rw [upd_same, hA]
        · rw [upd_ne z]
          exact if_neg z
      have xt : ExtU V H' (fun a => if a = A then none else H' a) := fun a o e n _ => (if_neg (fun z => n (by rw [z]; exact VA))).trans e
      have kA : ∀ a o, H' a = some o → a ≠ A → (fun a => if a = A then none else H' a) a = some o := fun a o e n => (if_neg n).trans e
      have w2 : Wd g (fun a => if a = A then none else H' a) b' := by
        obtain ⟨ns, i, z, h1, h2, h3⟩ := w'.pen
        exact ⟨⟨ns, i, z, kA _ _ h1 hp.symm, kA _ _ h2 hc.symm, h3⟩, tabs_of w'.tabs (fun a ps e => kA _ _ e (fun z => by subst z; rw [hA] at e; cases e)) (fun a c q e => kA _ _ e (fun z => by subst z; rw [hA] at e; unfold LamX.CodeO at e; cases e))⟩
      have f2 : Fr H (fun a => if a = A then none else H' a) g.p := fun a o e n t => kA _ _ ((f1.trans f') a o e n t) (fun z => by
        subst z
        have := f1 _ _ e n t
        rw [nA] at this
        cases this)
      have := q2 A accV _ (if_pos rfl) (Nat.le_trans hla hsz) ((dA.ext xt).sub fun a _ z => VU a z) w2 f2
      rw [e2] at this
      exact this
end
end Gp
end
section
set_option Elab.async false
set_option linter.all false
set_option maxRecDepth 100000
set_option maxHeartbeats 4000000
namespace Gp
open PySem PySem.Spec PyProof.Rows L2 Gh
section
variable {g : Gw} {Mt U0 U U' : Addr → Prop} {H0 H H' H1 H2 : Hp} {b b1 : Nat} {σ : L2.St} {ε ε' : Env} {W L W' : Type} {yd : List D}
variable {env : W → Env} {envL : L → Env} {env' : W' → Env} {u ta tb : TGn} {te : TE} {me : Tr D}
def pln (yd : List D) (f : Fl W L) : Tr (List D × Fl W L) := match f with
  | .nx w => .ok (yd, .nx w)
  | .bk w => .ok (yd, .bk w)
  | .ct w => .ok (yd, .ct w)
  | .rt _ => .bad
end
section
variable {P : Program} {w : World} {K : PySem.W.Frag} {mg : Str → Option Value} {base : Heap}
end
end Gp
end
section
set_option Elab.async false
set_option linter.all false
set_option maxRecDepth 100000
set_option maxHeartbeats 4000000
namespace Gp
open PySem PySem.Spec PyProof.Rows L2 Gh
section
variable {g : Gw} {E : XK} {ε : Env} {te : TE} {me : Tr D}
def seqD (x : D) : Tr (List D) := match x with
  | .lst ds => .ok ds
  | .tup ds => .ok ds
  | _ => .bad
theorem pa_starK {X : Cx} {K : PySem.W.Frag} {e : Expr} {es : List Expr} {p : Pos} {t : TA} (hK : X.K = K) (he : PE X e te) (hr : PA X es t) (hs : starEach (.Starred e p :: es) X.env = (true, eval e X.env) :: starEach es X.env := by rfl) : PA X (.Starred e p :: es) (StX.tStar K te t) := hK ▸ StX.pa_star he hr hs
theorem sa_star {t : TA} {m : Tr (List D)} (he : SE g E ε te me) (hb : SA g E ε t m) : SA g E ε (StX.tStar g.K te t) (bd (bd me seqD) fun x => bd m fun xs => .ok (x ++ xs)) := fun U σ H b Q R W u q => by
  rw [bd_bd] at q
  refine he.step R W u q fun v d H1 b1 d1 w1 f1 R1 u1 q1 => ?_
  cases d with
  | lst ds =>
    obtain ⟨p, vs, rfl, h, n, l, k⟩ := den_lst d1
    refine ⟨p, vs, rfl, .inr (SqL.of h), hb.step R1 w1 u1 q1 fun v2 e H2 b2 d2 w2 f2 R2 u2 q2 => ?_⟩
    exact q2 (vs ++ v2) H2 ((k.fr u1 f2).append d2) w2 (f1.trans f2)
  | tup ds =>
    obtain ⟨p, vs, rfl, h, l, k⟩ := den_tup d1
    refine ⟨p, vs, rfl, .inl h, hb.step R1 w1 u1 q1 fun v2 e H2 b2 d2 w2 f2 R2 u2 q2 => ?_⟩
    exact q2 (vs ++ v2) H2 ((k.fr u1 f2).append d2) w2 (f1.trans f2)
  | _ => exact q1.elim
end
end Gp
end
section
set_option Elab.async false
set_option linter.all false
set_option maxRecDepth 100000
set_option maxHeartbeats 4000000
namespace Gp
open PySem PySem.Spec PyProof.Rows L2 Gh
section
variable {X : Cx} {CX : CXT} {k : Nat} {f C : Addr} {sp : Sp} {E : XK} {x : Str} {e : Expr} {es : List Expr} {te : TE} {t : TA} {p pos sp_ : Pos}
theorem pe_mkR2 (M : Mk X.K C f) (F : FnR X.prog X.w X.K X.mg X.base CX k f sp) (hr : Room (k + 1) X.A) (hg : Gl X x) (hm : X.mg x = some (.ref C)) (hx : Passes CX X E) (ha : PA X (e :: es) t) (hdb : (x == ("__debug__" : Str)) = false := by decide)
    (he : starEach (e :: es) X.env = (false, eval e X.env) :: starEach es X.env := by rfl) (hst : (backTo pos (starEach es X.env)).any (·.1) = true := by rfl) : PE X (.Call (.Name x p) (e :: es) [] pos) (tCl (rMkR C sp E) t) := by
  refine ⟨fun pins s σ H Q I h => ?_⟩
  refine wpAny_Call_Name_kw (ld_glob I hg hm ?_ hdb)
  refine PySem.W.callWith_S2 (h₀ := X.base) I.ok.mod.kin M.kp (thn (ha.run pos pins s σ H _ I h) fun us s1 z => ?_) he hst
  obtain ⟨vs, H1, I1, r, q⟩ := z
  exact ⟨I1.kIn, StX.run_makeR M F hr hx I1 r q⟩
theorem pe_mkR0 (M : Mk X.K C f) (F : FnR X.prog X.w X.K X.mg X.base CX k f sp) (hr : Room (k + 1) X.A) (hg : Gl X x) (hm : X.mg x = some (.ref C)) (hx : Passes CX X E) (hdb : (x == ("__debug__" : Str)) = false := by decide) : PE X (.Call (.Name x p) [] [] pos) (tCl (rMkR C sp E) tNil) := by
  refine ⟨fun pins s σ H Q I h => ?_⟩
  refine wpAny_Call_Name_kw (ld_glob I hg hm ?_ hdb)
  exact PySem.W.callWith_K0 (first := []) I.kIn M.kp (StX.run_makeR M F hr hx I .nil h)
end
theorem spF_bad {K : PySem.W.Frag} {T : List (Addr × Str)} {F : List D → Tr D} {vs : List V} {H : Hp} {Q : VK} {E : XK} (hF : ∀ ds, F ds = .bad) (h : spF K T F vs H Q E) : False := by
  obtain ⟨p, c, U, ds, b, dn, wd, u, al⟩ := h
  rw [hF] at al
  exact al
theorem fn_bad {P : Program} {w : World} {K : PySem.W.Frag} {mg : Str → Option Value} {base : Heap} {CX : CXT} {k : Nat} {f : Addr} {fd : FuncData} {ps : List Str} {T : List (Addr × Str)} {F : List D → Tr D} (hF : ∀ ds, F ds = .bad) : FnOk P w K mg base CX k f fd ps (spF K T F) :=
  ⟨fun vs H Q E h => (spF_bad hF h).elim, fun A outer s H args us vs Q E hr e0 hb r h => (spF_bad hF h).elim⟩
theorem ul1_bad : ∀ ds : List D, ul1 (fun _ => (.bad : Tr D)) ds = .bad
  | [] => rfl
  | [_] => rfl
  | _ :: _ :: _ => rfl
theorem ul2_bad : ∀ ds : List D, ul2 (fun _ _ => (.bad : Tr D)) ds = .bad
  | [] => rfl
  | [_] => rfl
  | [_, _] => rfl
  | _ :: _ :: _ :: _ => rfl
end Gp
end
section
set_option Elab.async false
set_option linter.all false
set_option maxRecDepth 100000
set_option maxHeartbeats 4000000
namespace Gp
open PySem PySem.Spec PyProof.Rows L2 Gh
structure ClmT (K : PySem.W.Frag) (C : Addr) (m : Str) (p g : Addr) : Prop where
  r : ClX.CRead K C (.type "type")
  c : ClX.CMet K C (.type "type") m p g
theorem clmB_ok {x m : Str} {K : PySem.W.Frag} (h : clmB x m K = true) : ClmT K (gd x K) m (He.ma K (He.ga K x) m) (clsG x m K) := by
  obtain ⟨h1, h⟩ := He.ba h
  obtain ⟨h2, h⟩ := He.ba h
  obtain ⟨h3, h⟩ := He.ba h
  obtain ⟨h4, h5⟩ := He.ba h
  refine ⟨⟨h1, He.eqO_ok h2⟩, ⟨?_, ?_, h5⟩⟩
  · split at h3
    · rename_i b p C e
      obtain ⟨z1, z⟩ := He.ba h3
      obtain ⟨z2, z3⟩ := He.ba z
      rw [e, of_decide_eq_true z1, of_decide_eq_true z2, of_decide_eq_true z3]
    · cases h3
  · unfold clsG
    split at h4
    · rename_i g r e
      rw [e]
      exact ⟨r, rfl⟩
    · cases h4
theorem pe_cm {X : Cx} {CX : CXT} {k : Nat} {p q C : Addr} {sp : Sp} {E : XK} {m : Str} {apos pos : Pos} {o e : Expr} {es : List Expr} {ta : TE} {t : TA} {pl : Sem Bool} (he : PE X o ta) (c : ClmT X.K C m p q) (F : PromOX X CX k q [] sp) (hr : Room k X.A) (hx : Passes CX X E) (ha : PA X (e :: es) t)
    (hst : starEach (e :: es) X.env = (false, eval e X.env) :: starEach es X.env := by rfl) (hpl : (backTo pos (starEach es X.env)).any (·.1) = false := by rfl)
    (ht : eval (.Call (.Attribute o m apos) (e :: es) [] pos) X.env = (do
      let ov ← eval o X.env
      standAt apos.atName
      let (f, first) ← holding [ov] (getMethod ov m pl)
      callWith pos f first (backTo pos (starEach (e :: es) X.env)) (backToKw pos (keywordEach [] X.env))) := by rfl) : PE X (.Call (.Attribute o m apos) (e :: es) [] pos) (ClX.tCMeth C sp E ta t) :=
  ClX.pe_cmeth (pl := pl) he c.r c.c (PromO.raw F) hr hx ha hst hpl ht
def spK (K : PySem.W.Frag) (T : List (Addr × Str)) (cn : Str) (F : List D → Tr D) : Sp := fun vs H Q E => ∃ rest, vs = .ref (gd cn K) :: rest ∧ spF K T F rest H Q E
section
variable {g : Gw} {U : Addr → Prop} {H : Hp} {σ : L2.St} {ε : Env} {E : XK} {Q : VK}
theorem se_cm {c : Str} {F : List D → Tr D} {t : TA} {mt : Tr (List D)} (ht : SA g E ε t mt) : SE g E ε (ClX.tCMeth (gd c g.K) (spK g.K g.T c F) E (tC (.ref (gd c g.K))) t) (bd mt F) := fun U σ H b Q R W u q =>
  ⟨rfl, ht.step R W u q fun vs ds H2 b2 dv w2 f2 R2 u2 q2 => ⟨vs, rfl, g.p, g.c, U, ds, b2, dv, w2, u2, q2.mono (fun _ _ h => h.fr f2) (fun _ _ _ h => h)⟩⟩
theorem Rel.cons0 {v : V} {d : D} (dn : Den g U H v d) (r : Rel g U H σ ε) : Rel g U H (some v :: σ) (.fz d :: ε) := by
  have ow : ∀ i a, OwnAt (some v :: σ) (.fz d :: ε) i a → ∃ j, i = j + 1 ∧ OwnAt σ ε j a := fun i a ⟨z1, z2⟩ => by
    cases i with
    | zero => rcases z2 with ⟨ds, e⟩ | ⟨c, fs, e⟩ <;> cases e
    | succ j => exact ⟨j, rfl, z1, z2⟩
  refine ⟨congrArg (· + 1) r.len, fun i s e => ?_, fun i j a n h1 h2 => ?_⟩
  · cases i with
    | zero =>
      cases e
      exact ⟨some v, rfl, v, rfl, dn⟩
    | succ j => exact r.at_ j s e
  · obtain ⟨i', rfl, k1⟩ := ow i a h1
    obtain ⟨j', rfl, k2⟩ := ow j a h2
    exact r.apart i' j' a (fun z => n (by rw [z])) k1 k2
theorem fn_ofK {K : PySem.W.Frag} {T : List (Addr × Str)} {cn : Str} {n0 : Str} {N : List Str} {F : List D → Tr D} {vs : List V} {t : TS} {envU : Unit → Env} (h : spK K T cn F vs H Q E)
    (hs : ∀ p c ds, (∃ (P : D → Nat → Prop) (X : Str → Fs → Nat → Prop) (b : Nat), Al P X (F ds) b) → ∃ m, F ds = fin m ∧ SS ⟨K, T, p, c⟩ E (.fz (.cls cn) :: (ds.map Sl.fz ++ List.replicate (N.length - ds.length) Sl.no)) t envU envE m) : t { nx := fun _ H' => Q .non H', rt := Q } (L2.start (n0 :: N) vs) H := by
  obtain ⟨rest, rfl, p, c, U, ds, b, dn, wd, u, al⟩ := h
  obtain ⟨m, e, ss⟩ := hs p c ds ⟨_, _, _, al⟩
  have es : L2.start (n0 :: N) (.ref (gd cn K) :: rest) = some (.ref (gd cn K)) :: L2.start N rest := by
    unfold L2.start
    simp
  rw [es]
  have nn : ∀ i a, ¬ OwnAt (some (.ref (gd cn K)) :: L2.start N rest) (.fz (.cls cn) :: (ds.map Sl.fz ++ List.replicate (N.length - ds.length) Sl.no)) i a := fun i a ⟨_, z⟩ => by
    have : ∀ s : Sl, (Sl.fz (.cls cn) :: (ds.map Sl.fz ++ List.replicate (N.length - ds.length) Sl.no))[i]? = some s → (∃ d, s = .fz d) ∨ s = .no := fun s e => by
      rcases List.mem_cons.mp (List.mem_of_getElem? e) with m | m
      · exact .inl ⟨_, m⟩
      · rcases List.mem_append.mp m with m | m
        · obtain ⟨d, _, e⟩ := List.mem_map.mp m
          exact .inl ⟨d, e.symm⟩
        · exact .inr (List.mem_replicate.mp m).2
    rcases z with ⟨x, z⟩ | ⟨x, y, z⟩
    · rcases this _ z with ⟨d, e⟩ | e <;> cases e
    · rcases this _ z with ⟨d, e⟩ | e <;> cases e
  rw [e] at al
  refine ss (fun _ => False) U H U _ _ H b ⟨(rel_start dn).cons0 (.cls cn), wd, u, fun _ z => z, fun i a z => (nn i a z).elim, fun _ _ z _ _ _ => z, fun i ds' a z1 z2 => (nn i a ⟨z2, .inl ⟨ds', z1⟩⟩).elim, fun i c fs a z1 z2 => (nn i a ⟨z2, .inr ⟨c, fs, z1⟩⟩).elim⟩ ((al_bd.mp al).mono (fun f b1 h1 => ?_) (fun c fs b1 h1 => ?_))
  · cases f with
    | nx w => exact fun U' σ' H' e s => h1 .non H' .non s.wd fun a o z1 z2 z3 => s.ext a o z1 z2 (fun z => z) z3
    | rt d => exact fun v H' dn w f => h1 v H' dn w fun a o z1 z2 z3 => f a o z1 z2 (fun z => z) z3
    | bk e => exact nomatch e
    | ct e => exact nomatch e
  · exact fun dd fvs H' z1 z2 z3 z4 z5 => h1 dd fvs H' z1 z2 z3 z4 fun a o y1 y2 y3 => z5 a o y1 y2 (fun z => z) y3
theorem fn_ofK2 {K : PySem.W.Frag} {T : List (Addr × Str)} {cn : Str} {n0 : Str} {N : List Str} {F : D → D → Tr D} {vs : List V} {t : TS} {envU : Unit → Env} {m : D → D → Tr (Fl Unit Empty)} (h : spK K T cn (ul2 F) vs H Q E) (hF : ∀ x y, F x y = fin (m x y))
    (hs : ∀ p c x y, SS ⟨K, T, p, c⟩ E (.fz (.cls cn) :: ([x, y].map Sl.fz ++ List.replicate (N.length - 2) Sl.no)) t envU envE (m x y)) : t { nx := fun _ H' => Q .non H', rt := Q } (L2.start (n0 :: N) vs) H :=
  fn_ofK h fun p c ds ⟨_, _, _, al⟩ => by
    obtain ⟨x, y, rfl, _⟩ := al_ul2 al
    exact ⟨m x y, hF x y, hs p c x y⟩
theorem spK_len {K : PySem.W.Frag} {T : List (Addr × Str)} {cn : Str} {F : List D → Tr D} {n : Nat} (hn : ∀ (P : D → Nat → Prop) (X : Str → Fs → Nat → Prop) ds b, Al P X (F ds) b → ds.length = n) {vs : List V} (h : spK K T cn F vs H Q E) : vs.length = n + 1 := by
  obtain ⟨rest, rfl, h⟩ := h
  rw [List.length_cons, spF_len hn h]
end
end Gp
end
section
set_option Elab.async false
set_option linter.all false
set_option maxRecDepth 100000
set_option maxHeartbeats 4000000
namespace Gp
open PySem PySem.Spec PyProof.Rows L2 Gh
section
variable {g : Gw} {Mt U0 U U' : Addr → Prop} {H0 H H' H1 H2 : Hp} {b b1 : Nat} {σ : L2.St} {ε ε' : Env} {E : XK} {W L W' : Type}
variable {env : W → Env} {envL : L → Env} {u : TS}
def CstD (v : V) (d : D) : Prop := ∀ (g : Gw) (U : Addr → Prop) (H : Hp), Den g U H v d
theorem cst_int (i : Int) : CstD (.int i) (.int i) := fun _ _ _ => .int i
theorem ss_par3L {i j l : Nat} {v w : V} {d e : D} {m : Tr (Fl W L)} (c : CstD v d) (c' : CstD w e) (hk : SS g E (((ε.set i (.ow [])).set j (.fz d)).set l (.fz e)) u env envL m) :
    SS g E ε (tSeq (tPar3 i j l (tCons (tLst tNil) (tCons (tC v) (tCons (tC w) tNil)))) u) env envL m := fun Mt U0 H0 U D σ H b s q => by
  refine ⟨Nat.zero_le _, fun p np => ?_⟩
  obtain ⟨s1, e1⟩ := own_new (i := i) s np (Nat.zero_le _) (DenL.nil (g := g) (U := U) (H := H))
  exact ⟨_, _, _, rfl, hk Mt U0 H0 _ D _ _ b ((s1.set j (c _ _ _)).set l (c' _ _ _)) (q.mono (fun _ _ z => z.ev e1) (fun _ _ _ z => z))⟩
end
end Gp
end
section
set_option Elab.async false
set_option linter.all false
set_option maxRecDepth 100000
set_option maxHeartbeats 4000000
namespace GQ
open PySem PySem.SeqAt
open AutoSeq1 (wpAny_loadPart')
open MeetsSeq MeetsSeq2 MeetsSeq3 SeqRoads2
section
variable {prog : Program} {w : World} {A : Around} {R : Result → Shared → Prop}
theorem tuple_eqB (l b : Addr) (items items2 : Array Value) (n n2 : Nat) (dd dd2 : Option Addr) (sl sl2 : Array (Option Value)) (I : Nat → Shared → Prop) (J : Shared → Prop)
    (turn : ∀ i (h1 : i < items.size) (h2 : i < items2.size) s, I i s → wpAny (model prog w) A.in1 (eqBool items[i] items2[i]) (fun r s' => if r = true then I (i + 1) s' else J s') (fun e s' => R (.error e) s') s)
    (fin : ∀ s, I (min items.size items2.size) s → R (.ok (.ret (.bool (items.size == items2.size)))) s) (ff : ∀ s, J s → R (.ok (.ret (.bool false))) s)
    {s : Shared} (hl1 : s.heap.get? l = some { cls := .type "tuple", dict := dd, data := .seq items n, slots := sl }) (hb1 : s.heap.get? b = some { cls := .type "tuple", dict := dd2, data := .seq items2 n2, slots := sl2 }) (h : I 0 s) :
    wpAny (model prog w) A.in1 (Builtin.«tuple.__eq__» ⟨[.ref l, .ref b], []⟩) (FinOf prog w A R) (fun e s' => R (.error e) s') s := by
  have f2 := AutoSeq1.sub_tuple_tuple
  have hZ : (items.toList.zip items2.toList).length = min items.size items2.size := by simp
  have h0 := h
  obtain ⟨hp, g, d, tk, os⟩ := s
  wp_walk using wpAny_loadPart' hl1, wpAny_loadPart' hb1, wpAny_forIn_list _ (fun rest b s' => b.1 = none ∧ ∃ i, rest = (items.toList.zip items2.toList).drop i ∧ i ≤ min items.size items2.size ∧ I i s') _
  case turn =>
    rintro ⟨y, x⟩ rest b s' ⟨hb', i, hz, hi, hI⟩
    have hlt : i < (items.toList.zip items2.toList).length := by
      rcases Nat.lt_or_ge i (items.toList.zip items2.toList).length with h' | h'
      · exact h'
      · rw [List.drop_of_length_le h'] at hz; cases hz
    have h1 : i < items.size := by omega
    have h2 : i < items2.size := by omega
    rw [List.drop_eq_getElem_cons hlt] at hz
    injection hz with hyx hrest
    have hy : y = items[i] := by have := congrArg Prod.fst hyx; simpa using this
    have hx : x = items2[i] := by have := congrArg Prod.snd hyx; simpa using this
    subst hy hx
    refine wpAny_bind (wpAny_mono (turn i h1 h2 s' hI) (fun r s2 q2 => ?_) fun _ _ x => x)
    cases r with
    | true =>
      have q3 : I (i + 1) s2 := q2
      wp_walk
      exact ⟨rfl, i + 1, hrest, by omega, q3⟩
    | false =>
      have q3 : J s2 := q2
      have hR := ff s2 q3
      wp_walk
      exact hR
  case fin =>
    rintro ⟨b1, b2⟩ s' ⟨hb', i, hz, hi, hI⟩
    simp only at hb'
    subst hb'
    have hge : min items.size items2.size ≤ i := by
      rcases Nat.lt_or_ge i (items.toList.zip items2.toList).length with h' | h'
      · rw [List.drop_eq_getElem_cons h'] at hz; cases hz
      · exact hZ ▸ h'
    have hi' : i = min items.size items2.size := by omega
    have hR := fin s' (hi' ▸ hI)
    wp_walk
    simpa [Builtin.Tuple.tupleCompareSizes] using hR
  case h =>
    exact ⟨rfl, 0, rfl, Nat.zero_le _, h0⟩
end
section
variable {prog : Program} {w : World} {A : Around} {E : Value → Shared → Prop} {s : Shared}
theorem rc_tupB {l b : Addr} {items items2 : Array Value} {Q : Value → Shared → Prop} (hu : A.units < cLine) (I : Nat → Shared → Prop) (J : Shared → Prop)
    (hl : s.heap.IsTuple l items) (hb : s.heap.IsTuple b items2)
    (turn : ∀ i (h1 : i < items.size) (h2 : i < items2.size) s, I i s → wpAny (model prog w) A.in1 (eqBool items[i] items2[i]) (fun r s' => if r = true then I (i + 1) s' else J s') E s)
    (fin : ∀ s, I (min items.size items2.size) s → Q (.bool (items.size == items2.size)) s) (ff : ∀ s, J s → Q (.bool false) s) (h : I 0 s) : wpAny (model prog w) A (richCompare .Eq (.ref l) (.ref b)) Q E s := by
  obtain ⟨⟨cls, dd, data, sl⟩, ho, hc, n, hd⟩ := id hl
  obtain ⟨⟨cls2, dd2, data2, sl2⟩, ho2, hc2, n2, hd2⟩ := id hb
  simp only at hc hd hc2 hd2
  subst hc hd hc2 hd2
  refine wpAny_richCompare_same_room (op := .Eq) ⟨_, ho, rfl⟩ ⟨_, ho2, rfl⟩ F.slot_tuple_eq (call_here F.slot_tuple_eq ⟨_, ho, rfl⟩ F.entry_tuple_eq (F.args_tuple_eq_2 _ _) ?_) hu
  exact tuple_eqB (R := wants (fun v s' => v ≠ .notImplemented ∧ Q v s') E) l b items items2 n n2 dd dd2 sl sl2 I J turn (fun s' q => ⟨(fun x => nomatch x), fin s' q⟩) (fun s' q => ⟨(fun x => nomatch x), ff s' q⟩) ho ho2 h
end
end GQ
namespace Gp
open PySem PySem.Spec PyProof.Rows L2 Gh
section
variable {X : Cx} {n : Nat} {Go : Hp → Prop} {Dq : V → V → Bool → Prop}
def EqB (X : Cx) (n : Nat) (Go : Hp → Prop) (Dq : V → V → Bool → Prop) : Prop :=
  ∀ (A : Around) (pins : List (Addr × Obj)) (s : Shared) (σ : L2.St) (H : Hp) (x y : V) (u v : Value) (k : Bool), L2.Sub X n A → L2.Inv X pins σ H s → RelV x u → RelV y v → Go H → Dq x y k →
    wpAny (model X.prog X.w) A (eqBool u v) (fun r s' => r = k ∧ ∃ H', L2.Inv X pins σ H' s' ∧ Go H') X.xe s
inductive OutQ (Dq : V → V → Bool → Prop) : List V → List V → Bool → Prop
  | nil : OutQ Dq [] [] true
  | l {y : V} {ys : List V} : OutQ Dq [] (y :: ys) false
  | r {x : V} {xs : List V} : OutQ Dq (x :: xs) [] false
  | t {x y : V} {xs ys : List V} {k : Bool} : Dq x y true → OutQ Dq xs ys k → OutQ Dq (x :: xs) (y :: ys) k
  | f {x y : V} {xs ys : List V} : Dq x y false → OutQ Dq (x :: xs) (y :: ys) false
theorem rcB_tup (h : EqB X n Go Dq) {A : Around} (sb : L2.Sub X (n + 1) A) {pins : List (Addr × Obj)} {s : Shared} {σ : L2.St} {H : Hp} {a b : Addr} {xs ys : List V} {k : Bool} (I : L2.Inv X pins σ H s) (hG : Go H)
    (ha : SqT X.K H a xs) (hb : SqT X.K H b ys) (o : OutQ Dq xs ys k) :
    wpAny (model X.prog X.w) A (richCompare .Eq (.ref a) (.ref b)) (fun r s' => r = .bool k ∧ ∃ H', L2.Inv X pins σ H' s' ∧ Go H') X.xe s := by
  obtain ⟨its, r, e, z⟩ := I.tuple ha
  obtain ⟨its2, r2, e2, z2⟩ := I.tuple hb
  have lx : xs.length = its.toArray.size := by rw [List.size_toArray]; exact r.length
  have ly : ys.length = its2.toArray.size := by rw [List.size_toArray]; exact r2.length
  refine GQ.rc_tupB sb.room.units0 (fun i s' => (∃ H', L2.Inv X pins σ H' s' ∧ Go H') ∧ OutQ Dq (xs.drop i) (ys.drop i) k) (fun s' => (∃ H', L2.Inv X pins σ H' s' ∧ Go H') ∧ k = false) e e2 (fun i h1 h2 s' q => ?_) (fun s' q => ?_) (fun s' q => ?_) ⟨⟨H, I, hG⟩, o⟩
  · obtain ⟨⟨H1, I1, g1⟩, o1⟩ := q
    have k1 : i < xs.length := by omega
    have k2 : i < ys.length := by omega
    rw [List.drop_eq_getElem_cons k1, List.drop_eq_getElem_cons k2] at o1
    have q1 : its[i]? = some its.toArray[i] := by
      have h1' : i < its.length := by simpa using h1
      rw [List.getElem?_eq_getElem h1'] <;> simp
    have q2 : its2[i]? = some its2.toArray[i] := by
      have h2' : i < its2.length := by simpa using h2
      rw [List.getElem?_eq_getElem h2'] <;> simp
    obtain ⟨u, hu, ru⟩ := r.get (List.getElem?_eq_getElem k1)
    obtain ⟨v, hv, rv⟩ := r2.get (List.getElem?_eq_getElem k2)
    rw [q1] at hu
    rw [q2] at hv
    rw [Option.some.inj hu, Option.some.inj hv]
    cases o1 with
    | t d o2 =>
      refine wpAny_mono (h A.in1 pins s' σ H1 _ _ u v true sb.in1 I1 ru rv g1 d) (fun r s2 q => ?_) fun _ _ x => x
      obtain ⟨hr, H2, I2, g2⟩ := q
      subst hr
      exact ⟨⟨H2, I2, g2⟩, o2⟩
    | f d =>
      refine wpAny_mono (h A.in1 pins s' σ H1 _ _ u v false sb.in1 I1 ru rv g1 d) (fun r s2 q => ?_) fun _ _ x => x
      obtain ⟨hr, H2, I2, g2⟩ := q
      subst hr
      exact ⟨⟨H2, I2, g2⟩, rfl⟩
  · obtain ⟨hl, o1⟩ := q
    refine ⟨?_, hl⟩
    congr 1
    rw [← lx, ← ly] at o1 ⊢
    generalize hx : xs.drop (min xs.length ys.length) = xs' at o1
    generalize hy : ys.drop (min xs.length ys.length) = ys' at o1
    have l1 : xs'.length = xs.length - min xs.length ys.length := by rw [← hx, List.length_drop]
    have l2 : ys'.length = ys.length - min xs.length ys.length := by rw [← hy, List.length_drop]
    cases o1 with
    | nil =>
      rw [List.length_nil] at l1 l2
      exact beq_iff_eq.mpr (by omega)
    | l =>
      rw [List.length_cons] at l2
      rw [List.length_nil] at l1
      exact beq_eq_false_iff_ne.mpr (by omega)
    | r =>
      rw [List.length_cons] at l1
      rw [List.length_nil] at l2
      exact beq_eq_false_iff_ne.mpr (by omega)
    | t d o2 =>
      rw [List.length_cons] at l1 l2
      omega
    | f d =>
      rw [List.length_cons] at l1 l2
      omega
  · obtain ⟨hl, rfl⟩ := q
    exact ⟨rfl, hl⟩
theorem eqB_ins {CX : CXT} {C C' f : Addr} {fd : FuncData} {ps : List Str} {sp : L2.Sp} {E : XK} (F : FnOk X.prog X.w X.K X.mg X.base CX n f fd ps sp)
    (hs : PySem.W.findIn X.K (.ref C) "__eq__" = some (some (.ref f))) (hf : PySem.W.isFn X.K (.ref f) = true) (hb : Binds X.K fd ps []) (hx : Passes CX X E) (nf : PySem.W.notFirst X.K C (.ref C') = true)
    {A : Around} {pins : List (Addr × Obj)} {s : Shared} {σ : L2.St} {H : Hp} {a b dx dy : Addr} {fs gs : List (Str × V)} {k : Bool} (sb : L2.Sub X n A) (I : L2.Inv X pins σ H s) (hG : Go H)
    (ha : H a = some (.ins C dx fs)) (hb' : H b = some (.ins C' dy gs)) (hab : a = b → k = true) (hsp : sp [.ref a, .ref b] H (fun v H' => v = .bl k ∧ Go H') E) :
    wpAny (model X.prog X.w) A (eqBool (.ref a) (.ref b)) (fun r s' => r = k ∧ ∃ H', L2.Inv X pins σ H' s' ∧ Go H') X.xe s := by
  by_cases e : a = b
  · rw [hab e]
    subst e
    exact SeqAt.EqAt.same (A := A) (s := s) (.ref a) X.prog X.w X.xe _ ⟨rfl, H, I, hG⟩
  refine GQ.eqBool_refG e (wpAny_mono (Q := fun r s' => r = .bool k ∧ ∃ H', L2.Inv X pins σ H' s' ∧ Go H') ?_ (fun r s' q => ⟨k, q.1, rfl, q.2⟩) fun _ _ x => x)
  obtain ⟨mA, J, _⟩ := ins_get I.hok ha
  obtain ⟨mB, J', _⟩ := ins_get I.hok hb'
  obtain ⟨od, J, _⟩ := J.look
  obtain ⟨od', J', _⟩ := J'.look
  obtain ⟨m, hF⟩ := I.fr
  refine PySem.W.cmp_K (op := .Eq) (tb := .ref C') sb.room.units0 hF I.ok.mod.kin J J'.type nf hs hf ?_
  have e0 : Env0 X.prog X.w X.K X.mg X.base A X.stack s H := by
    have e := I.env0
    exact ⟨by rw [sb.fr]; exact e.frames, e.mod, e.bs, e.bsz, e.funs, e.frf, e.hok, e.bare⟩
  have hl := F.len _ _ _ _ hsp
  have r2 : Vals [V.ref a, V.ref b] [Value.ref a, Value.ref b] := .cons rfl (.cons rfl .nil)
  refine wpAny_call (codeAny_mono (F.run A X.stack s H ⟨[.ref a, .ref b], []⟩ [.ref a, .ref b] [.ref a, .ref b] _ E sb.room e0 (by
    have := hb s [.ref a, .ref b] I.kIn (by simpa using hl)
    simpa using this) r2 hsp) fun r s' hq => ?_)
  cases r with
  | error e => exact hx pins σ H s e s' I hq
  | ok fl =>
    cases fl with
    | ret w =>
      obtain ⟨z, H', I', rz, ez, ex⟩ := I.after hq
      subst ez
      cases rz
      exact ⟨rfl, H', I', ex⟩
    | next => exact False.elim hq
    | brk => exact False.elim hq
    | cont => exact False.elim hq
def DqO (K : PySem.W.Frag) (owns : List (Addr × L2.Sp)) (Go : Hp → Prop) (E : XK) : V → V → Bool → Prop := fun x y k => ∃ (a b C C' : Addr) (sp : L2.Sp), x = .ref a ∧ y = .ref b ∧ (C, sp) ∈ owns ∧ PySem.W.notFirst K C (.ref C') = true ∧
  (∀ (X : Cx) (pins : List (Addr × Obj)) (σ : L2.St) (s : Shared) (H : Hp), X.K = K → L2.Inv X pins σ H s → Go H → a = b → k = true) ∧
  ∀ H, Go H → (∃ dx fs, H a = some (.ins C dx fs)) ∧ (∃ dy gs, H b = some (.ins C' dy gs)) ∧ sp [.ref a, .ref b] H (fun v H' => v = .bl k ∧ Go H') E
@[irreducible] def rEqT (K : PySem.W.Frag) (owns : List (Addr × L2.Sp)) (E : XK) : R2 := fun x y H Q => ∃ (a b : Addr) (xs ys : List V) (k : Bool) (Go : Hp → Prop), x = .ref a ∧ y = .ref b ∧ SqT K H a xs ∧ SqT K H b ys ∧ Go H ∧ OutQ (DqO K owns Go E) xs ys k ∧ ∀ H', Go H' → Q (.bl k) H'
def OwnQ (X : Cx) (CX : CXT) (n : Nat) (p : Addr × L2.Sp) : Prop := ∃ (f : Addr) (fd : FuncData) (ps : List Str) (k : Nat), k ≤ n ∧ FnOk X.prog X.w X.K X.mg X.base CX k f fd ps p.2 ∧ PySem.W.findIn X.K (.ref p.1) "__eq__" = some (some (.ref f)) ∧ PySem.W.isFn X.K (.ref f) = true ∧ Binds X.K fd ps []
theorem ownQ_of {CX : CXT} {k : Nat} {C f : Addr} {sp : L2.Sp} (hm : Meth X.K C "__eq__" f) (F : PromO X.prog X.w X.K X.mg X.base CX k f [] sp) (hk : k ≤ n) : OwnQ X CX n (C, sp) := by
  obtain ⟨fd, ps, ds, G, b, v⟩ := F
  cases v
  exact ⟨f, fd, ps, k, hk, G, hm.at_, hm.fn, b⟩
theorem op_eqT {CX : CXT} {K : PySem.W.Frag} {owns : List (Addr × L2.Sp)} {E : XK} (hK : X.K = K) (hr : Room (n + 1) X.A) (hx : Passes CX X E) (ow : ∀ p ∈ owns, OwnQ X CX n p) : OpR X (compareOp .Eq) (rEqT K owns E) := by
  subst hK
  intro pins s σ H x y v u Q I rx ry hq
  unfold rEqT at hq
  obtain ⟨a, b, xs, ys, k, Go, rfl, rfl, ha, hb, hG, o, q⟩ := hq
  cases rx
  cases ry
  show wpAny (model X.prog X.w) X.A (richCompare .Eq (.ref a) (.ref b)) (EP X pins σ Q) X.xe s
  have he : EqB X n Go (DqO X.K owns Go E) := fun A pins s σ H x y u v k sb I rx ry hG d => by
    obtain ⟨a, b, C, C', sp, rfl, rfl, hm, nf, hab, hc⟩ := d
    cases rx
    cases ry
    obtain ⟨⟨dx, fs, h1⟩, ⟨dy, gs, h2⟩, hsp⟩ := hc H hG
    obtain ⟨f, fd, ps, kk, hk, F, hs, hf, hb⟩ := ow _ hm
    exact eqB_ins F hs hf hb hx nf (sb.mono hk) I hG h1 h2 (hab X pins σ s H rfl I hG) hsp
  refine wpAny_mono (rcB_tup he ⟨hr, rfl⟩ I hG ha hb o) (fun r s' z => ?_) fun _ _ x => x
  obtain ⟨hr', H', I', e⟩ := z
  subst hr'
  exact ⟨.bl k, H', I', rfl, q H' e⟩
end
mutual
def differ : D → D → Bool
  | .bl a, .bl b => a != b
  | .int i, .int j => i != j
  | .str x, .str y => x != y
  | .tup ds, .tup es => differL ds es
  | .lst ds, .lst es => differL ds es
  | .obj _ fs, .obj _ gs => differF fs gs
  | _, _ => false
def differL : List D → List D → Bool
  | [], [] => false
  | d :: ds, e :: es => differ d e || differL ds es
  | _, _ => true
def differF : List (Str × D) → List (Str × D) → Bool
  | [], [] => false
  | (n, d) :: ds, (m, e) :: es => n != m || (differ d e || differF ds es)
  | _, _ => true
end
section
variable {g : Gw} {U : Addr → Prop} {H : Hp}
mutual
theorem den_same (ti : ∀ a xs ys, SqT g.K H a xs → SqT g.K H a ys → xs = ys) : ∀ {v : V} {d : D}, Den g U H v d → ∀ {e : D}, Den g U H v e → differ d e = false
  | _, _, .non, _, k => by simp [differ]
  | _, _, .bl b, _, k => by cases k; simp [differ]
  | _, _, .int i, _, k => by cases k; simp [differ]
  | _, _, .str x h, _, k => by cases k; simp [differ]
  | _, _, .tup h n l r, _, k => by
    cases k with
    | tup h' n' l' r' =>
      cases ti _ _ _ (SqT.of h) (SqT.of h')
      simp only [differ]
      exact denL_same ti r r'
    | tupW h' l' r' =>
      cases ti _ _ _ (SqT.of h) (h' H)
      simp only [differ]
      exact denL_same ti r r'
    | _ => simp [differ]
  | _, _, .tupW h l r, _, k => by
    cases k with
    | tup h' n' l' r' =>
      cases ti _ _ _ (h H) (SqT.of h')
      simp only [differ]
      exact denL_same ti r r'
    | tupW h' l' r' =>
      cases ti _ _ _ (h H) (h' H)
      simp only [differ]
      exact denL_same ti r r'
    | _ => simp [differ]
  | _, _, .lst h n l r, _, k => by
    cases k with
    | lst h' n' l' r' =>
      cases h.symm.trans h'
      simp only [differ]
      exact denL_same ti r r'
    | _ => simp [differ]
  | _, _, .obj h n r, _, k => by
    cases k with
    | obj h' n' r' =>
      have z := h.symm.trans h'
      simp only [Option.some.injEq, HO.ins.injEq] at z
      obtain ⟨_, _, z3⟩ := z
      subst z3
      simp only [differ]
      exact denF_same ti r r'
    | _ => simp [differ]
  | _, _, .err .., _, k => by simp [differ]
  | _, _, .pen, _, k => by simp [differ]
  | _, _, .cls c, _, k => by simp [differ]
  | _, _, .dct _ _, _, k => by simp [differ]
  | _, _, .dic .., _, k => by simp [differ]
  | _, _, .dit .., _, k => by simp [differ]
theorem denL_same (ti : ∀ a xs ys, SqT g.K H a xs → SqT g.K H a ys → xs = ys) : ∀ {vs : List V} {ds : List D}, DenL g U H vs ds → ∀ {es : List D}, DenL g U H vs es → differL ds es = false
  | _, _, .nil, _, k => by cases k; simp [differL]
  | _, _, .cons a r, _, k => by
    cases k with
    | cons a' r' =>
      simp only [differL]
      rw [den_same ti a a', denL_same ti r r']
      rfl
theorem denF_same (ti : ∀ a xs ys, SqT g.K H a xs → SqT g.K H a ys → xs = ys) : ∀ {vs : List (Str × V)} {ds : List (Str × D)}, DenF g U H vs ds → ∀ {es : List (Str × D)}, DenF g U H vs es → differF ds es = false
  | _, _, .nil, _, k => by cases k; simp [differF]
  | _, _, .cons a r, _, k => by
    cases k with
    | cons a' r' =>
      simp only [differF]
      rw [den_same ti a a', denF_same ti r r']
      simp
end
end
abbrev EqTab := List (Str × (List D → Tr D))
def itE (es : EqTab) (x y : D) : Option Bool := match x, y with
  | .obj c _, .obj c' _ => match es.lookup c, es.lookup c' with
    | some F, some _ => match F [x, y] with
      | .ok (.bl true) => some true
      | .ok (.bl false) => if differ x y = true then some false else none
      | _ => none
    | _, _ => none
  | _, _ => none
def eqLs (es : EqTab) : List D → List D → Tr Bool
  | [], [] => .ok true
  | d :: ds, e :: fs => match itE es d e with
    | some true => eqLs es ds fs
    | some false => .ok false
    | none => .bad
  | _, _ => .ok false
def eqTD (es : EqTab) (x y : D) : Tr D := match x, y with
  | .tup ds, .tup fs => bd (eqLs es ds fs) fun k => .ok (.bl k)
  | _, _ => .bad
theorem look_mem {es : EqTab} {c : Str} {F : List D → Tr D} (h : es.lookup c = some F) : (c, F) ∈ es := by
  induction es with
  | nil => cases h
  | cons p es ih =>
    obtain ⟨c', F'⟩ := p
    rw [List.lookup_cons] at h
    by_cases e : c = c'
    · subst e
      simp only [BEq.rfl] at h
      cases h
      exact List.mem_cons_self
    · have e' : (c == c') = false := by simpa using e
      rw [e'] at h
      exact List.mem_cons_of_mem _ (ih h)
theorem itE_some {es : EqTab} {d e : D} {k : Bool} (h : itE es d e = some k) : ∃ c fs c' gs F F', d = .obj c fs ∧ e = .obj c' gs ∧ (c, F) ∈ es ∧ (c', F') ∈ es ∧ F [d, e] = .ok (.bl k) ∧ (k = false → differ d e = true) := by
  unfold itE at h
  split at h
  · rename_i c fs c' gs
    split at h
    · rename_i F F' h1 h2
      split at h
      · rename_i z
        cases h
        exact ⟨c, fs, c', gs, F, F', rfl, rfl, look_mem h1, look_mem h2, z, fun y => nomatch y⟩
      · rename_i z
        split at h
        · rename_i y
          cases h
          exact ⟨c, fs, c', gs, F, F', rfl, rfl, look_mem h1, look_mem h2, z, fun _ => y⟩
        · cases h
      · cases h
    · cases h
  · cases h
theorem eqLs_ok {es : EqTab} : ∀ (ds fs : List D), (∃ k, eqLs es ds fs = .ok k) ∨ eqLs es ds fs = .bad
  | [], [] => .inl ⟨_, rfl⟩
  | [], _ :: _ => .inl ⟨_, rfl⟩
  | _ :: _, [] => .inl ⟨_, rfl⟩
  | d :: ds, e :: fs => by
    unfold eqLs
    split
    · exact eqLs_ok ds fs
    · exact .inl ⟨_, rfl⟩
    · exact .inr rfl
section
variable {g : Gw} {U : Addr → Prop} {H : Hp} {E : XK} {b : Nat}
def GoT (g : Gw) (H0 : Hp) (b : Nat) : Hp → Prop := fun H => Wd g H b ∧ Fr H0 H g.p
theorem dq_item {es : EqTab} (nf : ∀ p ∈ es, ∀ p' ∈ es, PySem.W.notFirst g.K (gd p.1 g.K) (.ref (gd p'.1 g.K)) = true) {d e : D} {x y : V} {k : Bool} (h : itE es d e = some k) (d1 : Den g U H x d) (d2 : Den g U H y e) (u : UOk g U H) :
    DqO g.K (es.map fun p => (gd p.1 g.K, spF g.K g.T p.2)) (GoT g H b) E x y k := by
  obtain ⟨c, fs, c', gs, F, F', rfl, rfl, m1, m2, eF, hd⟩ := itE_some h
  obtain ⟨a, da, fa, rfl, ea, na, _⟩ := den_obj d1
  obtain ⟨a2, da2, fa2, rfl, ea2, na2, _⟩ := den_obj d2
  refine ⟨a, a2, gd c g.K, gd c' g.K, spF g.K g.T F, rfl, rfl, List.mem_map.mpr ⟨_, m1, rfl⟩, nf _ m1 _ m2, fun X pins σ s H' hK I hG hab => ?_, fun H' hG => ?_⟩
  · subst hab
    have z1 := d1.ext (u.extU hG.2)
    have z2 := d2.ext (u.extU hG.2)
    have z := den_same (fun a xs ys h1 h2 => I.tuple_inj (hK ▸ h1) (hK ▸ h2)) z1 z2
    cases k with
    | true => rfl
    | false => rw [hd rfl] at z; cases z
  · have z1 := d1.ext (u.extU hG.2)
    have z2 := d2.ext (u.extU hG.2)
    obtain ⟨b1, db, fb, eb, eb1, _, _⟩ := den_obj z1
    obtain ⟨b2, db2, fb2, eb2, eb3, _, _⟩ := den_obj z2
    cases eb
    cases eb2
    refine ⟨⟨_, _, eb1⟩, ⟨_, _, eb3⟩, g.p, g.c, U, [.obj c fs, .obj c' gs], b, .cons z1 (.cons z2 .nil), hG.1, u.fr hG.2 hG.1, ?_⟩
    rw [eF]
    intro v H2 dv w2 f2
    cases dv
    exact ⟨rfl, w2, hG.2.trans f2⟩
theorem dq_all {es : EqTab} (nf : ∀ p ∈ es, ∀ p' ∈ es, PySem.W.notFirst g.K (gd p.1 g.K) (.ref (gd p'.1 g.K)) = true) (u : UOk g U H) : ∀ {xs : List V} {ds : List D} {ys : List V} {fs : List D} {k : Bool}, DenL g U H xs ds → DenL g U H ys fs → eqLs es ds fs = .ok k →
    OutQ (DqO g.K (es.map fun p => (gd p.1 g.K, spF g.K g.T p.2)) (GoT g H b) E) xs ys k
  | _, _, _, _, _, .nil, .nil, h => by
    unfold eqLs at h
    cases h
    exact .nil
  | _, _, _, _, _, .nil, .cons _ _, h => by
    unfold eqLs at h
    cases h
    exact .l
  | _, _, _, _, _, .cons _ _, .nil, h => by
    unfold eqLs at h
    cases h
    exact .r
  | _, _, _, _, _, .cons a r, .cons a' r', h => by
    unfold eqLs at h
    split at h
    · rename_i z
      exact .t (dq_item nf z a a' u) (dq_all nf u r r' h)
    · rename_i z
      cases h
      exact .f (dq_item nf z a a' u)
    · cases h
theorem sr_eqT {es : EqTab} (nf : ∀ p ∈ es, ∀ p' ∈ es, PySem.W.notFirst g.K (gd p.1 g.K) (.ref (gd p'.1 g.K)) = true) : SR2 g E (rEqT g.K (es.map fun p => (gd p.1 g.K, spF g.K g.T p.2)) E) (eqTD es) := fun U H b x y dx dy Q d1 d2 w u q => by
  unfold eqTD at q
  split at q
  · rename_i ds fs
    obtain ⟨a, vs, rfl, h1, _, k1⟩ := den_tup d1
    obtain ⟨a2, vs2, rfl, h2, _, k2⟩ := den_tup d2
    rcases eqLs_ok (es := es) ds fs with ⟨k, ek⟩ | ek
    · rw [ek] at q
      unfold rEqT
      refine ⟨a, a2, vs, vs2, k, GoT g H b, rfl, rfl, h1, h2, ⟨w, Fr.refl⟩, dq_all nf u k1 k2 ek, fun H' hG => ?_⟩
      exact q _ _ (.bl k) hG.1 hG.2
    · rw [ek] at q
      exact q.elim
  · exact q.elim
end
end Gp
end
section
set_option Elab.async false
set_option linter.all false
set_option maxRecDepth 100000
set_option maxHeartbeats 4000000
namespace Gp
open PySem PySem.Spec PyProof.Rows L2 Gh
section
variable {g : Gw} {Mt U0 U U' : Addr → Prop} {H0 H H' H1 H2 : Hp} {b b1 : Nat} {σ : L2.St} {ε ε' : Env} {E : XK} {W L W' : Type}
variable {env : W → Env} {envL : L → Env} {env' : W' → Env} {u ta tb : TS} {te ti : TE} {me mi : Tr D}
theorem own_sig (s : Stt g Mt U0 H0 U σ H b ε) {j : Nat} {a : Addr} (h : OwnAt σ ε j a) : ∃ o, H a = some o := by
  obtain ⟨h1, ⟨ds, h2⟩ | ⟨c, fs, h2⟩⟩ := h
  · obtain ⟨o, e, a', vs, e2, h, _⟩ := s.rel.at_ j _ h2
    rw [h1] at e
    cases e
    cases e2
    exact ⟨_, h⟩
  · obtain ⟨o, e, a', dx, fvs, e2, h, _⟩ := s.rel.at_ j _ h2
    rw [h1] at e
    cases e
    cases e2
    exact ⟨_, h⟩
theorem own_pend {A : Addr} {vs : List V} {ds : List D} (s : Stt g Mt U0 H0 U σ H b ε) (n : H A = none) (l : vs.length ≤ sizeLine) (dn : DenL g U H vs ds) :
    Stt g Mt U0 H0 (fun a => U a ∨ a = A) σ (upd H A (.lst vs)) b ε ∧ Ev U H (fun a => U a ∨ a = A) (upd H A (.lst vs)) ∧ Pnd g Mt U0 H0 (fun a => U a ∨ a = A) σ (upd H A (.lst vs)) ε A ds := by
  have sm := same_new (o := .lst vs) n
  have nU : ¬ U A := s.uok.new n
  have hp : A ≠ g.p := fun z => nU (z ▸ s.uok.p)
  have hc : A ≠ g.c := fun z => nU (z ▸ s.uok.c)
  have r1 : Rel g (fun a => U a ∨ a = A) (upd H A (.lst vs)) σ ε := (s.rel.grow n).frp (.inl s.uok.p) (fr_same sm)
  refine ⟨⟨r1, s.wd.same sm, ⟨.inl s.uok.p, .inl s.uok.c, fun a ha => ?_⟩, fun a z => .inl (s.sub a z), s.own, s.ext.trans (fr_same sm), s.nu0, s.oim⟩, ⟨fun a o e _ _ => sm a o e, fun a o e n1 _ => ?_⟩, ⟨⟨vs, upd_same, l, (dn.grow n).ext (fun a o e _ _ => sm a o e)⟩, .inr rfl, hp, hc, fun z => nU (s.sub _ z), fun j h => ?_, ?_⟩⟩
  · rcases ha with ha | rfl
    · obtain ⟨o, e, t⟩ := s.uok.al a ha
      exact ⟨o, sm a o e, t⟩
    · exact ⟨_, upd_same, fun _ z => by cases z⟩
  · rintro (z | z)
    · exact n1 z
    · exact ne_of_none e n z
  · obtain ⟨o, e⟩ := own_sig s h
    rw [n] at e
    cases e
  · by_cases m : Mt A
    · exact .inl m
    · refine .inr fun o q => ?_
      by_cases t : ∃ ps, o = .tbl ps
      · exact t
      · have := s.ext A o q hp m (fun ps z => t ⟨ps, z⟩)
        rw [n] at this
        cases this
theorem own_place {A : Addr} {ds : List D} (i : Nat) (s : Stt g Mt U0 H0 U σ H b ε) (p : Pnd g Mt U0 H0 U σ H ε A ds) : Stt g Mt U0 H0 U (σ.set i (some (.ref A))) H b (ε.set i (.ow ds)) := by
  obtain ⟨⟨vs, hA, l, dn⟩, uA, hp, hc, n0, no, mt⟩ := p
  refine ⟨⟨by rw [List.length_set, List.length_set]; exact s.rel.len, fun j x e => ?_, fun j k a ne h1 h2 => ?_⟩, s.wd, s.uok, s.sub, fun j a h => ?_, s.ext, fun j xs a e1 e2 => ?_, fun j c fs a e1 e2 => ?_⟩
  · by_cases q : i = j
    · subst q
      have hl : i < ε.length := by
        cases z : ε[i]? with
        | none => rw [List.getElem?_set_self', z] at e; cases e
        | some w => exact (List.getElem?_eq_some_iff.mp z).1
      rw [List.getElem?_set_self hl] at e
      cases e
      exact ⟨_, List.getElem?_set_self (by rw [s.rel.len]; exact hl), A, vs, rfl, hA, l, dn, uA, hp, hc⟩
    · rw [List.getElem?_set_ne q] at e ⊢
      exact s.rel.at_ j x e
  · rcases ownAt_setO h1 with ⟨rfl, z1⟩ | ⟨n1, z1⟩ <;> rcases ownAt_setO h2 with ⟨rfl, z2⟩ | ⟨n2, z2⟩
    · exact ne rfl
    · cases z1
      exact no _ z2
    · cases z2
      exact no _ z1
    · exact s.rel.apart j k a ne z1 z2
  · rcases ownAt_setO h with ⟨rfl, z⟩ | ⟨_, z⟩
    · cases z
      exact mt
    · exact s.own j a z
  · by_cases q : i = j
    · subst q
      rw [List.getElem?_set_self'] at e2
      cases z : σ[i]? with
      | none => rw [z] at e2; cases e2
      | some w => rw [z] at e2; cases e2; exact n0
    · rw [List.getElem?_set_ne q] at e1 e2
      exact s.nu0 j xs a e1 e2
  · by_cases q : i = j
    · subst q
      cases z : ε[i]? with
      | none => rw [List.getElem?_set_self', z] at e1; cases e1
      | some w => rw [List.getElem?_set_self', z] at e1; cases e1
    · rw [List.getElem?_set_ne q] at e1 e2
      exact s.oim j c fs a e1 e2
theorem Pnd.fr {A : Addr} {ds : List D} (uo : UOk g U H) (p : Pnd g Mt U0 H0 U σ H ε A ds) (f : Fr H H' g.p) : Pnd g Mt U0 H0 U σ H' ε A ds := by
  obtain ⟨⟨vs, hA, l, dn⟩, uA, hp, hc, n0, no, mt⟩ := p
  exact ⟨⟨vs, f _ _ hA hp (fun _ z => by cases z), l, dn.fr uo f⟩, uA, hp, hc, n0, no, mt⟩
def SQ (g : Gw) (E : XK) (ε : Env) (n : Nat) (t : TA) (m : Tr (List D)) : Prop := ∀ Mt U0 H0 U σ H b Q, Stt g Mt U0 H0 U σ H b ε →
  Al (fun ds b' => ∀ vs U' H', QR g Mt U0 H0 U' σ H' ε n vs ds → Ev U H U' H' → Stt g Mt U0 H0 U' σ H' b' ε → Q vs H') (exS g Mt U0 H0 E) m b → t σ H Q
theorem sq_here {tn : TE} {mn : Tr (List D)} {t : TA} {m : Tr (List D)} (hn : SN g E ε tn mn) (ht : SA g E ε t m) : SQ g E ε 0 (tCons tn t) (bd mn fun ds => bd m fun xs => .ok (.lst ds :: xs)) := fun Mt U0 H0 U σ H b Q s q => by
  refine hn U σ H b _ s.rel s.wd s.uok ((al_bd.mp q).mono (fun ds b1 h1 A vs H1 n l dn w f => ?_) (fun _ _ _ h => exS.exP s h))
  have s1 := s.fr f w
  obtain ⟨s2, ev, pd⟩ := own_pend s1 n l dn
  refine ht _ σ _ b1 _ s2.rel s2.wd s2.uok ((al_bd.mp h1).mono (fun xs b2 h2 vs' H3 d3 w3 f3 => ?_) (fun _ _ _ h => exS.exP s2 h))
  exact h2 _ _ H3 (.here (pd.fr s2.uok f3) d3) (((s.uok.ev f).trans ev).trans (s2.uok.ev f3)) (s2.fr f3 w3)
def uoD {α : Type} (k : List D → Tr α) (x : D) : Tr α := match x with
  | .lst ds => k ds
  | _ => .bad
theorem qr0 {vs : List V} {ds : List D} (h : QR g Mt U0 H0 U σ H ε 0 vs ds) : ∃ A es vs' xs, vs = .ref A :: vs' ∧ ds = .lst es :: xs ∧ Pnd g Mt U0 H0 U σ H ε A es ∧ DenL g U H vs' xs := by
  cases h with
  | here p k => exact ⟨_, _, _, _, rfl, rfl, p, k⟩
theorem SQ.sstep {n : Nat} {t : TA} {m : Tr (List D)} {k : List D → Tr (Fl W L)} {Ds : Ends} {Q : List V → Hp → Prop} (he : SQ g E ε n t m) (s : Stt g Mt U0 H0 U σ H b ε) (h : Al (flP g Mt U0 H0 U H Ds env envL) (exS g Mt U0 H0 E) (bd m k) b)
    (hk : ∀ vs ds U' H1 b1, QR g Mt U0 H0 U' σ H1 ε n vs ds → Stt g Mt U0 H0 U' σ H1 b1 ε → Al (flP g Mt U0 H0 U' H1 Ds env envL) (exS g Mt U0 H0 E) (k ds) b1 → Q vs H1) : t σ H Q :=
  he Mt U0 H0 U σ H b Q s ((al_bd.mp h).mono (fun ds b1 h1 vs U' H' qr ev s1 => hk vs ds U' H' b1 qr s1 (h1.mono (fun _ _ z => z.ev ev) (fun _ _ _ z => z))) (fun _ _ _ h => h))
theorem ss_par2q0 {i j : Nat} {t : TA} {m : Tr (List D)} {k : List D → D → Tr (Fl W L)} (he : SQ g E ε 0 t m) (hk : ∀ ds y, SS g E ((ε.set i (.ow ds)).set j (.fz y)) u env envL (k ds y)) :
    SS g E ε (tSeq (tPar i j t) u) env envL (bd m (ul2 fun x y => uoD (fun ds => k ds y) x)) := fun Mt U0 H0 U D σ H b s q =>
  he.sstep s q fun vs ds U' H1 b1 qr s1 q1 => by
    obtain ⟨x, y, rfl, q2⟩ := al_ul2 q1
    obtain ⟨A, es, vs', xs, rfl, e, p, dl⟩ := qr0 qr
    cases e
    obtain ⟨v2, rfl, d2⟩ := denL_1 dl
    exact ⟨_, _, rfl, hk es y Mt U0 H0 U' D _ H1 b1 ((own_place i s1 p).set j d2) q2⟩
end
end Gp
end
section
set_option Elab.async false
set_option linter.all false
set_option maxRecDepth 100000
set_option maxHeartbeats 4000000
namespace Gp
open PySem PySem.Spec PyProof.Rows L2 Gh
section
variable {prog : Program} {w : World} {M : Model} {A : Around} {E : Value → Shared → Prop} {s : Shared} {K : PySem.W.Frag} {x C C2 L f : Addr} {h₀ h : Heap} {m : Str → Option Value} {ox : Obj} {od : Option Obj} {nm : String}
open PySem.W in
open PySem.W in
open PySem.W in
end
theorem dtB_ok {f : Str × Option Str} {i : Nat} {K : PySem.W.Frag} (h : dtB f i K = true) : ∀ H' : Hp, SqT K H' (He.dflAt f i K) [] := fun H' => by
  unfold dtB at h
  split at h
  · rename_i o ho
    obtain ⟨h1, h2⟩ := He.ba h
    split at h2
    · rename_i its n hd
      have e : its.toList = [] := List.isEmpty_iff.mp h2
      refine .inr ⟨o, its, n, ho, beq_iff_eq.mp h1, hd, ?_, by rw [e]; exact .nil⟩
      rw [← Array.length_toList, e]
      exact Nat.zero_le _
    · cases h2
  · cases h
theorem den_dt {g : Gw} {U : Addr → Prop} {H : Hp} {a : Addr} (h : ∀ H' : Hp, SqT g.K H' a []) : Den g U H (.ref a) (.tup []) := .tupW h (Nat.zero_le _) .nil
end Gp
end
section
set_option Elab.async false
set_option linter.all false
set_option maxRecDepth 100000
set_option maxHeartbeats 4000000
namespace Gp
open PySem PySem.Spec PyProof.Rows L2 Gh
abbrev TSF : Type := Addr → Value → Option Addr → TS
def wMK (K : PySem.W.Frag) (Wout : WX) (D : Ends) : List (Value × Option Nat × TSF) → WX
  | [] => Wout
  | (c, some i, ts) :: r => fun cls d σ H => ∃ b, PySem.W.exmOne K cls c = some b ∧ (b = true → ∃ C dd, cls = .ref C ∧ d = some dd ∧ ∀ a, H a = none → ts a cls d { nx := fun σ' H' => H' a = none → D.nx (σ'.set i none) (upd H' a (exk a C dd)), rt := D.rt, bk := fun σ' H' => D.bk (σ'.set i none) H', ct := fun σ' H' => D.ct (σ'.set i none) H' } (σ.set i (some (.ref a))) H) ∧
    (b = false → wMK K Wout D r cls d σ H)
  | (c, none, ts) :: r => fun cls d σ H => ∃ b, PySem.W.exmOne K cls c = some b ∧ (b = true → ∀ a, H a = none → ts a cls d D σ H) ∧ (b = false → wMK K Wout D r cls d σ H)
inductive HdsK (X : Cx) : List ExceptHandler → List (Value × Option Nat × TSF) → Prop
  | nil : HdsK X [] []
  | as {x n : Str} {c : Value} {i : Nat} {ts : TSF} {b₀ : Stmt} {suite : List Stmt} {np pos' : Pos} {hds : List ExceptHandler} {l : List (Value × Option Nat × TSF)} (hi : X.N[i]? = some n) (hln : X.env.kindOf n = some .local) (hc : Names X x c)
      (hsu : ∀ (a : Addr) (oe : Obj) (cls : Value) (d : Option Addr) (pn : List (Addr × Obj)), Zc cls d oe → (∃ vs, oe.data = .fields vs) → PSs (X.suite a ((a, oe) :: pn)) (b₀ :: suite) (ts a cls d)) (r : HdsK X hds l) :
      HdsK X (.ExceptHandler (some (.Name x np)) (some n) (b₀ :: suite) pos' :: hds) ((c, some i, ts) :: l)
  | no {x : Str} {c : Value} {ts : TSF} {b₀ : Stmt} {suite : List Stmt} {np pos' : Pos} {hds : List ExceptHandler} {l : List (Value × Option Nat × TSF)} (hc : Names X x c)
      (hsu : ∀ (a : Addr) (oe : Obj) (cls : Value) (d : Option Addr) (pn : List (Addr × Obj)), Zc cls d oe → (∃ vs, oe.data = .fields vs) → PSs (X.suite a ((a, oe) :: pn)) (b₀ :: suite) (ts a cls d)) (r : HdsK X hds l) :
      HdsK X (.ExceptHandler (some (.Name x np)) none (b₀ :: suite) pos' :: hds) ((c, none, ts) :: l)
section
variable {X : Cx} {body : List Stmt} {h₀ : ExceptHandler} {hds : List ExceptHandler} {l : List (Value × Option Nat × TSF)} {pos : Pos} {tb : WX → TS} {Wout : WX}
theorem ps_try_mk (hex : X.ex = []) (hs : X.stack = X.env :: X.outer) (hf : X.env.frame = some X.env.locals) (hN : X.N.Nodup) (tk : Takes X Wout)
    (hb : ∀ (W : WX) (pn : List (Addr × Obj)) (xe : Value → Shared → Prop), Takes (X.tr pn xe) W → PassesOwn (model X.prog X.w) X.A X.env xe → PSs (X.tr pn xe) body (tb W))
    (hh : HdsK X (h₀ :: hds) l) : PS X (.Try body (h₀ :: hds) [] [] pos) (fun D σ H => tb (wMK X.K Wout D l) D σ H) := by
  refine ⟨fun pins s σ H D I h => ?_⟩
  have ok := I.ok
  have hfr : X.A.frames = some (X.env :: X.outer) := by rw [ok.frames, hs]
  refine wpAny_Try_except ?_
  refine wpAny_mono ((hb (wMK X.K Wout D l) (X.pn ++ pins) (fun e s₁ => wpAny (model X.prog X.w) X.A (noteFrame e X.env) (fun _ s₂ => wpAny (model X.prog X.w) X.A (setFlight e none) (fun _ s₃ =>
    wpAny (model X.prog X.w) X.A (handleBy e X.env (h₀ :: hds)) (SP X pins D) X.xe s₃) X.xe s₂) X.xe s₁) (fun u s' xx => ?_) PassesOwn.looking).run [] s σ H D (I.toTry _) h) (fun f s1 hsp => ?_) (fun e s1 he => he)
  · -- the catch
    obtain ⟨a, B, sI, pins', σ', H', cls, d, rfl, J', nb, up, sky, na, os, ag, w⟩ := xx
    have nB : B.get? a = none := by
      rcases sky with z | z | z
      · exact z.2.1
      · exact z.2.1
      · exact z.2.1
    have J : Inv X pins σ' H' sI := J'.ofTry ok
    have sky' : Sky B (X.env :: X.outer) a (Zc cls d) X.env.locals s'.heap := by rw [← hs]; exact sky
    show wpAny (model X.prog X.w) X.A (noteFrame (.ref a) X.env) _ _ _
    refine Sky.land Zc.steady hfr hf sky' fun h3 fl3 up3 => ?_
    have J3 : Inv X pins σ' H' { s' with heap := h3 } := J.landed nb fl3.1 (up.trans up3) os ag
    obtain ⟨oe3, vs3, he3, hz3, hd3⟩ := fl3.there
    have notFr : ∀ {h : Heap} {o : Obj} {vs : Array Value}, h.FunFrames B (X.env :: X.outer) → h.get? a = some o → o.data = .fields vs → a ∉ frs (X.env :: X.outer) := fun {h o vs} ff e dd hm => by
      obtain ⟨_, o', e', hnf⟩ := ff.mem hm
      rw [e] at e'; cases e'
      exact hnf _ dd
    have nfr := notFr fl3.2.2.1 he3 hd3
    have nL : a ≠ X.env.locals := fun z => nfr (List.mem_filterMap.mpr ⟨X.env, List.mem_cons_self, by rw [hf, z]⟩)
    have nF : a ∉ X.fs := fun hm => by
      obtain ⟨e, he, q⟩ := List.mem_filterMap.mp hm
      exact nfr (List.mem_filterMap.mpr ⟨e, List.mem_cons_of_mem _ he, q⟩)
    have nsI : sI.heap.get? a = none := by
      cases q : sI.heap.get? a with
      | none => rfl
      | some o =>
        have z := nb a o q (by rw [hs]; exact nfr)
        rw [nB] at z
        cases z
    have n0 : X.s_0.heap.get? a = none := by
      cases q : X.s_0.heap.get? a with
      | none => rfl
      | some o =>
        obtain ⟨o', z⟩ := J.base.there a o q (by rw [hex]; simp)
        rw [nsI] at z
        cases z
    have nP : ∀ p ∈ X.pn ++ pins, p.1 ≠ a := fun p hp z => by
      have y := (J.pin p hp).1
      rw [z, nsI] at y
      cases y
    have nC : ∀ x c, X.env.cells.lookup x = some c → c ≠ a := fun x c hx z => by
      obtain ⟨v, y⟩ := J.cell x c hx
      obtain ⟨o, y1, _⟩ := y
      rw [z, nsI] at y1
      cases y1
    have S3 := J3.suite he3 hd3 na nL nF
    have go : ∀ {hds' : List ExceptHandler} {l' : List (Value × Option Nat × TSF)}, HdsK X hds' l' → wMK X.K Wout D l' cls d σ' H' →
        wpAny (model X.prog X.w) X.A (handleBy (.ref a) X.env hds') (SP X pins D) X.xe { s' with heap := h3 } := by
      intro hds' l' hk
      induction hk with
      | nil =>
        intro w
        refine wpAny_handleBy_nil ?_
        obtain ⟨k1, k2, k3, oe, vs, T, oT, ts', he, hz, hd, h1, hr⟩ := id fl3
        unfold PySem.passOn
        refine wpAny_bind (wpAny_field he hd h1 ?_)
        rw [if_neg (show ¬ ((Value.ref T == Value.none) = true) from by simp)]
        have fin : wpAny (model X.prog X.w) X.A (setFlight (.ref a) X.env.frame) (fun _ s4 => wpAny (model X.prog X.w) X.A (throw (.ref a) : Sem Flow) (SP X pins D) X.xe s4) X.xe { s' with heap := h3 } := by
          rw [hf]
          refine HandSPX.setFlight_upZ fl3 fun h4 hh4 up4 => wpAny_throw (tk _ _ ?_)
          exact ⟨a, B, sI, pins, σ', H', cls, d, rfl, J, nb, (up.trans up3).trans up4, .inr (.inr (by rw [hs]; exact hh4)), na, os, ag, w⟩
        first
          | exact wpAny_bind (wpAny_pure (wpAny_bind fin))
          | exact wpAny_bind fin

      | @as x n c i ts b₀ suite np pos' hds2 l2 hi hln hc hsu r ih =>
        intro w
        obtain ⟨b, hb1, hyes, hno⟩ := w
        have hloc : Loc X.env.scope n := .inl hln
        refine wpAny_handleBy_cons (codeAny_handlers_test ?_) (by intro q; cases q)
        have LT : PySem.W.Looks (model X.prog X.w) h3 (typeOf (.ref a)) cls := fun A Q E s k q => wpAny_typeOf_ref (k _ _ he3) (by rw [hz3.1]; exact q)
        have LM := PySem.W.exm_one (M := model X.prog X.w) (J3.kIn) LT hb1
        have test : ∀ {Q : Value → Shared → Prop} {E : Value → Shared → Prop}, Q c { s' with heap := h3 } → wpAny (model X.prog X.w) (X.A.mark (some (.ref a))) (eval (.Name x np) X.env) Q E { s' with heap := h3 } := fun {Q E} q => by
          obtain ⟨hg, hdbg, hm | ⟨hm, hv, hnn⟩⟩ := hc
          · exact ld_glob (X := X.suite a ((a, oe3) :: (X.pn ++ pins))) S3 hg hm q hdbg
          · exact ld_blt (X := X.suite a ((a, oe3) :: (X.pn ++ pins))) S3 hg hm hv q hnn hdbg

        refine test (LM.here ?_)
        cases b with
        | true =>
          refine codeAny_handlers_suite_as ?_
          obtain ⟨C, dd, ecls, edd, hys⟩ := hyes rfl
          subst ecls
          subst edd
          refine HandSPX.lands_againZ fl3 fun h4 fl4 up4 => ?_
          have J4 : Inv X pins σ' H' { s' with heap := h4 } := J.landed nb fl4.1 ((up.trans up3).trans up4) os ag
          obtain ⟨oe4, vs4, he4, hz4, hd4⟩ := fl4.there
          have S4 := J4.suite he4 hd4 na nL nF
          refine store_ok (X := X.suite a ((a, oe4) :: (X.pn ++ pins))) (v := .ref a) S4 hN hi hloc rfl (fun s5 S5 => ?_) (.inr hln)
          refine wpAny_mono ((hsu a oe4 _ _ (X.pn ++ pins) hz4 ⟨_, hd4⟩).run [] s5 _ H' _ S5 (hys a na)) (fun f s6 hsp => ?_) (fun _ _ z => False.elim z)
          have end_ : ∀ {σ6 : L2.St} {H6 : Hp} {Q : Shared → Prop}, Inv (X.suite a ((a, oe4) :: (X.pn ++ pins))) [] σ6 H6 s6 → (∀ s7, Inv X pins (σ6.set i none) H6 s7 → Q s7) →
              wpAny (model X.prog X.w) X.A (do bindName X.env n .none; unbindBehindTheSuite X.env n pos') (fun _ s7 => Q s7) X.xe s6 := fun {σ6 H6 Q} S6 hq => gone_ok (S6.unsuite ok) hN hi hln hq
          cases f with
          | next =>
            obtain ⟨σ6, H6, S6, q6⟩ := hsp
            obtain ⟨ha6, hn6, _⟩ := S6.pin (a, oe4) (List.mem_append_left _ List.mem_cons_self)
            have J6 : Inv X pins σ6 (upd H6 a (exk a C dd)) s6 := inv_track (S6.unsuite ok) hn6 n0 nL nC nP (exk_ok ha6 hz4.1 hz4.2 hd4)
            exact gone_ok J6 hN hi hln fun s7 J7 => ⟨_, _, J7, q6 hn6⟩
          | brk =>
            obtain ⟨σ6, H6, S6, q6⟩ := hsp
            exact end_ S6 fun s7 J7 => ⟨_, _, J7, q6⟩
          | cont =>
            obtain ⟨σ6, H6, S6, q6⟩ := hsp
            exact end_ S6 fun s7 J7 => ⟨_, _, J7, q6⟩
          | ret u =>
            obtain ⟨v6, σ6, H6, S6, r6, q6⟩ := hsp
            exact end_ S6 fun s7 J7 => ⟨_, _, _, J7, r6, q6⟩

        | false =>
          show wpAny _ X.A (handleBy (.ref a) X.env hds2) _ _ _
          exact ih (hno rfl)
      | @no x c ts b₀ suite np pos' hds2 l2 hc hsu r ih =>
        intro w
        obtain ⟨b, hb1, hyes, hno⟩ := w
        refine wpAny_handleBy_cons (codeAny_handlers_test ?_) (by intro q; cases q)
        have LT : PySem.W.Looks (model X.prog X.w) h3 (typeOf (.ref a)) cls := fun A Q E s k q => wpAny_typeOf_ref (k _ _ he3) (by rw [hz3.1]; exact q)
        have LM := PySem.W.exm_one (M := model X.prog X.w) (J3.kIn) LT hb1
        have test : ∀ {Q : Value → Shared → Prop} {E : Value → Shared → Prop}, Q c { s' with heap := h3 } → wpAny (model X.prog X.w) (X.A.mark (some (.ref a))) (eval (.Name x np) X.env) Q E { s' with heap := h3 } := fun {Q E} q => by
          obtain ⟨hg, hdbg, hm | ⟨hm, hv, hnn⟩⟩ := hc
          · exact ld_glob (X := X.suite a ((a, oe3) :: (X.pn ++ pins))) S3 hg hm q hdbg
          · exact ld_blt (X := X.suite a ((a, oe3) :: (X.pn ++ pins))) S3 hg hm hv q hnn hdbg

        refine test (LM.here ?_)
        cases b with
        | true =>
          refine codeAny_handlers_suite ?_
          refine HandSPX.lands_againZ fl3 fun h4 fl4 up4 => ?_
          have J4 : Inv X pins σ' H' { s' with heap := h4 } := J.landed nb fl4.1 ((up.trans up3).trans up4) os ag
          obtain ⟨oe4, vs4, he4, hz4, hd4⟩ := fl4.there
          have S4 := J4.suite he4 hd4 na nL nF
          refine wpAny_mono ((hsu a oe4 cls d (X.pn ++ pins) hz4 ⟨_, hd4⟩).run [] _ _ H' _ S4 (hyes rfl a na)) (fun f s6 hsp => ?_) (fun _ _ z => False.elim z)
          cases f with
          | next =>
            obtain ⟨σ6, H6, S6, q6⟩ := hsp
            exact ⟨_, _, S6.unsuite ok, q6⟩
          | brk =>
            obtain ⟨σ6, H6, S6, q6⟩ := hsp
            exact ⟨_, _, S6.unsuite ok, q6⟩
          | cont =>
            obtain ⟨σ6, H6, S6, q6⟩ := hsp
            exact ⟨_, _, S6.unsuite ok, q6⟩
          | ret u =>
            obtain ⟨v6, σ6, H6, S6, r6, q6⟩ := hsp
            exact ⟨_, _, _, S6.unsuite ok, r6, q6⟩
        | false =>
          show wpAny _ X.A (handleBy (.ref a) X.env hds2) _ _ _
          exact ih (hno rfl)
    exact go hh w
  · cases f with
    | next =>
      obtain ⟨σ', H', J', q⟩ := hsp
      exact wpAny_execs_nil ⟨σ', H', J'.ofTry ok, q⟩
    | brk =>
      obtain ⟨σ', H', J', q⟩ := hsp
      exact ⟨σ', H', J'.ofTry ok, q⟩
    | cont =>
      obtain ⟨σ', H', J', q⟩ := hsp
      exact ⟨σ', H', J'.ofTry ok, q⟩
    | ret u =>
      obtain ⟨v, σ', H', J', r, q⟩ := hsp
      exact ⟨v, σ', H', J'.ofTry ok, r, q⟩
end
end Gp
end
section
set_option Elab.async false
set_option linter.all false
set_option maxRecDepth 100000
set_option maxHeartbeats 4000000
namespace Gp
open PySem PySem.Spec PyProof.Rows L2 Gh
def ItH.te (a : Addr) (cls : Value) (d : Option Addr) (C : Addr) (i : Nat) : ItH → TE
  | .s x => tC (.str x)
  | .n k => tC (.int k)
  | .f x => tXf a cls d C x (tVar i)
def itHs (a : Addr) (cls : Value) (d : Option Addr) (C : Addr) (i : Nat) : List ItH → TA
  | [] => tNil
  | x :: r => tCons (x.te a cls d C i) (itHs a cls d C i r)
def itsD (fs : Fs) : List ItH → Option (List D)
  | [] => some []
  | x :: r => match x.d fs, itsD fs r with
    | some d, some ds => some (d :: ds)
    | _, _ => none
def noF : List ItH → Bool
  | [] => true
  | .f _ :: _ => false
  | _ :: r => noF r
abbrev Cl := Str × Option Nat × List ItH
def clTS (K : PySem.W.Frag) (j : Nat) (c : Cl) : Value × Option Nat × TSF := (.ref (gd c.1 K), c.2.1, fun a cls d => tAsg (tLst (itHs a cls d (gd c.1 K) (c.2.1.getD 0) c.2.2)) (gName j))
def pickC (ex : Str → Str → Option Bool) : List Cl → Str → Fs → Tr D
  | [], _, _ => .bad
  | (cn, oi, its) :: r, cl, fs => match ex cl cn with
    | none => .bad
    | some true => if (noF its || (cl == cn && oi.isSome)) = true then (match itsD fs its with
      | some ds => if ds.length ≤ sizeLine then .ok (.lst ds) else .bad
      | none => .bad) else .bad
    | some false => pickC ex r cl fs
section
variable {g : Gw} {U : Addr → Prop} {H H' : Hp} {b : Nat} {σ : L2.St} {ε : Env}
theorem it_run {a C dd : Addr} {cls : Value} {i : Nat} {fvs : List (Str × V)} {fs : Fs} (hd : H dd = some (.xd fvs)) (df : DenF g U H fvs fs) :
    ∀ {its : List ItH} {ds : List D} {Q : List V → Hp → Prop}, (noF its = true ∨ (cls = .ref C ∧ σ[i]? = some (some (.ref a)))) → itsD fs its = some ds → (∀ vs, DenL g U H vs ds → Q vs H) → itHs a cls (some dd) C i its σ H Q
  | [], ds, Q, _, e, q => by
    cases e
    exact q [] .nil
  | x :: r, ds, Q, hf, e, q => by
    unfold itsD at e
    cases e1 : x.d fs with
    | none => rw [e1] at e; cases e
    | some d =>
      cases e2 : itsD fs r with
      | none => rw [e1, e2] at e; cases e
      | some es =>
        rw [e1, e2] at e
        cases e
        have hr : noF r = true ∨ (cls = .ref C ∧ σ[i]? = some (some (.ref a))) := by
          rcases hf with h | h
          · cases x with
            | f y => cases h
            | s y => exact .inl h
            | n y => exact .inl h
          · exact .inr h
        cases x with
        | s y =>
          simp only [ItH.d] at e1
          split at e1
          · rename_i hl
            cases e1
            show itHs a cls (some dd) C i r σ H (fun xs H2 => Q (V.str y :: xs) H2)
            exact it_run hd df hr e2 fun vs dl => q _ (.cons (.str y hl) dl)
          · cases e1
        | n y =>
          cases e1
          show itHs a cls (some dd) C i r σ H (fun xs H2 => Q (V.int y :: xs) H2)
          exact it_run hd df hr e2 fun vs dl => q _ (.cons (.int y) dl)
        | f y =>
          rcases hf with h | ⟨h1, h2⟩
          · cases h
          · obtain ⟨v, hv, dn⟩ := df.look e1
            have z : itHs a cls (some dd) C i r σ H (fun xs H2 => Q (v :: xs) H2) := it_run hd df hr e2 fun vs dl => q _ (.cons dn dl)
            exact ⟨_, h2, rfl, h1, dd, fvs, v, rfl, hd, hv, z⟩
theorem fz_no {n : Nat} : Fz (List.replicate n .no) := fun s h => .inr (List.mem_replicate.mp h).2
theorem rel_no {n : Nat} (hl : σ.length = n) : Rel g U H σ (List.replicate n .no) := by
  refine ⟨by rw [List.length_replicate]; exact hl, fun i s e => ?_, fun _ _ _ _ h1 _ => (fz_no.own _ _ h1).elim⟩
  rw [List.getElem?_replicate] at e
  split at e
  · rename_i hk
    cases e
    exact ⟨_, List.getElem?_eq_getElem (by rw [hl]; exact hk), trivial⟩
  · cases e
theorem rel_fz {j : Nat} {v : V} {d : D} (R : Rel g U H σ ε) (h : Fz ε) (hj : j < σ.length) (dn : Den g U H v d) : Rel g U H (σ.set j (some v)) (ε.set j (.fz d)) := by
  refine ⟨by simp only [List.length_set]; exact R.len, fun k s e => ?_, fun _ _ _ _ h1 _ => (h.set.own _ _ h1).elim⟩
  by_cases q : j = k
  · subst q
    rw [List.getElem?_set_self (by rw [← R.len]; exact hj)] at e
    cases e
    exact ⟨_, List.getElem?_set_self hj, _, rfl, dn⟩
  · rw [List.getElem?_set_ne q] at e
    obtain ⟨o, h1, h2⟩ := R.at_ k s e
    exact ⟨o, by rw [List.getElem?_set_ne q]; exact h1, h2⟩
theorem clausesM {n j : Nat} {trest : TS} {mrest : D → Tr (Fl Unit Empty)} {envU : Unit → Env} {ex : Str → Str → Option Bool} {Wout : WX} {Q : VK} (hj : j < n)
    (hex : ∀ cl cn b, ex cl cn = some b → PySem.W.exmOne g.K (.ref (gd cl g.K)) (.ref (gd cn g.K)) = some b)
    (hs : ∀ d, SS g EF ((List.replicate n Sl.no).set j (.fz d)) trest envU envE (mrest d)) (u : UOk g U H) :
    ∀ {cs : List Cl}, (∀ c ∈ cs, ∀ i, c.2.1 = some i → i < n ∧ i ≠ j) → ∀ cls d σ' H', ExH g U H Q (fun cl fs => bd (pickC ex cs cl fs) fun v => nox (fin (mrest v))) cls d H' → σ'.length = n →
      wMK g.K Wout { nx := trest { nx := fun _ H' => Q .non H', rt := Q }, rt := Q } (cs.map (clTS g.K j)) cls d σ' H'
  | [], _, cls, d, σ', H', ⟨cl, fs, b1, dd, fvs, _, _, _, _, _, _, _, al⟩, _ => al.elim
  | (cn, oi, its) :: r, hcs, cls, d, σ', H', ⟨cl, fs, b1, dd, fvs, ecls, ed, hd, nd, df, wd, f, al⟩, hl => by
    subst ecls
    subst ed
    have al' : Al (okP g U H Q) (fun _ _ _ => False) (bd (pickC ex ((cn, oi, its) :: r) cl fs) fun v => nox (fin (mrest v))) b1 := al
    unfold pickC at al'
    have go : ∀ (ds : List D) (a p : Addr) (vs : List V) (σ2 : L2.St) (H2 : Hp), DenL g U H' vs ds → vs.length ≤ sizeLine → H2 p = some (.lst vs) → ¬ U p → L2.Same H' H2 → σ2.length = n → Al (okP g U H Q) (fun _ _ _ => False) (nox (fin (mrest (.lst ds)))) b1 →
        trest { nx := fun _ H' => Q .non H', rt := Q } (σ2.set j (some (.ref p))) H2 := fun ds a p vs σ2 H2 dl len hp np s hl2 al2 => by
      have u' := u.fr f wd
      exact run_rest (hs (.lst ds)) (rel_fz (rel_no hl2) fz_no (by rw [hl2]; exact hj) (.lst hp np len (dl.ext (u'.extU (fr_same s))))) fz_no.set.own (wd.same s) (u'.fr (fr_same s) (wd.same s)) (f.trans (fr_same s)) (al_nox al2)
    cases e : ex cl cn with
    | none =>
      rw [e] at al'
      exact al'.elim
    | some y =>
      rw [e] at al'
      have hx := hex _ _ _ e
      cases y with
      | false =>
        have al2 : Al (okP g U H Q) (fun _ _ _ => False) (bd (pickC ex r cl fs) fun v => nox (fin (mrest v))) b1 := al'
        have ih := clausesM (Wout := Wout) hj hex hs u (cs := r) (fun c hc => hcs c (List.mem_cons_of_mem _ hc)) (.ref (gd cl g.K)) (some dd) σ' H' ⟨cl, fs, b1, dd, fvs, rfl, rfl, hd, nd, df, wd, f, al2⟩ hl
        cases oi with
        | none => exact ⟨false, hx, (fun z => by cases z), fun _ => ih⟩
        | some i => exact ⟨false, hx, (fun z => by cases z), fun _ => ih⟩
      | true =>
        have al2 : Al (okP g U H Q) (fun _ _ _ => False) (bd (if (noF its || (cl == cn && oi.isSome)) = true then (match itsD fs its with
          | some ds => if ds.length ≤ sizeLine then .ok (.lst ds) else .bad
          | none => .bad) else .bad) fun v => nox (fin (mrest v))) b1 := al'
        split at al2
        · rename_i hc
          cases e3 : itsD fs its with
          | none =>
            rw [e3] at al2
            exact al2.elim
          | some ds =>
            rw [e3] at al2
            have al3 : Al (okP g U H Q) (fun _ _ _ => False) (bd (if ds.length ≤ sizeLine then .ok (.lst ds) else .bad) fun v => nox (fin (mrest v))) b1 := al2
            split at al3
            · rename_i hlen
              have al4 : Al (okP g U H Q) (fun _ _ _ => False) (nox (fin (mrest (.lst ds)))) b1 := al3
              have u' := u.fr f wd
              cases oi with
              | none =>
                refine ⟨true, hx, fun _ a na => ?_, (fun z => by cases z)⟩
                have hf : noF its = true := by simpa using hc
                refine it_run (i := 0) hd df (.inl hf) e3 fun vs dl => ⟨by rw [dl.length]; exact hlen, fun p np => ?_⟩
                exact go ds a p vs σ' _ dl (by rw [dl.length]; exact hlen) upd_same (u'.new np) (same_new np) hl al4
              | some i =>
                obtain ⟨hi, hij⟩ := hcs _ List.mem_cons_self i rfl
                refine ⟨true, hx, fun _ => ⟨_, dd, rfl, rfl, fun a na => ?_⟩, (fun z => by cases z)⟩
                have hf : noF its = true ∨ ((Value.ref (gd cl g.K)) = .ref (gd cn g.K) ∧ (σ'.set i (some (.ref a)))[i]? = some (some (.ref a))) := by
                  simp only [Bool.or_eq_true, Bool.and_eq_true, beq_iff_eq] at hc
                  rcases hc with h | ⟨h, _⟩
                  · exact .inl h
                  · exact .inr ⟨by rw [h], List.getElem?_set_self (by rw [hl]; exact hi)⟩
                refine it_run (i := i) hd df hf e3 fun vs dl => ⟨by rw [dl.length]; exact hlen, fun p np => ?_⟩
                show (upd H' p (.lst vs)) a = none → _
                intro na'
                have hpa : p ≠ a := fun z => by
                  subst z
                  rw [upd_same] at na'
                  cases na'
                show trest _ (((σ'.set i (some (.ref a))).set j (some (.ref p))).set i none) _
                rw [List.set_comm _ _ (fun z => hij z.symm), List.set_set]
                refine go ds a p vs _ _ dl (by rw [dl.length]; exact hlen) ?_ (u'.new np) ((same_new np).trans (same_new na')) (by rw [List.length_set]; exact hl) al4
                rw [upd_ne hpa]
                exact upd_same
            · exact al3.elim
        · exact al2.elim
theorem heardM2 {N : List Str} {f c' : Addr} {q : Str} {tl : XK → Hp → VK → Prop} {m : Tr D} {n i j : Nat} {trest : TS} {mN : D → Tr (Fl Unit Empty)} {mE : D → Tr (Fl Unit Empty)} {envU : Unit → Env} {ex : Str → Str → Option Bool} {cs : List Cl} {Wout : WX} {Q : VK}
    (hn : (L2.start N [V.ref f]).length = n) (hi : i < n) (hi0 : i ≠ 0) (hj : j < n) (hj0 : j ≠ 0) (hij : i ≠ j) (hcs : ∀ c ∈ cs, ∀ i, c.2.1 = some i → i < n ∧ i ≠ j)
    (hex : ∀ cl cn b, ex cl cn = some b → PySem.W.exmOne g.K (.ref (gd cl g.K)) (.ref (gd cn g.K)) = some b)
    (hsN : ∀ d, SS g EF (((List.replicate n Sl.no).set i (.fz d)).set j (.fz .non)) trest envU envE (mN d)) (hs : ∀ d, SS g EF ((List.replicate n Sl.no).set j (.fz d)) trest envU envE (mE d))
    (hc : H c' = some (LamX.CodeO c' q)) (ha : ∀ (E : XK) H' b' Q', Fr H H' g.p → Wd g H' b' → Al (okP g U H' Q') (exP g U E H') m b' → tl E H' Q')
    (wd : Wd g H b) (u : UOk g U H) (al : Al (okP g U H Q) (fun _ _ _ => False) (tryT m (fun d => nox (fin (mN d))) (fun cl fs => bd (pickC ex cs cl fs) fun v => nox (fin (mE v)))) b) :
    tSeq (tAsg (tTup (tCons (tC .non) (tCons (tC .non) tNil))) (gTup g.K 2 (gCons (gName i) (gCons (gName j) gNil)))) (tSeq (fun D σ H => tTry n (fun E => tAsg (tAct f c' q (tl E)) (gName i)) (wMK g.K Wout D (cs.map (clTS g.K j))) D σ H) trest) { nx := fun _ H' => Q .non H', rt := Q } (L2.start N [.ref f]) H := by
  refine ⟨by show 2 ≤ sizeLine; decide, fun p0 np0 => ⟨p0, [.non, .non], rfl, SqT.of upd_same, rfl, .non, _, rfl, .non, _, rfl, rfl, ?_⟩⟩
  have s0 : L2.Same H (upd H p0 (.tup [.non, .non])) := same_new np0
  have wd0 := wd.same s0
  have u0 := u.fr (fr_same s0) wd0
  have al0 := al.mono (P' := okP g U (upd H p0 (.tup [.non, .non])) Q) (E' := fun _ _ _ => False) (fun _ _ z => z.fr (fr_same s0)) (fun _ _ _ z => z)
  refine ⟨ExH g U (upd H p0 (.tup [.non, .non])) Q (fun cl fs => bd (pickC ex cs cl fs) fun v => nox (fin (mE v))), clausesM hj hex hs u0 hcs, ?_⟩
  refine ⟨by rw [List.getElem?_set_ne hj0, List.getElem?_set_ne hi0]; rfl, s0 _ _ hc, ?_⟩
  refine ha _ (upd H p0 (.tup [.non, .non])) b _ (fr_same s0) wd0 ((al_try.mp al0).mono (fun d b1 h v H1 dn w1 f1 => ?_) (fun cl fs b1 h dd fvs H' e1 e2 e3 e4 e5 => ⟨cl, fs, b1, dd, fvs, rfl, rfl, e1, e2, e3, e4, e5, h⟩))
  show trest _ ((((L2.start N [.ref f]).set i (some .non)).set j (some .non)).set i (some v)) H1
  rw [List.set_comm _ _ (fun z => hij z.symm), List.set_set]
  exact run_rest (hsN d) (rel_fz (rel_fz (rel_no hn) fz_no (by rw [hn]; exact hi) dn) fz_no.set (by rw [List.length_set, hn]; exact hj) .non) fz_no.set.set.own w1 (u0.fr f1 w1) f1 (al_nox h)
end
theorem fnO1 {P : Program} {w : World} {K : PySem.W.Frag} {mg : Str → Option Value} {base : Heap} {CX : CXT} {k : Nat} {f : Addr} {fd : FuncData} {ps : List Str} {sp : Sp} {dvs : List V} {x qual : Str} {params : Arguments} {body : List Stmt} {scope : Scope} {kws : List (Str × V)} {N : List Str}
    (F : FunD K x qual params body scope dvs kws f fd) (S : FnScope N ps scope) (len : ∀ vs H Q E, sp vs H Q E → vs.length = ps.length)
    (hbody : ∀ (cdv : Value) (A : Around) (outer : List PySem.Env) (s : Shared) (H : Hp) (vs : List V) (Q : VK) (E : XK), cdv = fd.code → Room k (A.deeper (envOfC qual scope s.heap.objs.size f cdv)) → sp vs H Q E →
      ∃ t, PSs (cxOf CX P w K mg base N qual scope f cdv A outer s H E).nox body t ∧ t { nx := fun _ H' => Q .non H', rt := Q } (L2.start N vs) H) : FnOk P w K mg base CX (k + 1) f fd ps sp := by
  obtain ⟨oc, od, dV, kV, doc, pm, an, cdv, ct, osl, rfl, lk, hcd, _, _⟩ := F.ex
  refine ⟨len, fun A outer s H args us vs Q E hr e0 hb r hsp => ?_⟩
  refine LamX.run_ofS (N := N) (ps := ps) lk hcd S hr e0 hb r (len _ _ _ _ hsp) fun hr' => ?_
  obtain ⟨t, ht, q⟩ := hbody cdv A outer s H vs Q E rfl hr' hsp
  exact ⟨t, PSs.nox ht, q⟩
def HrdP (K : PySem.W.Frag) (d : Df) (ps : List Str) : Prop := ∃ fd, FnA K d fd ∧ L2.Binds K fd ps []
def qlOf (d : Df) (K : PySem.W.Frag) : Str := (envOfC d.qual (defScope d.st) 0 (d.adr K) .none).qual ++ "<lambda>"
structure LamD (base : Heap) (mg : Str → Option Value) (K : PySem.W.Frag) (Tb : List (Addr × Str)) (d : Df) (pn : He.Defn) : Prop where
  tb : LamX.TabB base mg (He.cT K pn).1 (He.cT K pn).2
  mem : ((He.cT K pn).2, qlOf d K) ∈ Tb
  hu : ∀ p ∈ Tb, p.1 = (He.cT K pn).2 → p.2 = qlOf d K
end Gp
end
section
set_option Elab.async false
set_option linter.all false
set_option maxRecDepth 100000
set_option maxHeartbeats 4000000
namespace GQ
open PySem PySem.SeqAt
open AutoSeq1 (wpAny_loadPart')
open MeetsSeq MeetsSeq2 MeetsSeq3 SeqRoads2
section
variable {prog : Program} {w : World} {A : Around} {R : Result → Shared → Prop}
theorem tuple_neB (l b : Addr) (items items2 : Array Value) (n n2 : Nat) (dd dd2 : Option Addr) (sl sl2 : Array (Option Value)) (I : Nat → Shared → Prop) (J : Shared → Prop)
    (turn : ∀ i (h1 : i < items.size) (h2 : i < items2.size) s, I i s → wpAny (model prog w) A.in1 (eqBool items[i] items2[i]) (fun r s' => if r = true then I (i + 1) s' else J s') (fun e s' => R (.error e) s') s)
    (fin : ∀ s, I (min items.size items2.size) s → R (.ok (.ret (.bool (items.size != items2.size)))) s) (ff : ∀ s, J s → R (.ok (.ret (.bool true))) s)
    {s : Shared} (hl1 : s.heap.get? l = some { cls := .type "tuple", dict := dd, data := .seq items n, slots := sl }) (hb1 : s.heap.get? b = some { cls := .type "tuple", dict := dd2, data := .seq items2 n2, slots := sl2 }) (h : I 0 s) :
    wpAny (model prog w) A.in1 (Builtin.«tuple.__ne__» ⟨[.ref l, .ref b], []⟩) (FinOf prog w A R) (fun e s' => R (.error e) s') s := by
  have f2 := AutoSeq1.sub_tuple_tuple
  have hZ : (items.toList.zip items2.toList).length = min items.size items2.size := by simp
  have h0 := h
  obtain ⟨hp, g, d, tk, os⟩ := s
  wp_walk using wpAny_loadPart' hl1, wpAny_loadPart' hb1, wpAny_forIn_list _ (fun rest b s' => b.1 = none ∧ ∃ i, rest = (items.toList.zip items2.toList).drop i ∧ i ≤ min items.size items2.size ∧ I i s') _
  case turn =>
    rintro ⟨y, x⟩ rest b s' ⟨hb', i, hz, hi, hI⟩
    have hlt : i < (items.toList.zip items2.toList).length := by
      rcases Nat.lt_or_ge i (items.toList.zip items2.toList).length with h' | h'
      · exact h'
      · rw [List.drop_of_length_le h'] at hz; cases hz
    have h1 : i < items.size := by omega
    have h2 : i < items2.size := by omega
    rw [List.drop_eq_getElem_cons hlt] at hz
    injection hz with hyx hrest
    have hy : y = items[i] := by have := congrArg Prod.fst hyx; simpa using this
    have hx : x = items2[i] := by have := congrArg Prod.snd hyx; simpa using this
    subst hy hx
    refine wpAny_bind (wpAny_mono (turn i h1 h2 s' hI) (fun r s2 q2 => ?_) fun _ _ x => x)
    cases r with
    | true =>
      have q3 : I (i + 1) s2 := q2
      wp_walk
      exact ⟨rfl, i + 1, hrest, by omega, q3⟩
    | false =>
      have q3 : J s2 := q2
      have hR := ff s2 q3
      wp_walk
      exact hR
  case fin =>
    rintro ⟨b1, b2⟩ s' ⟨hb', i, hz, hi, hI⟩
    simp only at hb'
    subst hb'
    have hge : min items.size items2.size ≤ i := by
      rcases Nat.lt_or_ge i (items.toList.zip items2.toList).length with h' | h'
      · rw [List.drop_eq_getElem_cons h'] at hz; cases hz
      · exact hZ ▸ h'
    have hi' : i = min items.size items2.size := by omega
    have hR := fin s' (hi' ▸ hI)
    wp_walk
    simpa [Builtin.Tuple.tupleCompareSizes, bne] using hR
  case h =>
    exact ⟨rfl, 0, rfl, Nat.zero_le _, h0⟩
end
section
variable {prog : Program} {w : World} {A : Around} {E : Value → Shared → Prop} {s : Shared}
theorem rc_tupN {l b : Addr} {items items2 : Array Value} {Q : Value → Shared → Prop} (hu : A.units < cLine) (I : Nat → Shared → Prop) (J : Shared → Prop)
    (hl : s.heap.IsTuple l items) (hb : s.heap.IsTuple b items2)
    (turn : ∀ i (h1 : i < items.size) (h2 : i < items2.size) s, I i s → wpAny (model prog w) A.in1 (eqBool items[i] items2[i]) (fun r s' => if r = true then I (i + 1) s' else J s') E s)
    (fin : ∀ s, I (min items.size items2.size) s → Q (.bool (items.size != items2.size)) s) (ff : ∀ s, J s → Q (.bool true) s) (h : I 0 s) : wpAny (model prog w) A (richCompare .NotEq (.ref l) (.ref b)) Q E s := by
  obtain ⟨⟨cls, dd, data, sl⟩, ho, hc, n, hd⟩ := id hl
  obtain ⟨⟨cls2, dd2, data2, sl2⟩, ho2, hc2, n2, hd2⟩ := id hb
  simp only at hc hd hc2 hd2
  subst hc hd hc2 hd2
  refine wpAny_richCompare_same_room (op := .NotEq) ⟨_, ho, rfl⟩ ⟨_, ho2, rfl⟩ F.slot_tuple_ne (call_here F.slot_tuple_ne ⟨_, ho, rfl⟩ F.entry_tuple_ne (F.args_tuple_ne_2 _ _) ?_) hu
  exact tuple_neB (R := wants (fun v s' => v ≠ .notImplemented ∧ Q v s') E) l b items items2 n n2 dd dd2 sl sl2 I J turn (fun s' q => ⟨(fun x => nomatch x), fin s' q⟩) (fun s' q => ⟨(fun x => nomatch x), ff s' q⟩) ho ho2 h
end
end GQ
namespace Gp
open PySem PySem.Spec PyProof.Rows L2 Gh
section
variable {X : Cx} {n : Nat} {Go : Hp → Prop} {Dq : V → V → Bool → Prop}
theorem rcN_tup (h : EqB X n Go Dq) {A : Around} (sb : L2.Sub X (n + 1) A) {pins : List (Addr × Obj)} {s : Shared} {σ : L2.St} {H : Hp} {a b : Addr} {xs ys : List V} {k : Bool} (I : L2.Inv X pins σ H s) (hG : Go H)
    (ha : SqT X.K H a xs) (hb : SqT X.K H b ys) (o : OutQ Dq xs ys k) :
    wpAny (model X.prog X.w) A (richCompare .NotEq (.ref a) (.ref b)) (fun r s' => r = .bool (!k) ∧ ∃ H', L2.Inv X pins σ H' s' ∧ Go H') X.xe s := by
  obtain ⟨its, r, e, z⟩ := I.tuple ha
  obtain ⟨its2, r2, e2, z2⟩ := I.tuple hb
  have lx : xs.length = its.toArray.size := by rw [List.size_toArray]; exact r.length
  have ly : ys.length = its2.toArray.size := by rw [List.size_toArray]; exact r2.length
  refine GQ.rc_tupN sb.room.units0 (fun i s' => (∃ H', L2.Inv X pins σ H' s' ∧ Go H') ∧ OutQ Dq (xs.drop i) (ys.drop i) k) (fun s' => (∃ H', L2.Inv X pins σ H' s' ∧ Go H') ∧ k = false) e e2 (fun i h1 h2 s' q => ?_) (fun s' q => ?_) (fun s' q => ?_) ⟨⟨H, I, hG⟩, o⟩
  · obtain ⟨⟨H1, I1, g1⟩, o1⟩ := q
    have k1 : i < xs.length := by omega
    have k2 : i < ys.length := by omega
    rw [List.drop_eq_getElem_cons k1, List.drop_eq_getElem_cons k2] at o1
    have q1 : its[i]? = some its.toArray[i] := by
      have h1' : i < its.length := by simpa using h1
      rw [List.getElem?_eq_getElem h1'] <;> simp
    have q2 : its2[i]? = some its2.toArray[i] := by
      have h2' : i < its2.length := by simpa using h2
      rw [List.getElem?_eq_getElem h2'] <;> simp
    obtain ⟨u, hu, ru⟩ := r.get (List.getElem?_eq_getElem k1)
    obtain ⟨v, hv, rv⟩ := r2.get (List.getElem?_eq_getElem k2)
    rw [q1] at hu
    rw [q2] at hv
    rw [Option.some.inj hu, Option.some.inj hv]
    cases o1 with
    | t d o2 =>
      refine wpAny_mono (h A.in1 pins s' σ H1 _ _ u v true sb.in1 I1 ru rv g1 d) (fun r s2 q => ?_) fun _ _ x => x
      obtain ⟨hr, H2, I2, g2⟩ := q
      subst hr
      exact ⟨⟨H2, I2, g2⟩, o2⟩
    | f d =>
      refine wpAny_mono (h A.in1 pins s' σ H1 _ _ u v false sb.in1 I1 ru rv g1 d) (fun r s2 q => ?_) fun _ _ x => x
      obtain ⟨hr, H2, I2, g2⟩ := q
      subst hr
      exact ⟨⟨H2, I2, g2⟩, rfl⟩
  · obtain ⟨hl, o1⟩ := q
    refine ⟨?_, hl⟩
    congr 1
    show (!(its.toArray.size == its2.toArray.size)) = !k
    congr 1
    rw [← lx, ← ly] at o1 ⊢
    generalize hx : xs.drop (min xs.length ys.length) = xs' at o1
    generalize hy : ys.drop (min xs.length ys.length) = ys' at o1
    have l1 : xs'.length = xs.length - min xs.length ys.length := by rw [← hx, List.length_drop]
    have l2 : ys'.length = ys.length - min xs.length ys.length := by rw [← hy, List.length_drop]
    cases o1 with
    | nil =>
      rw [List.length_nil] at l1 l2
      exact beq_iff_eq.mpr (by omega)
    | l =>
      rw [List.length_cons] at l2
      rw [List.length_nil] at l1
      exact beq_eq_false_iff_ne.mpr (by omega)
    | r =>
      rw [List.length_cons] at l1
      rw [List.length_nil] at l2
      exact beq_eq_false_iff_ne.mpr (by omega)
    | t d o2 =>
      rw [List.length_cons] at l1 l2
      omega
    | f d =>
      rw [List.length_cons] at l1 l2
      omega
  · obtain ⟨hl, rfl⟩ := q
    exact ⟨rfl, hl⟩
def rNeT (K : PySem.W.Frag) (owns : List (Addr × L2.Sp)) (E : XK) : R2 := fun x y H Q => rEqT K owns E x y H fun v H' => ∃ k, v = .bl k ∧ Q (.bl !k) H'
theorem op_neT {CX : CXT} {K : PySem.W.Frag} {owns : List (Addr × L2.Sp)} {E : XK} (hK : X.K = K) (hr : Room (n + 1) X.A) (hx : Passes CX X E) (ow : ∀ p ∈ owns, OwnQ X CX n p) : OpR X (compareOp .NotEq) (rNeT K owns E) := by
  subst hK
  intro pins s σ H x y v u Q I rx ry hq
  unfold rNeT rEqT at hq
  obtain ⟨a, b, xs, ys, k, Go, rfl, rfl, ha, hb, hG, o, q⟩ := hq
  cases rx
  cases ry
  show wpAny (model X.prog X.w) X.A (richCompare .NotEq (.ref a) (.ref b)) (EP X pins σ Q) X.xe s
  have he : EqB X n Go (DqO X.K owns Go E) := fun A pins s σ H x y u v k sb I rx ry hG d => by
    obtain ⟨a, b, C, C', sp, rfl, rfl, hm, nf, hab, hc⟩ := d
    cases rx
    cases ry
    obtain ⟨⟨dx, fs, h1⟩, ⟨dy, gs, h2⟩, hsp⟩ := hc H hG
    obtain ⟨f, fd, ps, kk, hk, F, hs, hf, hb⟩ := ow _ hm
    exact eqB_ins F hs hf hb hx nf (sb.mono hk) I hG h1 h2 (hab X pins σ s H rfl I hG) hsp
  refine wpAny_mono (rcN_tup he ⟨hr, rfl⟩ I hG ha hb o) (fun r s' z => ?_) fun _ _ x => x
  obtain ⟨hr', H', I', e⟩ := z
  subst hr'
  obtain ⟨k', ek, q'⟩ := q H' e
  cases ek
  exact ⟨.bl (!k), H', I', rfl, q'⟩
end
def notD (d : D) : Tr D := match d with
  | .bl k => .ok (.bl (!k))
  | _ => .bad
section
variable {g : Gw} {E : XK} {owns : List (Addr × L2.Sp)} {f : D → D → Tr D}
theorem sr_neT (h : SR2 g E (rEqT g.K owns E) f) : SR2 g E (rNeT g.K owns E) (fun x y => bd (f x y) notD) := fun U H b x y dx dy Q d1 d2 w u q => by
  refine h U H b x y dx dy _ d1 d2 w u ((al_bd.mp q).mono (fun d b1 h1 v H1 dn w1 f1 => ?_) (fun _ _ _ h => h))
  cases d with
  | bl k =>
    cases dn
    exact ⟨k, rfl, (show okP g U H Q (.bl (!k)) b1 from h1) _ _ (.bl _) w1 f1⟩
  | _ => exact h1.elim
end
end Gp
end
section
set_option Elab.async false
set_option linter.all false
set_option maxRecDepth 100000
set_option maxHeartbeats 4000000
namespace Gp
open PySem PySem.Spec PyProof.Rows L2 Gh
theorem mk_err2 {C : Addr} {f f2 : Str} {v v2 : V} {H : Hp} {Q : XK} (h : ∀ d H', L2.Same H H' → H d = none → H' d = some (.xd [(f2, v2), (f, v)]) → Q (.ref C) (some d) H') :
    ([v, v2] : List V).length ≤ 1000 ∧ ∀ a, H a = none → spErr2 C f f2 (.ref a :: ([v, v2] ++ [])) (upd H a (exo a C none)) (fun u H2 => u = .non ∧ ∃ (d : Addr) (fs : List (Str × V)), H2 a = some (exo a C (some d)) ∧ H2 d = some (exd d fs) ∧ H d = none ∧ Q (.ref C) (some d) (upd (del H2 a) d (.xd fs))) (fun _ _ _ => False) := by
  refine ⟨by show 2 ≤ 1000; decide, fun a na => ⟨a, v, v2, rfl, upd_same, fun d nd ne => ⟨rfl, d, [(f2, v2), (f, v)], ?_, upd_same, ?_, ?_⟩⟩⟩
  · rw [upd_ne (Ne.symm ne), upd_same]
  · rw [upd_ne ne] at nd
    exact nd
  · have nd0 : H d = none := by
      rw [upd_ne ne] at nd
      exact nd
    refine h d _ (fun b u e => ?_) nd0 upd_same
    have hb : b ≠ a := ne_of_none e na
    have hd : b ≠ d := ne_of_none e nd0
    rw [upd_ne hd, del_ne hb, upd_ne hd, upd_ne hb, upd_ne hd, upd_ne hb]
    exact e
section
variable {g : Gw} {ε : Env} {E : XK} {W L : Type} {env : W → Env} {envL : L → Env} {u : TS} {ta : TA} {m : Tr (List D)}
theorem ss_raise2 {c f f2 : Str} (ha : SA g E ε ta m) : SS g E ε (tSeq (fun _ σ H => tMkO (gd c g.K) (spErr2 (gd c g.K) f f2) [] ta σ H (fun cls d H' => E cls d H')) u) env envL (bd m (ul2 fun d1 d2 => .ex c [(f2, d2), (f, d1)])) := fun Mt U0 H0 U Ds σ H b s q => by
  show ta σ H _
  refine ha.sstep s q fun vs ds H1 b1 dv s1 q1 => ?_
  obtain ⟨x, y, rfl, q2⟩ := al_ul2 q1
  obtain ⟨v1, v2, rfl, e1, e2⟩ := denL_2 dv
  refine mk_err2 fun dd H2 sm nd hd => ?_
  have q3 : exS g Mt U0 H0 E c [(f2, y), (f, x)] b1 := q2
  exact q3 dd _ H2 hd (fun z => s1.uok.new nd (s1.sub _ z)) (.cons ((e2.ext (fun a o e _ _ => sm a o e)).sub fun a _ z => s1.sub a z) (.cons ((e1.ext (fun a o e _ _ => sm a o e)).sub fun a _ z => s1.sub a z) .nil)) (s1.wd.same sm) (s1.ext.trans (fr_same sm))
end
end Gp
end
section
set_option Elab.async false
set_option linter.all false
set_option maxRecDepth 100000
set_option maxHeartbeats 4000000
namespace Gp
open PySem PySem.Spec PyProof.Rows L2 Gh
mutual
def noLst : D → Bool
  | .lst _ => false
  | .tup ds => noLstL ds
  | .obj _ fs => noLstF fs
  | .err _ fs => noLstF fs
  | .dic _ => false
  | .dit _ => false
  | _ => true
def noLstL : List D → Bool
  | [] => true
  | d :: ds => noLst d && noLstL ds
def noLstF : List (Str × D) → Bool
  | [] => true
  | (_, d) :: ds => noLst d && noLstF ds
end
def pk : Tr D → Tr D
  | .ok d => if noLst d = true then .ok d else .bad
  | .ex c fs => if noLstF fs = true then .ex c fs else .bad
  | .bad => .bad
  | .draw m k => .draw m fun d => pk (k d)
section
variable {g : Gw} {U : Addr → Prop} {H : Hp} {a : Addr} {vs : List V}
mutual
theorem den_back (ha : H a = some (.lst vs)) : ∀ {v : V} {d : D}, Den g (fun x => U x ∧ x ≠ a) H v d → noLst d = true → Den g U H v d
  | _, _, .non, _ => .non
  | _, _, .bl b, _ => .bl b
  | _, _, .int i, _ => .int i
  | _, _, .str x h, _ => .str x h
  | _, _, .tup h n l k, z => .tup h (fun u => n ⟨u, fun e => by subst e; rw [ha] at h; cases h⟩) l (denL_back ha k (by simpa only [noLst] using z))
  | _, _, .tupW h l k, z => .tupW h l (denL_back ha k (by simpa only [noLst] using z))
  | _, _, .lst _ _ _ _, z => by simp only [noLst] at z; cases z
  | _, _, .obj h n k, z => .obj h (fun u => n ⟨u, fun e => by subst e; rw [ha] at h; cases h⟩) (denF_back ha k (by simpa only [noLst] using z))
  | _, _, .err h n h2 n2 k, z => .err h (fun u => n ⟨u, fun e => by subst e; rw [ha] at h; unfold exk at h; cases h⟩) h2 (fun u => n2 ⟨u, fun e => by subst e; rw [ha] at h2; cases h2⟩) (denF_back ha k (by simpa only [noLst] using z))
  | _, _, .pen, _ => .pen
  | _, _, .cls c, _ => .cls c
  | _, _, .dct h n, _ => .dct h (fun u => n ⟨u, fun e => by subst e; rw [ha] at h; cases h⟩)
  | _, _, .dic _ _ _ _, z => by simp only [noLst] at z; cases z
  | _, _, .dit _ _ _ _, z => by simp only [noLst] at z; cases z
theorem denL_back (ha : H a = some (.lst vs)) : ∀ {ws : List V} {ds : List D}, DenL g (fun x => U x ∧ x ≠ a) H ws ds → noLstL ds = true → DenL g U H ws ds
  | _, _, .nil, _ => .nil
  | _, _, .cons x r, z => by
    simp only [noLstL, Bool.and_eq_true] at z
    exact .cons (den_back ha x z.1) (denL_back ha r z.2)
theorem denF_back (ha : H a = some (.lst vs)) : ∀ {ws : List (Str × V)} {ds : List (Str × D)}, DenF g (fun x => U x ∧ x ≠ a) H ws ds → noLstF ds = true → DenF g U H ws ds
  | _, _, .nil, _ => .nil
  | _, _, .cons x r, z => by
    simp only [noLstF, Bool.and_eq_true] at z
    exact .cons (den_back ha x z.1) (denF_back ha r z.2)
end
end
section
variable {g : Gw} {U : Addr → Prop} {H : Hp} {b : Nat} {σ : L2.St} {ε : Env} {E : XK} {te : TE} {m : Tr D}
theorem al_pk {Q : VK} {a : Addr} {vs : List V} (ha : H a = some (.lst vs)) (np : a ≠ g.p) {m : Tr D} {b : Nat} (h : Al (okP g U H Q) (exP g U E H) (pk m) b) : Al (okP g (fun x => U x ∧ x ≠ a) H Q) (exP g (fun x => U x ∧ x ≠ a) E H) m b := by
  induction m generalizing b with
  | ok d =>
    unfold pk at h
    split at h
    · rename_i z
      intro v H' dn w f
      exact h v H' (den_back (f _ _ ha np (fun _ z => by cases z)) dn z) w f
    · exact h.elim
  | ex c fs =>
    unfold pk at h
    split at h
    · rename_i z
      intro dd fvs H' h1 h2 h3 h4 h5
      have ha' := h5 _ _ ha np (fun _ z => by cases z)
      exact h dd fvs H' h1 (fun u => h2 ⟨u, fun e => by subst e; rw [ha'] at h1; cases h1⟩) (denF_back ha' h3 z) h4 h5
    · exact h.elim
  | bad => exact h
  | draw m f ih =>
    obtain ⟨b', e, h1, h2, h3⟩ := h
    exact ⟨b', e, h1, h2, fun d d0 d1 => ih d (h3 d d0 d1)⟩
theorem se_lend {i : Nat} {ds : List D} (h : SE g E (ε.set i (.fz (.lst ds))) te m) (hi : ε[i]? = some (.ow ds) := by rfl) : SE g E ε te (pk m) := fun U σ H b Q R w u q => by
  obtain ⟨o, e1, a, vs, rfl, h1, l1, d1, ua, n1, n2⟩ := R.at_ i _ hi
  have il : i < ε.length := (List.getElem?_eq_some_iff.mp hi).1
  have sub : ∀ x, (∃ o, H x = some o) → (U x ∧ x ≠ a) → U x := fun x _ z => z.1
  have ow : ∀ j x, OwnAt σ (ε.set i (.fz (.lst ds))) j x → i ≠ j ∧ OwnAt σ ε j x := fun j x z => by
    obtain ⟨z1, z2⟩ := z
    by_cases q : i = j
    · subst q
      exfalso
      rcases z2 with ⟨y, z2⟩ | ⟨y1, y2, z2⟩
      · rw [List.getElem?_set_self il] at z2
        cases z2
      · rw [List.getElem?_set_self il] at z2
        cases z2
    · rw [List.getElem?_set_ne q] at z2
      exact ⟨q, z1, z2⟩
  have apart : ∀ j x, i ≠ j → OwnAt σ ε j x → x ≠ a := fun j x ne z e => by
    subst e
    exact R.apart i j x ne ⟨e1, .inl ⟨ds, hi⟩⟩ z
  refine h (fun x => U x ∧ x ≠ a) σ H b Q ⟨by rw [List.length_set]; exact R.len, fun j x e => ?_, fun j k x ne z1 z2 => R.apart j k x ne (ow _ _ z1).2 (ow _ _ z2).2⟩ w ⟨⟨u.p, n1.symm⟩, ⟨u.c, n2.symm⟩, fun x hx => u.al x hx.1⟩ (al_pk h1 n1 q)
  by_cases q : i = j
  · subst q
    rw [List.getElem?_set_self il] at e
    cases e
    exact ⟨_, e1, _, rfl, .lst h1 (fun z => z.2 rfl) l1 (d1.sub sub)⟩
  · rw [List.getElem?_set_ne q] at e
    obtain ⟨o, e3, e2⟩ := R.at_ j x e
    refine ⟨o, e3, ?_⟩
    cases x with
    | no => trivial
    | fz d =>
      obtain ⟨v, e4, e5⟩ := e2
      exact ⟨v, e4, e5.sub sub⟩
    | ow ds2 =>
      obtain ⟨a2, v2, rfl, h2, l2, d2, u2, m1, m2⟩ := e2
      have ne := apart j a2 q ⟨e3, .inl ⟨ds2, e⟩⟩
      exact ⟨a2, v2, rfl, h2, l2, d2.sub sub, ⟨u2, ne⟩, m1, m2⟩
    | oi c fs =>
      obtain ⟨a2, dx, v2, rfl, h2, d2, u2, m1, m2⟩ := e2
      have ne := apart j a2 q ⟨e3, .inr ⟨c, fs, e⟩⟩
      exact ⟨a2, dx, v2, rfl, h2, d2.sub sub, ⟨u2, ne⟩, m1, m2⟩
theorem se_listOw {i : Nat} {ds : List D} (hi : ε[i]? = some (.ow ds) := by rfl) : SE g E ε (tCB (rListOf g.K) (tCons (tVar i) tNil)) (.ok (.lst ds)) := fun U σ H b Q R w u q => by
  obtain ⟨o, e1, a, vs, rfl, h1, l1, d1, ua, n1, n2⟩ := R.at_ i _ hi
  refine ⟨.ref a, e1, ?_⟩
  show rListOf g.K [.ref a] H Q
  unfold rListOf
  exact ⟨a, vs, rfl, .inl (SqL.of h1), new_lst q w u l1 d1⟩
end
end Gp
end
section
set_option Elab.async false
set_option linter.all false
set_option maxRecDepth 100000
set_option maxHeartbeats 4000000
namespace Gp
open PySem PySem.Spec PyProof.Rows L2 Gh
theorem tPairs_c {σ : L2.St} {Q : List (V × V) → Hp → Prop} : ∀ {kvs : List (Key × V)} {H : Hp}, Q (kvs.map fun kv => (kV kv.1, kv.2)) H → tPairs (kvs.map fun kv => (tC (kV kv.1), tC kv.2)) σ H Q
  | [], H, h => h
  | p :: kvs, H, h => tPairs_c (kvs := kvs) (Q := fun ps H3 => Q ((kV p.1, p.2) :: ps) H3) h
section
variable {g : Gw} {U : Addr → Prop} {H : Hp} {ε : Env} {E : XK}
theorem se_dispC {trs : List (TE × TE)} (kvs : List (Key × V)) (ps : List (Key × D)) (ht : trs = kvs.map fun kv => (tC (kV kv.1), tC kv.2)) (hk : kvs.map (·.1) = ps.map (·.1)) (hd : ∀ U H, DenL g U H (kvs.map (·.2)) (ps.map (·.2))) (hm : mergeK [] kvs = kvs) (h15 : kvs.length ≤ 15) :
    SE g E ε (tDisp trs) (.ok (.dic ps)) := fun U σ H b Q R W u q p np => by
  subst ht
  refine tPairs_c ?_
  have e : upd (upd H p (.dK [])) p (.dK (mergeK [] kvs)) = upd H p (.dK kvs) := by
    rw [hm]
    funext a
    by_cases z : a = p
    · subst z
      rw [upd_same, upd_same]
    · rw [upd_ne z, upd_ne z, upd_ne z]
  refine ⟨upd_same, kvs, rfl, h15, ?_⟩
  rw [e]
  have s := same_new (o := .dK kvs) np
  exact q _ _ (.dic upd_same (u.new np) hk (hd _ _)) (W.same s) (fr_same s)
def lookK (ps : List (Key × D)) (k : Key) : Option D := (ps.find? fun kv => decide (kv.1 = k)).map (·.2)
def keyD : D → Option Key
  | .int i => some (.inl i)
  | .str x => some (.inr x)
  | _ => none
def getK (d k : D) : Tr D := match d, keyD k with
  | .dic ps, some k => match lookK ps k with
    | some v => .ok v
    | none => .bad
  | _, _ => .bad
theorem look_den : ∀ {kvs : List (Key × V)} {ps : List (Key × D)} {k : Key} {d : D}, kvs.map (·.1) = ps.map (·.1) → DenL g U H (kvs.map (·.2)) (ps.map (·.2)) → lookK ps k = some d → ∃ v, valV kvs k = some v ∧ Den g U H v d
  | [], [], _, _, _, _, h => by cases h
  | [], _ :: _, _, _, hk, _, _ => by cases hk
  | _ :: _, [], _, _, hk, _, _ => by cases hk
  | (k1, v1) :: kvs, (k2, d2) :: ps, k, d, hk, hd, h => by
    rw [List.map_cons, List.map_cons] at hk hd
    injection hk with e hk'
    cases hd with
    | cons a r =>
      have e' : k1 = k2 := e
      subst e'
      unfold lookK at h
      unfold valV
      rw [List.find?_cons] at h ⊢
      by_cases z : k1 = k
      · simp only [z, decide_true, Option.map_some] at h ⊢
        cases h
        exact ⟨_, rfl, a⟩
      · simp only [z, decide_false] at h ⊢
        exact look_den hk' r h
theorem den_key {v : V} {d : D} {k : Key} (h : Den g U H v d) (e : keyD d = some k) : v = kV k := by
  cases h with
  | int i => cases e; rfl
  | str x _ => cases e; rfl
  | _ => cases e
theorem se_dget {td ty : TE} {md mk : Tr D} (hd : SE g E ε td md) (hk : SE g E ε ty mk) : SE g E ε (tDGet td ty) (bd md fun d => bd mk fun k => getK d k) := fun U σ H b Q R W u q =>
  hd.step R W u q fun x dx H1 b1 d1 w1 f1 R1 u1 q1 => by
    refine hk.step R1 w1 u1 q1 fun y dy H2 b2 d2 w2 f2 R2 u2 q2 => ?_
    have d1' := d1.fr u1 f2
    cases hx : dx with
    | dic ps =>
      subst hx
      cases e : keyD dy with
      | none =>
        unfold getK at q2
        rw [e] at q2
        exact q2.elim
      | some k =>
        cases e2 : lookK ps k with
        | none =>
          unfold getK at q2
          rw [e] at q2
          simp only [e2] at q2
          exact q2.elim
        | some v =>
          have z : getK (.dic ps) dy = .ok v := by
            unfold getK
            rw [e]
            simp only [e2]
          rw [z] at q2
          cases d1' with
          | dic ha nu hk' dl =>
            obtain ⟨w', h1, h2⟩ := look_den hk' dl e2
            refine ⟨_, w', rfl, ?_, okP.here (okP.fr (f1.trans f2) q2) w2 h2⟩
            rw [den_key d2 e, ← h1]
            exact DGet.k ha
    | _ => subst hx; unfold getK at q2; simp only at q2; exact q2.elim
end
end Gp
end
section
set_option Elab.async false
set_option linter.all false
set_option maxRecDepth 100000
set_option maxHeartbeats 4000000
namespace Gp
open PySem PySem.Spec PyProof.Rows L2 Gh
def rNeNil (K : PySem.W.Frag) : R2 := fun x y H Q => ∃ a b xs, x = .ref a ∧ y = .ref b ∧ SqL K H a xs ∧ SqL K H b [] ∧ Q (.bl !xs.isEmpty) H
theorem op_neNil {X : Cx} {K : PySem.W.Frag} (hK : X.K = K) (hu : X.A.units + 64 < cLine) : OpR X (compareOp .NotEq) (rNeNil K) := by
  subst hK
  intro pins s σ H x y v u Q I rx ry ⟨a, b, xs, e1, e2, h1, h2, q⟩
  subst e1 e2
  cases rx
  cases ry
  obtain ⟨its, r, ⟨⟨cl, dd, da, sl⟩, m, e, c1, c2, c3⟩, z⟩ := I.list h1
  obtain ⟨its2, r2, ⟨⟨cl2, dd2, da2, sl2⟩, m2, f, d1, d2, d3⟩, z2⟩ := I.list h2
  simp only at c1 c2 c3 d1 d2 d3
  subst c1 c2 c3 d1 d2 d3
  cases r2
  show wpAny (model X.prog X.w) X.A (richCompare .NotEq (.ref a) (.ref b)) (EP X pins σ Q) X.xe s
  refine wpAny_richCompare_same_room (op := .NotEq) ⟨_, e, rfl⟩ ⟨_, f, rfl⟩ F.slot_list_ne (GQ.call_here F.slot_list_ne ⟨_, e, rfl⟩ F.entry_list_ne (F.args_list_ne_2 _ _) ?_) (by omega)
  cases r with
  | nil => exact SeqAt.list_neAt a b #[] #[] m m2 none none sl sl2 rfl (fun _ => true) X.prog X.w X.A (wants (fun v s' => v ≠ .notImplemented ∧ EP X pins σ Q v s') X.xe) s ⟨e, f, fun j h => absurd h (Nat.not_lt_zero _), (fun z => nomatch z), V.bl false, H, I, rfl, q⟩
  | cons h t => exact SeqAt.list_ne_lengthsAt a b _ #[] m m2 none none sl sl2 (by simp) X.prog X.w X.A (wants (fun v s' => v ≠ .notImplemented ∧ EP X pins σ Q v s') X.xe) s ⟨e, f, (fun z => nomatch z), V.bl true, H, I, rfl, q⟩
def neNil (x y : D) : Tr D := match x, y with
  | .lst ds, .lst [] => .ok (.bl !ds.isEmpty)
  | _, _ => .bad
theorem sr_neNil {g : Gw} {E : XK} : SR2 g E (rNeNil g.K) neNil := fun U H b x y dx dy Q d1 d2 w u q => by
  unfold neNil at q
  split at q
  · rename_i ds
    obtain ⟨a, vs, rfl, h1, n1, l1, k1⟩ := den_lst d1
    obtain ⟨a2, vs2, rfl, h2, n2, l2, k2⟩ := den_lst d2
    cases k2
    refine ⟨a, a2, vs, rfl, rfl, SqL.of h1, SqL.of h2, ?_⟩
    have e : vs.isEmpty = ds.isEmpty := by
      cases k1 <;> rfl
    rw [e]
    exact okP.here q w (.bl _)
  · exact q.elim
end Gp
end
section
set_option Elab.async false
set_option linter.all false
set_option maxRecDepth 100000
set_option maxHeartbeats 4000000
namespace Gp
open PySem PySem.Spec PyProof.Rows L2 Gh
variable {X : Cx} {pos : Pos}
theorem ps_parC {i j : Nat} {x y : Str} {a b : Expr} {ta : TA} {px py pt : Pos} {kt k2 pt2} (hc : X.calm = true) (hN : X.N.Nodup) (hi : X.N[i]? = some x) (hj : X.N[j]? = some y)
    (hx : Loc X.env.scope x) (hy : Loc X.env.scope y) (ha : PA X [a, b] ta)
    (hw : swappedStores [.Tuple [.Name x px, .Name y py] kt pt] (.Tuple [a, b] k2 pt2) X.env = pure none)
    (hs : swapsWithSole [.Tuple [.Name x px, .Name y py] kt pt] (.Tuple [a, b] k2 pt2) pos.line X.env = pure false := by rfl)
    (hfx : X.fn x = true ∨ X.env.scope.names.lookup x = some .local := by first | exact .inl rfl | exact .inr rfl | assumption)
    (hfy : X.fn y = true ∨ X.env.scope.names.lookup y = some .local := by first | exact .inl rfl | exact .inr rfl | assumption) :
    PS X (.Assign [.Tuple [.Name x px, .Name y py] kt pt] (.Tuple [a, b] k2 pt2) pos) (tPar i j ta) := by
  refine ⟨fun pins s σ H D I h => ?_⟩
  refine Assign_Tuple (Tuple_ (thn (ha.run _ pins s σ H _ I h) fun us s1 ⟨vs, H1, I1, r1, q1⟩ => ?_)) hs hw
  obtain ⟨v, w, e1, q1⟩ := q1
  subst e1
  obtain ⟨u1, u2, rfl, rv, rw'⟩ : ∃ u1 u2, us = [u1, u2] ∧ RelV v u1 ∧ RelV w u2 := by
    cases r1 with
    | cons p q =>
      cases q with
      | cons p' q' =>
        cases q'
        exact ⟨_, _, rfl, p, p'⟩
  refine wpAny_newObj_type ?_ (by show 2 ≤ sizeLine; decide)
  have I2 : Inv X pins σ H1 { s1 with heap := s1.heap.push { cls := .type "tuple", data := .seq [u1, u2].toArray } } := I1.kept (t' := s1.toks) fun b o e => Heap.get?_push_of_some _ e
  refine assign_Tuple_tuple (items := #[u1, u2]) (I.ok.hd hc) (IsTup.new s1.heap _) rfl rfl fun h' hx' => ?_
  have I3 := I2.kept (h' := h') (t' := s1.toks) fun b o e => hx' b o (Nat.ne_of_lt (Heap.lt_size e)) e
  show wpAny _ _ (assignInOrder [assign (.Name x px) X.env, assign (.Name y py) X.env] [u1, u2]) _ _ _
  refine assignInOrder_cons (wpAny_assign_Name (store_ok I3 hN hi hx rv (fun s2 I4 => ?_) hfx))
  refine assignInOrder_cons (wpAny_assign_Name (store_ok I4 hN hj hy rw' (fun s3 I5 => assignInOrder_nil ?_) hfy))
  exact ⟨_, H1, I5, q1⟩
end Gp
end
section
set_option Elab.async false
set_option linter.all false
set_option maxRecDepth 100000
set_option maxHeartbeats 0
namespace Lw
open PySem PySem.Spec PyProof.Rows L2 Gh Gp
theorem ob_eq (s : PySem.W.SharedT) : ob s = hk.obs s.abs := Gp.obsL_eq (HandSHeadRun.getT_eq s)
structure Tx (K : PySem.W.Frag) (mg : Str → Option Value) : Prop where
  f_abs : mg "abs" = none
  f_all : mg "all" = none
  f_bool : mg "bool" = none
  f_enumerate : mg "enumerate" = none
  f_int : mg "int" = none
  f_isinstance : mg "isinstance" = none
  f_len : mg "len" = none
  f_list : mg "list" = none
  f_range : mg "range" = none
  f_repr : mg "repr" = none
  f_set : mg "set" = none
  f_sorted : mg "sorted" = none
  f_str : mg "str" = none
  f_sum : mg "sum" = none
  f_super : mg "super" = none
  f_tuple : mg "tuple" = none
  g__law_pen : mg "_law_pen" = some (.ref (gd "_law_pen" K))
  k__law_pen : PySem.W.keepIn K (.ref (gd "_law_pen" K)) = true
  g__law_draw : mg "_law_draw" = some (.ref (gd "_law_draw" K))
  k__law_draw : PySem.W.keepIn K (.ref (gd "_law_draw" K)) = true
  g_is_integer : mg "is_integer" = some (.ref (gd "is_integer" K))
  k_is_integer : PySem.W.keepIn K (.ref (gd "is_integer" K)) = true
  g_is_within : mg "is_within" = some (.ref (gd "is_within" K))
  k_is_within : PySem.W.keepIn K (.ref (gd "is_within" K)) = true
  g_are_told : mg "are_told" = some (.ref (gd "are_told" K))
  k_are_told : PySem.W.keepIn K (.ref (gd "are_told" K)) = true
  g_ascending : mg "ascending" = some (.ref (gd "ascending" K))
  k_ascending : PySem.W.keepIn K (.ref (gd "ascending" K)) = true
  g_deepest : mg "deepest" = some (.ref (gd "deepest" K))
  k_deepest : PySem.W.keepIn K (.ref (gd "deepest" K)) = true
  g_need_steps : mg "need_steps" = some (.ref (gd "need_steps" K))
  k_need_steps : PySem.W.keepIn K (.ref (gd "need_steps" K)) = true
  g_need_size : mg "need_size" = some (.ref (gd "need_size" K))
  k_need_size : PySem.W.keepIn K (.ref (gd "need_size" K)) = true
  g__law_pick : mg "_law_pick" = some (.ref (gd "_law_pick" K))
  k__law_pick : PySem.W.keepIn K (.ref (gd "_law_pick" K)) = true
  g__law_places : mg "_law_places" = some (.ref (gd "_law_places" K))
  k__law_places : PySem.W.keepIn K (.ref (gd "_law_places" K)) = true
  g__law_span : mg "_law_span" = some (.ref (gd "_law_span" K))
  k__law_span : PySem.W.keepIn K (.ref (gd "_law_span" K)) = true
  g__law_weight : mg "_law_weight" = some (.ref (gd "_law_weight" K))
  k__law_weight : PySem.W.keepIn K (.ref (gd "_law_weight" K)) = true
  g__law_step : mg "_law_step" = some (.ref (gd "_law_step" K))
  k__law_step : PySem.W.keepIn K (.ref (gd "_law_step" K)) = true
  g__law_said : mg "_law_said" = some (.ref (gd "_law_said" K))
  k__law_said : PySem.W.keepIn K (.ref (gd "_law_said" K)) = true
  g__law_parts : mg "_law_parts" = some (.ref (gd "_law_parts" K))
  k__law_parts : PySem.W.keepIn K (.ref (gd "_law_parts" K)) = true
  g__law_made : mg "_law_made" = some (.ref (gd "_law_made" K))
  k__law_made : PySem.W.keepIn K (.ref (gd "_law_made" K)) = true
  g__law_heard : mg "_law_heard" = some (.ref (gd "_law_heard" K))
  k__law_heard : PySem.W.keepIn K (.ref (gd "_law_heard" K)) = true
  g__law_deep : mg "_law_deep" = some (.ref (gd "_law_deep" K))
  k__law_deep : PySem.W.keepIn K (.ref (gd "_law_deep" K)) = true
  g__law_kept_right : mg "_law_kept_right" = some (.ref (gd "_law_kept_right" K))
  k__law_kept_right : PySem.W.keepIn K (.ref (gd "_law_kept_right" K)) = true
  g__law_spoilt_right : mg "_law_spoilt_right" = some (.ref (gd "_law_spoilt_right" K))
  k__law_spoilt_right : PySem.W.keepIn K (.ref (gd "_law_spoilt_right" K)) = true
  g__law_bounds_right : mg "_law_bounds_right" = some (.ref (gd "_law_bounds_right" K))
  k__law_bounds_right : PySem.W.keepIn K (.ref (gd "_law_bounds_right" K)) = true
  g_TooMany : mg "TooMany" = some (.ref (gd "TooMany" K))
  k_TooMany : PySem.W.keepIn K (.ref (gd "TooMany" K)) = true
  g_BadStep : mg "BadStep" = some (.ref (gd "BadStep" K))
  k_BadStep : PySem.W.keepIn K (.ref (gd "BadStep" K)) = true
  g_Span : mg "Span" = some (.ref (gd "Span" K))
  k_Span : PySem.W.keepIn K (.ref (gd "Span" K)) = true
  g_Sided : mg "Sided" = some (.ref (gd "Sided" K))
  k_Sided : PySem.W.keepIn K (.ref (gd "Sided" K)) = true
  g_Change : mg "Change" = some (.ref (gd "Change" K))
  k_Change : PySem.W.keepIn K (.ref (gd "Change" K)) = true
  g_Stretch : mg "Stretch" = some (.ref (gd "Stretch" K))
  k_Stretch : PySem.W.keepIn K (.ref (gd "Stretch" K)) = true
  g_Step : mg "Step" = some (.ref (gd "Step" K))
  k_Step : PySem.W.keepIn K (.ref (gd "Step" K)) = true
  g_Block : mg "Block" = some (.ref (gd "Block" K))
  k_Block : PySem.W.keepIn K (.ref (gd "Block" K)) = true
  g_Holder : mg "Holder" = some (.ref (gd "Holder" K))
  k_Holder : PySem.W.keepIn K (.ref (gd "Holder" K)) = true
  g_Program : mg "Program" = some (.ref (gd "Program" K))
  k_Program : PySem.W.keepIn K (.ref (gd "Program" K)) = true
  g_HuntError : mg "HuntError" = some (.ref (gd "HuntError" K))
  k_HuntError : PySem.W.keepIn K (.ref (gd "HuntError" K)) = true
  m_FARTHEST : ∃ t, mg "FARTHEST" = some (.int 15 t)
  m_MOST_HALVES : ∃ t, mg "MOST_HALVES" = some (.int 8 t)
  m_MOST_MORE : ∃ t, mg "MOST_MORE" = some (.int 60 t)
  m_MOST_ODD : ∃ t, mg "MOST_ODD" = some (.int 9 t)
  m_MOST_TIMES : ∃ t, mg "MOST_TIMES" = some (.int 12 t)
  m_MOST_TOLD : ∃ t, mg "MOST_TOLD" = some (.int 8 t)
  n_TooMany_what : NoAttr K (gd "TooMany" K) "what"
  n_TooMany_most : NoAttr K (gd "TooMany" K) "most"
  er_TooMany : ErrT K (gd "TooMany" K)
  ox_TooMany : OexC K (gd "TooMany" K)
  in_TooMany : IniT K (gd "TooMany" K) (md "TooMany" "__init__" K)
  xh_TooMany : PySem.W.exmOne K (.ref (gd "TooMany" K)) (.ref (gd "HuntError" K)) = some true
  n_BadStep_at : NoAttr K (gd "BadStep" K) "at"
  er_BadStep : ErrT K (gd "BadStep" K)
  ox_BadStep : OexC K (gd "BadStep" K)
  in_BadStep : IniT K (gd "BadStep" K) (md "BadStep" "__init__" K)
  xh_BadStep : PySem.W.exmOne K (.ref (gd "BadStep" K)) (.ref (gd "HuntError" K)) = some true
  cl_Span : Cls K (gd "Span" K)
  ty_Span : InsT K (gd "Span" K)
  n_Span_own_parts : NoAttr K (gd "Span" K) "own_parts"
  mk_Span : Mk K (gd "Span" K) (md "Span" "__init__" K)
  pr_Span_halves : PropOf K (gd "Span" K) "halves" (He.ma K (He.ga K "Span") "halves") (propG "Span" "halves" K)
  pr_Span_more : PropOf K (gd "Span" K) "more" (He.ma K (He.ga K "Span") "more") (propG "Span" "more" K)
  pr_Span_odd : PropOf K (gd "Span" K) "odd" (He.ma K (He.ga K "Span") "odd") (propG "Span" "odd" K)
  mt_Span___eq__ : Meth K (gd "Span" K) "__eq__" (md "Span" "__eq__" K)
  ow_Span : OwnT K (gd "Span" K)
  cl_Sided : Cls K (gd "Sided" K)
  ty_Sided : InsT K (gd "Sided" K)
  cl_Change : Cls K (gd "Change" K)
  ty_Change : InsT K (gd "Change" K)
  n_Change_side : NoAttr K (gd "Change" K) "side"
  n_Change_front : NoAttr K (gd "Change" K) "front"
  n_Change_back : NoAttr K (gd "Change" K) "back"
  mk_Change : Mk K (gd "Change" K) (md "Change" "__init__" K)
  pr_Change_weight : PropOf K (gd "Change" K) "weight" (He.ma K (He.ga K "Change") "weight") (propG "Change" "weight" K)
  mt_Change___eq__ : Meth K (gd "Change" K) "__eq__" (md "Change" "__eq__" K)
  ow_Change : OwnT K (gd "Change" K)
  pr_Change_said : PropOf K (gd "Change" K) "said" (He.ma K (He.ga K "Change") "said") (propG "Change" "said" K)
  pr_Change_done : PropOf K (gd "Change" K) "done" (He.ma K (He.ga K "Change") "done") (propG "Change" "done" K)
  pr_Change_deep : PropOf K (gd "Change" K) "deep" (He.ma K (He.ga K "Change") "deep") (propG "Change" "deep" K)
  cl_Stretch : Cls K (gd "Stretch" K)
  ty_Stretch : InsT K (gd "Stretch" K)
  n_Stretch_side : NoAttr K (gd "Stretch" K) "side"
  n_Stretch_first : NoAttr K (gd "Stretch" K) "first"
  n_Stretch_span : NoAttr K (gd "Stretch" K) "span"
  n_Stretch_late : NoAttr K (gd "Stretch" K) "late"
  mk_Stretch : Mk K (gd "Stretch" K) (md "Stretch" "__init__" K)
  pr_Stretch_weight : PropOf K (gd "Stretch" K) "weight" (He.ma K (He.ga K "Stretch") "weight") (propG "Stretch" "weight" K)
  mt_Stretch___eq__ : Meth K (gd "Stretch" K) "__eq__" (md "Stretch" "__eq__" K)
  ow_Stretch : OwnT K (gd "Stretch" K)
  pr_Stretch_said : PropOf K (gd "Stretch" K) "said" (He.ma K (He.ga K "Stretch") "said") (propG "Stretch" "said" K)
  pr_Stretch_done : PropOf K (gd "Stretch" K) "done" (He.ma K (He.ga K "Stretch") "done") (propG "Stretch" "done" K)
  pr_Stretch_deep : PropOf K (gd "Stretch" K) "deep" (He.ma K (He.ga K "Stretch") "deep") (propG "Stretch" "deep" K)
  cl_Step : Cls K (gd "Step" K)
  ty_Step : InsT K (gd "Step" K)
  cl_Block : Cls K (gd "Block" K)
  ty_Block : InsT K (gd "Block" K)
  n_Block_steps : NoAttr K (gd "Block" K) "steps"
  n_Block_times : NoAttr K (gd "Block" K) "times"
  pr_Block_said : PropOf K (gd "Block" K) "said" (He.ma K (He.ga K "Block") "said") (propG "Block" "said" K)
  pr_Block_done : PropOf K (gd "Block" K) "done" (He.ma K (He.ga K "Block") "done") (propG "Block" "done" K)
  pr_Block_weight : PropOf K (gd "Block" K) "weight" (He.ma K (He.ga K "Block") "weight") (propG "Block" "weight" K)
  pr_Block_deep : PropOf K (gd "Block" K) "deep" (He.ma K (He.ga K "Block") "deep") (propG "Block" "deep" K)
  mk_Block : Mk K (gd "Block" K) (md "Block" "__init__" K)
  mt_Block___eq__ : Meth K (gd "Block" K) "__eq__" (md "Block" "__eq__" K)
  ow_Block : OwnT K (gd "Block" K)
  cl_Holder : Cls K (gd "Holder" K)
  ty_Holder : InsT K (gd "Holder" K)
  cl_Program : Cls K (gd "Program" K)
  ty_Program : InsT K (gd "Program" K)
  n_Program_steps : NoAttr K (gd "Program" K) "steps"
  pr_Program_said : PropOf K (gd "Program" K) "said" (He.ma K (He.ga K "Program") "said") (propG "Program" "said" K)
  pr_Program_done : PropOf K (gd "Program" K) "done" (He.ma K (He.ga K "Program") "done") (propG "Program" "done" K)
  pr_Program_weight : PropOf K (gd "Program" K) "weight" (He.ma K (He.ga K "Program") "weight") (propG "Program" "weight" K)
  pr_Program_deep : PropOf K (gd "Program" K) "deep" (He.ma K (He.ga K "Program") "deep") (propG "Program" "deep" K)
  mk_Program : Mk K (gd "Program" K) (md "Program" "__init__" K)
  dt_Change___init___0 : ∀ H' : L2.Hp, L2.SqT K H' (He.dflAt ("Change", some "__init__") 0 K) []
  dt_Change___init___1 : ∀ H' : L2.Hp, L2.SqT K H' (He.dflAt ("Change", some "__init__") 1 K) []
  g_SIDES_changes : mg "SIDES_changes" = some (.ref (gd "SIDES_changes" K))
  tu_SIDES_changes : ∀ H : Hp, SqT K H (gd "SIDES_changes" K) [.str "front", .str "back"]
  g_SIDES_steps : mg "SIDES_steps" = some (.ref (gd "SIDES_steps" K))
  tu_SIDES_steps : ∀ H : Hp, SqT K H (gd "SIDES_steps" K) [.str "front", .str "back"]
  cv_Holder_MOST_DEEP : CvT K (gd "Holder" K) "MOST_DEEP" (.int 3)
  cv_Holder_MOST_DONE : CvT K (gd "Holder" K) "MOST_DONE" (.int 120)
  cv_Holder_MOST_SAID : CvT K (gd "Holder" K) "MOST_SAID" (.int 40)
  cv_Holder_MOST_WEIGHT : CvT K (gd "Holder" K) "MOST_WEIGHT" (.int 80)
  cm_Block_of : ClmT K (gd "Block" K) "of" (He.ma K (He.ga K "Block") "of") (clsG "Block" "of" K)
  stat : PySem.W.nsIn K cStatics "thirdparty.any" = some none
  cd_Block : (PySem.W.clsIn K (gd "Block" K)).isSome = true
  cd_Change : (PySem.W.clsIn K (gd "Change" K)).isSome = true
  cd_Program : (PySem.W.clsIn K (gd "Program" K)).isSome = true
  cd_Stretch : (PySem.W.clsIn K (gd "Stretch" K)).isSome = true
  sc_Block_Block : SupC K (gd "Block" K) (gd "Block" K) "__init__" (md "Holder" "__init__" K)
  sc_Change_Change : SupC K (gd "Change" K) (gd "Change" K) "__init__" (md "Sided" "__init__" K)
  sc_Program_Program : SupC K (gd "Program" K) (gd "Program" K) "__init__" (md "Holder" "__init__" K)
  sc_Stretch_Stretch : SupC K (gd "Stretch" K) (gd "Stretch" K) "__init__" (md "Sided" "__init__" K)
  xf_BadStep : XfC K (gd "BadStep" K)
  xf_TooMany : XfC K (gd "TooMany" K)
  xm_BadStep_BadStep : PySem.W.exmOne K (.ref (gd "BadStep" K)) (.ref (gd "BadStep" K)) = some true
  xm_BadStep_TooMany : PySem.W.exmOne K (.ref (gd "BadStep" K)) (.ref (gd "TooMany" K)) = some false
  xm_TooMany_TooMany : PySem.W.exmOne K (.ref (gd "TooMany" K)) (.ref (gd "TooMany" K)) = some true
  tn__law_kept_right__law_spoilt_right : (He.cT K ("_law_kept_right", none)).2 ≠ (He.cT K ("_law_spoilt_right", none)).2
  tn__law_kept_right__law_bounds_right : (He.cT K ("_law_kept_right", none)).2 ≠ (He.cT K ("_law_bounds_right", none)).2
  tn__law_spoilt_right__law_bounds_right : (He.cT K ("_law_spoilt_right", none)).2 ≠ (He.cT K ("_law_bounds_right", none)).2
  ki_Change_Span : PySem.W.kitOne K (.ref (gd "Change" K)) (.ref (gd "Span" K)) = some false
  ki_Stretch_Span : PySem.W.kitOne K (.ref (gd "Stretch" K)) (.ref (gd "Span" K)) = some false
  ki_Block_Span : PySem.W.kitOne K (.ref (gd "Block" K)) (.ref (gd "Span" K)) = some false
  ki_Program_Span : PySem.W.kitOne K (.ref (gd "Program" K)) (.ref (gd "Span" K)) = some false
  ki_Span_Change : PySem.W.kitOne K (.ref (gd "Span" K)) (.ref (gd "Change" K)) = some false
  ki_Stretch_Change : PySem.W.kitOne K (.ref (gd "Stretch" K)) (.ref (gd "Change" K)) = some false
  ki_Block_Change : PySem.W.kitOne K (.ref (gd "Block" K)) (.ref (gd "Change" K)) = some false
  ki_Program_Change : PySem.W.kitOne K (.ref (gd "Program" K)) (.ref (gd "Change" K)) = some false
  ki_Span_Stretch : PySem.W.kitOne K (.ref (gd "Span" K)) (.ref (gd "Stretch" K)) = some false
  ki_Change_Stretch : PySem.W.kitOne K (.ref (gd "Change" K)) (.ref (gd "Stretch" K)) = some false
  ki_Block_Stretch : PySem.W.kitOne K (.ref (gd "Block" K)) (.ref (gd "Stretch" K)) = some false
  ki_Program_Stretch : PySem.W.kitOne K (.ref (gd "Program" K)) (.ref (gd "Stretch" K)) = some false
  ki_Span_Step : PySem.W.kitOne K (.ref (gd "Span" K)) (.ref (gd "Step" K)) = some false
  ki_Change_Step : PySem.W.kitOne K (.ref (gd "Change" K)) (.ref (gd "Step" K)) = some true
  ki_Stretch_Step : PySem.W.kitOne K (.ref (gd "Stretch" K)) (.ref (gd "Step" K)) = some true
  ki_Block_Step : PySem.W.kitOne K (.ref (gd "Block" K)) (.ref (gd "Step" K)) = some true
  ki_Program_Step : PySem.W.kitOne K (.ref (gd "Program" K)) (.ref (gd "Step" K)) = some false
  ki_Span_Block : PySem.W.kitOne K (.ref (gd "Span" K)) (.ref (gd "Block" K)) = some false
  ki_Change_Block : PySem.W.kitOne K (.ref (gd "Change" K)) (.ref (gd "Block" K)) = some false
  ki_Stretch_Block : PySem.W.kitOne K (.ref (gd "Stretch" K)) (.ref (gd "Block" K)) = some false
  ki_Program_Block : PySem.W.kitOne K (.ref (gd "Program" K)) (.ref (gd "Block" K)) = some false
  ki_Span_Holder : PySem.W.kitOne K (.ref (gd "Span" K)) (.ref (gd "Holder" K)) = some false
  ki_Change_Holder : PySem.W.kitOne K (.ref (gd "Change" K)) (.ref (gd "Holder" K)) = some false
  ki_Stretch_Holder : PySem.W.kitOne K (.ref (gd "Stretch" K)) (.ref (gd "Holder" K)) = some false
  ki_Block_Holder : PySem.W.kitOne K (.ref (gd "Block" K)) (.ref (gd "Holder" K)) = some true
  ki_Program_Holder : PySem.W.kitOne K (.ref (gd "Program" K)) (.ref (gd "Holder" K)) = some true
  nf_Block : NfT K (gd "Block" K)
  ne_Block : NeT K (gd "Block" K)
  nf_Block_Span : PySem.W.notFirst K (gd "Block" K) (.ref (gd "Span" K)) = true
  nf_Block_Change : PySem.W.notFirst K (gd "Block" K) (.ref (gd "Change" K)) = true
  nf_Block_Stretch : PySem.W.notFirst K (gd "Block" K) (.ref (gd "Stretch" K)) = true
  nf_Block_Block : PySem.W.notFirst K (gd "Block" K) (.ref (gd "Block" K)) = true
  nf_Block_Program : PySem.W.notFirst K (gd "Block" K) (.ref (gd "Program" K)) = true
  nf_Change : NfT K (gd "Change" K)
  ne_Change : NeT K (gd "Change" K)
  nf_Change_Span : PySem.W.notFirst K (gd "Change" K) (.ref (gd "Span" K)) = true
  nf_Change_Change : PySem.W.notFirst K (gd "Change" K) (.ref (gd "Change" K)) = true
  nf_Change_Stretch : PySem.W.notFirst K (gd "Change" K) (.ref (gd "Stretch" K)) = true
  nf_Change_Block : PySem.W.notFirst K (gd "Change" K) (.ref (gd "Block" K)) = true
  nf_Change_Program : PySem.W.notFirst K (gd "Change" K) (.ref (gd "Program" K)) = true
  nf_Span : NfT K (gd "Span" K)
  ne_Span : NeT K (gd "Span" K)
  nf_Span_Span : PySem.W.notFirst K (gd "Span" K) (.ref (gd "Span" K)) = true
  nf_Span_Change : PySem.W.notFirst K (gd "Span" K) (.ref (gd "Change" K)) = true
  nf_Span_Stretch : PySem.W.notFirst K (gd "Span" K) (.ref (gd "Stretch" K)) = true
  nf_Span_Block : PySem.W.notFirst K (gd "Span" K) (.ref (gd "Block" K)) = true
  nf_Span_Program : PySem.W.notFirst K (gd "Span" K) (.ref (gd "Program" K)) = true
  nf_Stretch : NfT K (gd "Stretch" K)
  ne_Stretch : NeT K (gd "Stretch" K)
  nf_Stretch_Span : PySem.W.notFirst K (gd "Stretch" K) (.ref (gd "Span" K)) = true
  nf_Stretch_Change : PySem.W.notFirst K (gd "Stretch" K) (.ref (gd "Change" K)) = true
  nf_Stretch_Stretch : PySem.W.notFirst K (gd "Stretch" K) (.ref (gd "Stretch" K)) = true
  nf_Stretch_Block : PySem.W.notFirst K (gd "Stretch" K) (.ref (gd "Block" K)) = true
  nf_Stretch_Program : PySem.W.notFirst K (gd "Stretch" K) (.ref (gd "Program" K)) = true
theorem tx_of {K : PySem.W.Frag} {h : Heap} {mg : Str → Option Value} (X : K.In h) (G : h.Ns mainGlobals mg) (c : Says exs fns K) : Tx K mg :=
  ⟨(He.free_ok X G (c.fact 0 rfl)), (He.free_ok X G (c.fact 1 rfl)), (He.free_ok X G (c.fact 2 rfl)), (He.free_ok X G (c.fact 3 rfl)), (He.free_ok X G (c.fact 4 rfl)), (He.free_ok X G (c.fact 5 rfl)), (He.free_ok X G (c.fact 6 rfl)), (He.free_ok X G (c.fact 7 rfl)), (He.free_ok X G (c.fact 8 rfl)), (He.free_ok X G (c.fact 9 rfl)), (He.free_ok X G (c.fact 10 rfl)), (He.free_ok X G (c.fact 11 rfl)), (He.free_ok X G (c.fact 12 rfl)), (He.free_ok X G (c.fact 13 rfl)), (He.free_ok X G (c.fact 14 rfl)), (He.free_ok X G (c.fact 15 rfl)), (He.glo_ok X G (c.fact 16 rfl)), ((c.fact 17 rfl)), (He.glo_ok X G (c.fact 18 rfl)), ((c.fact 19 rfl)), (He.glo_ok X G (c.fact 20 rfl)), ((c.fact 21 rfl)), (He.glo_ok X G (c.fact 22 rfl)), ((c.fact 23 rfl)), (He.glo_ok X G (c.fact 24 rfl)), ((c.fact 25 rfl)), (He.glo_ok X G (c.fact 26 rfl)), ((c.fact 27 rfl)), (He.glo_ok X G (c.fact 28 rfl)), ((c.fact 29 rfl)), (He.glo_ok X G (c.fact 30 rfl)), ((c.fact 31 rfl)), (He.glo_ok X G (c.fact 32 rfl)), ((c.fact 33 rfl)), (He.glo_ok X G (c.fact 34 rfl)), ((c.fact 35 rfl)), (He.glo_ok X G (c.fact 36 rfl)), ((c.fact 37 rfl)), (He.glo_ok X G (c.fact 38 rfl)), ((c.fact 39 rfl)), (He.glo_ok X G (c.fact 40 rfl)), ((c.fact 41 rfl)), (He.glo_ok X G (c.fact 42 rfl)), ((c.fact 43 rfl)), (He.glo_ok X G (c.fact 44 rfl)), ((c.fact 45 rfl)), (He.glo_ok X G (c.fact 46 rfl)), ((c.fact 47 rfl)), (He.glo_ok X G (c.fact 48 rfl)), ((c.fact 49 rfl)), (He.glo_ok X G (c.fact 50 rfl)), ((c.fact 51 rfl)), (He.glo_ok X G (c.fact 52 rfl)), ((c.fact 53 rfl)), (He.glo_ok X G (c.fact 54 rfl)), ((c.fact 55 rfl)), (He.glo_ok X G (c.fact 56 rfl)), ((c.fact 57 rfl)), (He.glo_ok X G (c.fact 58 rfl)), ((c.fact 59 rfl)), (He.glo_ok X G (c.fact 60 rfl)), ((c.fact 61 rfl)), (He.glo_ok X G (c.fact 62 rfl)), ((c.fact 63 rfl)), (He.glo_ok X G (c.fact 64 rfl)), ((c.fact 65 rfl)), (He.glo_ok X G (c.fact 66 rfl)), ((c.fact 67 rfl)), (He.glo_ok X G (c.fact 68 rfl)), ((c.fact 69 rfl)), (He.glo_ok X G (c.fact 70 rfl)), ((c.fact 71 rfl)), (He.glo_ok X G (c.fact 72 rfl)), ((c.fact 73 rfl)), (He.glo_ok X G (c.fact 74 rfl)), ((c.fact 75 rfl)), (He.glo_ok X G (c.fact 76 rfl)), ((c.fact 77 rfl)), (He.glo_ok X G (c.fact 78 rfl)), ((c.fact 79 rfl)), (He.glo_ok X G (c.fact 80 rfl)), ((c.fact 81 rfl)), (He.int_ok X G (c.fact 82 rfl)), (He.int_ok X G (c.fact 83 rfl)), (He.int_ok X G (c.fact 84 rfl)), (He.int_ok X G (c.fact 85 rfl)), (He.int_ok X G (c.fact 86 rfl)), (He.int_ok X G (c.fact 87 rfl)), (He.eqO_ok (c.fact 88 rfl)), (He.eqO_ok (c.fact 89 rfl)), (errB_ok (c.fact 90 rfl)), (oexB_ok (c.fact 91 rfl)), (iniB_ok (c.fact 92 rfl)), (of_decide_eq_true (c.fact 93 rfl)), (He.eqO_ok (c.fact 94 rfl)), (errB_ok (c.fact 95 rfl)), (oexB_ok (c.fact 96 rfl)), (iniB_ok (c.fact 97 rfl)), (of_decide_eq_true (c.fact 98 rfl)), (He.cls_ok (c.fact 99 rfl)), (insB_ok (c.fact 100 rfl)), (He.eqO_ok (c.fact 101 rfl)), (He.mkr_ok (c.fact 102 rfl)), (propB_ok (c.fact 103 rfl)), (propB_ok (c.fact 104 rfl)), (propB_ok (c.fact 105 rfl)), (He.meth_ok (c.fact 106 rfl)), (ownB_ok (c.fact 107 rfl)), (He.cls_ok (c.fact 108 rfl)), (insB_ok (c.fact 109 rfl)), (He.cls_ok (c.fact 110 rfl)), (insB_ok (c.fact 111 rfl)), (He.eqO_ok (c.fact 112 rfl)), (He.eqO_ok (c.fact 113 rfl)), (He.eqO_ok (c.fact 114 rfl)), (He.mkr_ok (c.fact 115 rfl)), (propB_ok (c.fact 116 rfl)), (He.meth_ok (c.fact 117 rfl)), (ownB_ok (c.fact 118 rfl)), (propB_ok (c.fact 119 rfl)), (propB_ok (c.fact 120 rfl)), (propB_ok (c.fact 121 rfl)), (He.cls_ok (c.fact 122 rfl)), (insB_ok (c.fact 123 rfl)), (He.eqO_ok (c.fact 124 rfl)), (He.eqO_ok (c.fact 125 rfl)), (He.eqO_ok (c.fact 126 rfl)), (He.eqO_ok (c.fact 127 rfl)), (He.mkr_ok (c.fact 128 rfl)), (propB_ok (c.fact 129 rfl)), (He.meth_ok (c.fact 130 rfl)), (ownB_ok (c.fact 131 rfl)), (propB_ok (c.fact 132 rfl)), (propB_ok (c.fact 133 rfl)), (propB_ok (c.fact 134 rfl)), (He.cls_ok (c.fact 135 rfl)), (insB_ok (c.fact 136 rfl)), (He.cls_ok (c.fact 137 rfl)), (insB_ok (c.fact 138 rfl)), (He.eqO_ok (c.fact 139 rfl)), (He.eqO_ok (c.fact 140 rfl)), (propB_ok (c.fact 141 rfl)), (propB_ok (c.fact 142 rfl)), (propB_ok (c.fact 143 rfl)), (propB_ok (c.fact 144 rfl)), (He.mkr_ok (c.fact 145 rfl)), (He.meth_ok (c.fact 146 rfl)), (ownB_ok (c.fact 147 rfl)), (He.cls_ok (c.fact 148 rfl)), (insB_ok (c.fact 149 rfl)), (He.cls_ok (c.fact 150 rfl)), (insB_ok (c.fact 151 rfl)), (He.eqO_ok (c.fact 152 rfl)), (propB_ok (c.fact 153 rfl)), (propB_ok (c.fact 154 rfl)), (propB_ok (c.fact 155 rfl)), (propB_ok (c.fact 156 rfl)), (He.mkr_ok (c.fact 157 rfl)), (Gp.dtB_ok (c.fact 158 rfl)), (Gp.dtB_ok (c.fact 159 rfl)), (He.glo_ok X G (c.fact 160 rfl)), (fun H => He.tupB_ok (c.fact 161 rfl) H), (He.glo_ok X G (c.fact 162 rfl)), (fun H => He.tupB_ok (c.fact 163 rfl) H), (cvB_ok (c.fact 164 rfl)), (cvB_ok (c.fact 165 rfl)), (cvB_ok (c.fact 166 rfl)), (cvB_ok (c.fact 167 rfl)), (clmB_ok (c.fact 168 rfl)), (He.eqO_ok (c.fact 169 rfl)), ((c.fact 170 rfl)), ((c.fact 171 rfl)), ((c.fact 172 rfl)), ((c.fact 173 rfl)), (supCB_ok (c.fact 174 rfl)), (supCB_ok (c.fact 175 rfl)), (supCB_ok (c.fact 176 rfl)), (supCB_ok (c.fact 177 rfl)), (xfB_ok (c.fact 178 rfl)), (xfB_ok (c.fact 179 rfl)), (of_decide_eq_true (c.fact 180 rfl)), (of_decide_eq_true (c.fact 181 rfl)), (of_decide_eq_true (c.fact 182 rfl)), (of_decide_eq_true (c.fact 183 rfl)), (of_decide_eq_true (c.fact 184 rfl)), (of_decide_eq_true (c.fact 185 rfl)), (of_decide_eq_true (c.fact 186 rfl)), (of_decide_eq_true (c.fact 187 rfl)), (of_decide_eq_true (c.fact 188 rfl)), (of_decide_eq_true (c.fact 189 rfl)), (of_decide_eq_true (c.fact 190 rfl)), (of_decide_eq_true (c.fact 191 rfl)), (of_decide_eq_true (c.fact 192 rfl)), (of_decide_eq_true (c.fact 193 rfl)), (of_decide_eq_true (c.fact 194 rfl)), (of_decide_eq_true (c.fact 195 rfl)), (of_decide_eq_true (c.fact 196 rfl)), (of_decide_eq_true (c.fact 197 rfl)), (of_decide_eq_true (c.fact 198 rfl)), (of_decide_eq_true (c.fact 199 rfl)), (of_decide_eq_true (c.fact 200 rfl)), (of_decide_eq_true (c.fact 201 rfl)), (of_decide_eq_true (c.fact 202 rfl)), (of_decide_eq_true (c.fact 203 rfl)), (of_decide_eq_true (c.fact 204 rfl)), (of_decide_eq_true (c.fact 205 rfl)), (of_decide_eq_true (c.fact 206 rfl)), (of_decide_eq_true (c.fact 207 rfl)), (of_decide_eq_true (c.fact 208 rfl)), (of_decide_eq_true (c.fact 209 rfl)), (of_decide_eq_true (c.fact 210 rfl)), (of_decide_eq_true (c.fact 211 rfl)), (nfB_ok (c.fact 212 rfl)), (neB_ok (c.fact 213 rfl)), ((c.fact 214 rfl)), ((c.fact 215 rfl)), ((c.fact 216 rfl)), ((c.fact 217 rfl)), ((c.fact 218 rfl)), (nfB_ok (c.fact 219 rfl)), (neB_ok (c.fact 220 rfl)), ((c.fact 221 rfl)), ((c.fact 222 rfl)), ((c.fact 223 rfl)), ((c.fact 224 rfl)), ((c.fact 225 rfl)), (nfB_ok (c.fact 226 rfl)), (neB_ok (c.fact 227 rfl)), ((c.fact 228 rfl)), ((c.fact 229 rfl)), ((c.fact 230 rfl)), ((c.fact 231 rfl)), ((c.fact 232 rfl)), (nfB_ok (c.fact 233 rfl)), (neB_ok (c.fact 234 rfl)), ((c.fact 235 rfl)), ((c.fact 236 rfl)), ((c.fact 237 rfl)), ((c.fact 238 rfl)), ((c.fact 239 rfl))⟩
section
variable {K : PySem.W.Frag} {mg : Str → Option Value} {Tb : List (Addr × Str)} {p c : Addr}
def isi_int : D → Option Bool := isF (fun n => kitB n "int") [("Span", false), ("Change", false), ("Stretch", false), ("Block", false), ("Program", false)] []
theorem isT_int (T : Tx K mg) : IsT ⟨K, Tb, p, c⟩ (.type "int") isi_int := isT_of (fun n k h => kit_ty h) (fun c k h => (look_cons h).elim (fun e => by obtain ⟨rfl, rfl⟩ := e; exact ⟨T.cl_Span, T.ty_Span, T.ty_Span.out _ (by decide)⟩) (fun h => (look_cons h).elim (fun e => by obtain ⟨rfl, rfl⟩ := e; exact ⟨T.cl_Change, T.ty_Change, T.ty_Change.out _ (by decide)⟩) (fun h => (look_cons h).elim (fun e => by obtain ⟨rfl, rfl⟩ := e; exact ⟨T.cl_Stretch, T.ty_Stretch, T.ty_Stretch.out _ (by decide)⟩) (fun h => (look_cons h).elim (fun e => by obtain ⟨rfl, rfl⟩ := e; exact ⟨T.cl_Block, T.ty_Block, T.ty_Block.out _ (by decide)⟩) (fun h => (look_cons h).elim (fun e => by obtain ⟨rfl, rfl⟩ := e; exact ⟨T.cl_Program, T.ty_Program, T.ty_Program.out _ (by decide)⟩) (fun h => nomatch h)))))) (fun c k h => nomatch h)
def isi_bool : D → Option Bool := isF (fun n => kitB n "bool") [("Span", false), ("Change", false), ("Stretch", false), ("Block", false), ("Program", false)] []
theorem isT_bool (T : Tx K mg) : IsT ⟨K, Tb, p, c⟩ (.type "bool") isi_bool := isT_of (fun n k h => kit_ty h) (fun c k h => (look_cons h).elim (fun e => by obtain ⟨rfl, rfl⟩ := e; exact ⟨T.cl_Span, T.ty_Span, T.ty_Span.out _ (by decide)⟩) (fun h => (look_cons h).elim (fun e => by obtain ⟨rfl, rfl⟩ := e; exact ⟨T.cl_Change, T.ty_Change, T.ty_Change.out _ (by decide)⟩) (fun h => (look_cons h).elim (fun e => by obtain ⟨rfl, rfl⟩ := e; exact ⟨T.cl_Stretch, T.ty_Stretch, T.ty_Stretch.out _ (by decide)⟩) (fun h => (look_cons h).elim (fun e => by obtain ⟨rfl, rfl⟩ := e; exact ⟨T.cl_Block, T.ty_Block, T.ty_Block.out _ (by decide)⟩) (fun h => (look_cons h).elim (fun e => by obtain ⟨rfl, rfl⟩ := e; exact ⟨T.cl_Program, T.ty_Program, T.ty_Program.out _ (by decide)⟩) (fun h => nomatch h)))))) (fun c k h => nomatch h)
def isi_Span : D → Option Bool := isF (fun n => if n ∈ (["NoneType", "bool", "int", "str", "list", "tuple", "dict"] : List String) then some false else none) [("Span", true), ("Change", false), ("Stretch", false), ("Block", false), ("Program", false)] []
theorem isT_Span (T : Tx K mg) : IsT ⟨K, Tb, p, c⟩ (.ref (gd "Span" K)) isi_Span := isT_of (fun n k h => by
  split at h
  · rename_i z
    cases h
    exact T.ty_Span.no n z
  · cases h) (fun c k h => (look_cons h).elim (fun e => by obtain ⟨rfl, rfl⟩ := e; exact ⟨T.cl_Span, T.ty_Span, T.ty_Span.yes⟩) (fun h => (look_cons h).elim (fun e => by obtain ⟨rfl, rfl⟩ := e; exact ⟨T.cl_Change, T.ty_Change, T.ki_Change_Span⟩) (fun h => (look_cons h).elim (fun e => by obtain ⟨rfl, rfl⟩ := e; exact ⟨T.cl_Stretch, T.ty_Stretch, T.ki_Stretch_Span⟩) (fun h => (look_cons h).elim (fun e => by obtain ⟨rfl, rfl⟩ := e; exact ⟨T.cl_Block, T.ty_Block, T.ki_Block_Span⟩) (fun h => (look_cons h).elim (fun e => by obtain ⟨rfl, rfl⟩ := e; exact ⟨T.cl_Program, T.ty_Program, T.ki_Program_Span⟩) (fun h => nomatch h)))))) (fun c k h => nomatch h)
def isi_list_tuple : D → Option Bool := isF (fun n => (kitB n "list").bind fun a => (kitB n "tuple").map fun b => a || b) [("Span", false), ("Change", false), ("Stretch", false), ("Block", false), ("Program", false)] []
theorem isT_list_tuple (T : Tx K mg) : IsA ⟨K, Tb, p, c⟩ [.type "list", .type "tuple"] isi_list_tuple := isA_of (fun n k h => kitAny2 h) (fun c k h => (look_cons h).elim (fun e => by obtain ⟨rfl, rfl⟩ := e; exact ⟨T.cl_Span, T.ty_Span, kitAny_cons (T.ty_Span.out _ (by decide)) (fun _ => kitAny_cons (T.ty_Span.out _ (by decide)) (fun _ => rfl) (fun z => by cases z)) (fun z => by cases z)⟩) (fun h => (look_cons h).elim (fun e => by obtain ⟨rfl, rfl⟩ := e; exact ⟨T.cl_Change, T.ty_Change, kitAny_cons (T.ty_Change.out _ (by decide)) (fun _ => kitAny_cons (T.ty_Change.out _ (by decide)) (fun _ => rfl) (fun z => by cases z)) (fun z => by cases z)⟩) (fun h => (look_cons h).elim (fun e => by obtain ⟨rfl, rfl⟩ := e; exact ⟨T.cl_Stretch, T.ty_Stretch, kitAny_cons (T.ty_Stretch.out _ (by decide)) (fun _ => kitAny_cons (T.ty_Stretch.out _ (by decide)) (fun _ => rfl) (fun z => by cases z)) (fun z => by cases z)⟩) (fun h => (look_cons h).elim (fun e => by obtain ⟨rfl, rfl⟩ := e; exact ⟨T.cl_Block, T.ty_Block, kitAny_cons (T.ty_Block.out _ (by decide)) (fun _ => kitAny_cons (T.ty_Block.out _ (by decide)) (fun _ => rfl) (fun z => by cases z)) (fun z => by cases z)⟩) (fun h => (look_cons h).elim (fun e => by obtain ⟨rfl, rfl⟩ := e; exact ⟨T.cl_Program, T.ty_Program, kitAny_cons (T.ty_Program.out _ (by decide)) (fun _ => kitAny_cons (T.ty_Program.out _ (by decide)) (fun _ => rfl) (fun z => by cases z)) (fun z => by cases z)⟩) (fun h => nomatch h))))))
def isi_str : D → Option Bool := isF (fun n => kitB n "str") [("Span", false), ("Change", false), ("Stretch", false), ("Block", false), ("Program", false)] []
theorem isT_str (T : Tx K mg) : IsT ⟨K, Tb, p, c⟩ (.type "str") isi_str := isT_of (fun n k h => kit_ty h) (fun c k h => (look_cons h).elim (fun e => by obtain ⟨rfl, rfl⟩ := e; exact ⟨T.cl_Span, T.ty_Span, T.ty_Span.out _ (by decide)⟩) (fun h => (look_cons h).elim (fun e => by obtain ⟨rfl, rfl⟩ := e; exact ⟨T.cl_Change, T.ty_Change, T.ty_Change.out _ (by decide)⟩) (fun h => (look_cons h).elim (fun e => by obtain ⟨rfl, rfl⟩ := e; exact ⟨T.cl_Stretch, T.ty_Stretch, T.ty_Stretch.out _ (by decide)⟩) (fun h => (look_cons h).elim (fun e => by obtain ⟨rfl, rfl⟩ := e; exact ⟨T.cl_Block, T.ty_Block, T.ty_Block.out _ (by decide)⟩) (fun h => (look_cons h).elim (fun e => by obtain ⟨rfl, rfl⟩ := e; exact ⟨T.cl_Program, T.ty_Program, T.ty_Program.out _ (by decide)⟩) (fun h => nomatch h)))))) (fun c k h => nomatch h)
def isi_Change : D → Option Bool := isF (fun n => if n ∈ (["NoneType", "bool", "int", "str", "list", "tuple", "dict"] : List String) then some false else none) [("Span", false), ("Change", true), ("Stretch", false), ("Block", false), ("Program", false)] []
theorem isT_Change (T : Tx K mg) : IsT ⟨K, Tb, p, c⟩ (.ref (gd "Change" K)) isi_Change := isT_of (fun n k h => by
  split at h
  · rename_i z
    cases h
    exact T.ty_Change.no n z
  · cases h) (fun c k h => (look_cons h).elim (fun e => by obtain ⟨rfl, rfl⟩ := e; exact ⟨T.cl_Span, T.ty_Span, T.ki_Span_Change⟩) (fun h => (look_cons h).elim (fun e => by obtain ⟨rfl, rfl⟩ := e; exact ⟨T.cl_Change, T.ty_Change, T.ty_Change.yes⟩) (fun h => (look_cons h).elim (fun e => by obtain ⟨rfl, rfl⟩ := e; exact ⟨T.cl_Stretch, T.ty_Stretch, T.ki_Stretch_Change⟩) (fun h => (look_cons h).elim (fun e => by obtain ⟨rfl, rfl⟩ := e; exact ⟨T.cl_Block, T.ty_Block, T.ki_Block_Change⟩) (fun h => (look_cons h).elim (fun e => by obtain ⟨rfl, rfl⟩ := e; exact ⟨T.cl_Program, T.ty_Program, T.ki_Program_Change⟩) (fun h => nomatch h)))))) (fun c k h => nomatch h)
def isi_Stretch : D → Option Bool := isF (fun n => if n ∈ (["NoneType", "bool", "int", "str", "list", "tuple", "dict"] : List String) then some false else none) [("Span", false), ("Change", false), ("Stretch", true), ("Block", false), ("Program", false)] []
theorem isT_Stretch (T : Tx K mg) : IsT ⟨K, Tb, p, c⟩ (.ref (gd "Stretch" K)) isi_Stretch := isT_of (fun n k h => by
  split at h
  · rename_i z
    cases h
    exact T.ty_Stretch.no n z
  · cases h) (fun c k h => (look_cons h).elim (fun e => by obtain ⟨rfl, rfl⟩ := e; exact ⟨T.cl_Span, T.ty_Span, T.ki_Span_Stretch⟩) (fun h => (look_cons h).elim (fun e => by obtain ⟨rfl, rfl⟩ := e; exact ⟨T.cl_Change, T.ty_Change, T.ki_Change_Stretch⟩) (fun h => (look_cons h).elim (fun e => by obtain ⟨rfl, rfl⟩ := e; exact ⟨T.cl_Stretch, T.ty_Stretch, T.ty_Stretch.yes⟩) (fun h => (look_cons h).elim (fun e => by obtain ⟨rfl, rfl⟩ := e; exact ⟨T.cl_Block, T.ty_Block, T.ki_Block_Stretch⟩) (fun h => (look_cons h).elim (fun e => by obtain ⟨rfl, rfl⟩ := e; exact ⟨T.cl_Program, T.ty_Program, T.ki_Program_Stretch⟩) (fun h => nomatch h)))))) (fun c k h => nomatch h)
def isi_Step : D → Option Bool := isF (fun n => if n ∈ (["NoneType", "bool", "int", "str", "list", "tuple", "dict"] : List String) then some false else none) [("Span", false), ("Change", true), ("Stretch", true), ("Block", true), ("Program", false)] []
theorem isT_Step (T : Tx K mg) : IsT ⟨K, Tb, p, c⟩ (.ref (gd "Step" K)) isi_Step := isT_of (fun n k h => by
  split at h
  · rename_i z
    cases h
    exact T.ty_Step.no n z
  · cases h) (fun c k h => (look_cons h).elim (fun e => by obtain ⟨rfl, rfl⟩ := e; exact ⟨T.cl_Span, T.ty_Span, T.ki_Span_Step⟩) (fun h => (look_cons h).elim (fun e => by obtain ⟨rfl, rfl⟩ := e; exact ⟨T.cl_Change, T.ty_Change, T.ki_Change_Step⟩) (fun h => (look_cons h).elim (fun e => by obtain ⟨rfl, rfl⟩ := e; exact ⟨T.cl_Stretch, T.ty_Stretch, T.ki_Stretch_Step⟩) (fun h => (look_cons h).elim (fun e => by obtain ⟨rfl, rfl⟩ := e; exact ⟨T.cl_Block, T.ty_Block, T.ki_Block_Step⟩) (fun h => (look_cons h).elim (fun e => by obtain ⟨rfl, rfl⟩ := e; exact ⟨T.cl_Program, T.ty_Program, T.ki_Program_Step⟩) (fun h => nomatch h)))))) (fun c k h => nomatch h)
def isi_Block : D → Option Bool := isF (fun n => if n ∈ (["NoneType", "bool", "int", "str", "list", "tuple", "dict"] : List String) then some false else none) [("Span", false), ("Change", false), ("Stretch", false), ("Block", true), ("Program", false)] []
theorem isT_Block (T : Tx K mg) : IsT ⟨K, Tb, p, c⟩ (.ref (gd "Block" K)) isi_Block := isT_of (fun n k h => by
  split at h
  · rename_i z
    cases h
    exact T.ty_Block.no n z
  · cases h) (fun c k h => (look_cons h).elim (fun e => by obtain ⟨rfl, rfl⟩ := e; exact ⟨T.cl_Span, T.ty_Span, T.ki_Span_Block⟩) (fun h => (look_cons h).elim (fun e => by obtain ⟨rfl, rfl⟩ := e; exact ⟨T.cl_Change, T.ty_Change, T.ki_Change_Block⟩) (fun h => (look_cons h).elim (fun e => by obtain ⟨rfl, rfl⟩ := e; exact ⟨T.cl_Stretch, T.ty_Stretch, T.ki_Stretch_Block⟩) (fun h => (look_cons h).elim (fun e => by obtain ⟨rfl, rfl⟩ := e; exact ⟨T.cl_Block, T.ty_Block, T.ty_Block.yes⟩) (fun h => (look_cons h).elim (fun e => by obtain ⟨rfl, rfl⟩ := e; exact ⟨T.cl_Program, T.ty_Program, T.ki_Program_Block⟩) (fun h => nomatch h)))))) (fun c k h => nomatch h)
def isi_Holder : D → Option Bool := isF (fun n => if n ∈ (["NoneType", "bool", "int", "str", "list", "tuple", "dict"] : List String) then some false else none) [("Span", false), ("Change", false), ("Stretch", false), ("Block", true), ("Program", true)] []
theorem isT_Holder (T : Tx K mg) : IsT ⟨K, Tb, p, c⟩ (.ref (gd "Holder" K)) isi_Holder := isT_of (fun n k h => by
  split at h
  · rename_i z
    cases h
    exact T.ty_Holder.no n z
  · cases h) (fun c k h => (look_cons h).elim (fun e => by obtain ⟨rfl, rfl⟩ := e; exact ⟨T.cl_Span, T.ty_Span, T.ki_Span_Holder⟩) (fun h => (look_cons h).elim (fun e => by obtain ⟨rfl, rfl⟩ := e; exact ⟨T.cl_Change, T.ty_Change, T.ki_Change_Holder⟩) (fun h => (look_cons h).elim (fun e => by obtain ⟨rfl, rfl⟩ := e; exact ⟨T.cl_Stretch, T.ty_Stretch, T.ki_Stretch_Holder⟩) (fun h => (look_cons h).elim (fun e => by obtain ⟨rfl, rfl⟩ := e; exact ⟨T.cl_Block, T.ty_Block, T.ki_Block_Holder⟩) (fun h => (look_cons h).elim (fun e => by obtain ⟨rfl, rfl⟩ := e; exact ⟨T.cl_Program, T.ty_Program, T.ki_Program_Holder⟩) (fun h => nomatch h)))))) (fun c k h => nomatch h)
def eqr_Block : D → Bool := eqF0 ["Span", "Change", "Stretch", "Block", "Program"]
theorem eqR_Block (T : Tx K mg) : EqR ⟨K, Tb, p, c⟩ "Block" eqr_Block := eqR_of (fun n hn => T.nf_Block.ok n hn) (fun c h => by
  simp only [List.mem_cons, List.mem_nil_iff, or_false] at h
  rcases h with rfl | rfl | rfl | rfl | rfl
  · exact ⟨T.cl_Span, T.ty_Span, T.nf_Block_Span⟩
  · exact ⟨T.cl_Change, T.ty_Change, T.nf_Block_Change⟩
  · exact ⟨T.cl_Stretch, T.ty_Stretch, T.nf_Block_Stretch⟩
  · exact ⟨T.cl_Block, T.ty_Block, T.nf_Block_Block⟩
  · exact ⟨T.cl_Program, T.ty_Program, T.nf_Block_Program⟩)
def eqr_Span : D → Bool := eqF0 ["Span", "Change", "Stretch", "Block", "Program"]
theorem eqR_Span (T : Tx K mg) : EqR ⟨K, Tb, p, c⟩ "Span" eqr_Span := eqR_of (fun n hn => T.nf_Span.ok n hn) (fun c h => by
  simp only [List.mem_cons, List.mem_nil_iff, or_false] at h
  rcases h with rfl | rfl | rfl | rfl | rfl
  · exact ⟨T.cl_Span, T.ty_Span, T.nf_Span_Span⟩
  · exact ⟨T.cl_Change, T.ty_Change, T.nf_Span_Change⟩
  · exact ⟨T.cl_Stretch, T.ty_Stretch, T.nf_Span_Stretch⟩
  · exact ⟨T.cl_Block, T.ty_Block, T.nf_Span_Block⟩
  · exact ⟨T.cl_Program, T.ty_Program, T.nf_Span_Program⟩)
end
end Lw
end
section
set_option Elab.async false
set_option linter.all false
set_option maxRecDepth 100000
set_option maxHeartbeats 4000000
set_option pp.maxSteps 600
namespace Lw
open PySem PySem.Spec PyProof.Rows L2 Gh
local macro_rules | `(tactic| nofun) => `(tactic| (first | assumption | exact Ne.symm (by assumption) | (apply nw_pen'; (· assumption); (· assumption); (· ac_rfl)) | (apply Ne.symm; apply nw_pen'; (· assumption); (· assumption); (· ac_rfl)) | (apply nw_cell'; (· assumption); (· assumption); (· ac_rfl)) | (apply Ne.symm; apply nw_cell'; (· assumption); (· assumption); (· ac_rfl)) | (apply none_pen'; (· assumption); (· assumption); (· ac_rfl)) | (apply Ne.symm; apply none_pen'; (· assumption); (· assumption); (· ac_rfl)) | (apply none_cell'; (· assumption); (· assumption); (· ac_rfl)) | (apply Ne.symm; apply none_cell'; (· assumption); (· assumption); (· ac_rfl)) | (apply tup_pen'; (· assumption); (· assumption); (· ac_rfl)) | (apply Ne.symm; apply tup_pen'; (· assumption); (· assumption); (· ac_rfl)) | (apply tup_cell'; (· assumption); (· assumption); (· ac_rfl)) | (apply Ne.symm; apply tup_cell'; (· assumption); (· assumption); (· ac_rfl)) | (apply ins_pen'; (· assumption); (· assumption); (· ac_rfl)) | (apply Ne.symm; apply ins_pen'; (· assumption); (· assumption); (· ac_rfl)) | (apply ins_cell'; (· assumption); (· assumption); (· ac_rfl)) | (apply Ne.symm; apply ins_cell'; (· assumption); (· assumption); (· ac_rfl)) | (apply ins_lst; (· assumption); (· infer_instance)) | (apply Ne.symm; apply ins_lst; (· assumption); (· infer_instance)) | (apply ins_tup; (· assumption); (· infer_instance)) | (apply Ne.symm; apply ins_tup; (· assumption); (· infer_instance)) | (apply tup_lst; (· assumption); (· infer_instance)) | (apply Ne.symm; apply tup_lst; (· assumption); (· infer_instance)) | (apply nw_ne; (· assumption); (· infer_instance)) | (apply Ne.symm; apply nw_ne; (· assumption); (· infer_instance)) | (apply none_ne; (· assumption); (· infer_instance)) | (apply Ne.symm; apply none_ne; (· assumption); (· infer_instance))))
local macro_rules | `(tactic| ac_rfl) => `(tactic| ((repeat (first | assumption | (apply Pen.nw; (focus assumption)) | (apply Pen.same; (focus assumption)) | (apply Pen.mu; (focus assumption); (focus nofun); (focus nofun)) | (apply Pen.keep; (focus assumption); (focus nofun); (focus nofun)))); done))
local macro_rules | `(tactic| infer_instance) => `(tactic| ((repeat (first | assumption | (apply Nw.at_; assumption) | (apply Mu.at_; assumption) | (apply Nw.up; (focus assumption)) | (apply same_up; (focus assumption)) | (apply Mu.up; (focus assumption); (focus nofun)) | (apply keep_up; (focus assumption); (focus nofun)) | (apply keep2_up; (focus assumption); (focus nofun); (focus nofun)))); done))
local macro_rules | `(tactic| symm_saturate) => `(tactic| (repeat (first | with_reducible refine st_seq ?_ | with_reducible refine st_asg ?_ | with_reducible refine st_name ?_ | with_reducible refine st_ret ?_ | with_reducible refine st_drop ?_ | with_reducible refine st_ifS ?_ | with_reducible refine st_nx ?_ | with_reducible refine st_brk ?_ | with_reducible refine st_cnt ?_ | with_reducible refine st_c ?_ | with_reducible refine st_op ?_ | with_reducible refine st_un ?_ | with_reducible refine st_rI0 ?_ | with_reducible refine st_cons ?_ | with_reducible refine st_nil ?_ | with_reducible refine st_cl ?_ | with_reducible refine st_cb ?_ | with_reducible refine st_mt ?_ | with_reducible refine st_pr ?_ | with_reducible refine st_test ?_ | with_reducible refine st_ebl ?_ | with_reducible refine st_eint ?_ | with_reducible refine st_par ?_ | with_reducible refine st_par2 ?_ | with_reducible refine st_and ?_ | with_reducible refine st_or ?_ | with_reducible refine st_not ?_ | with_reducible refine st_andV ?_ | with_reducible refine st_orV ?_ | with_reducible refine st_notV ?_ | with_reducible refine st_ifE ?_ | with_reducible refine st_chain ?_ | with_reducible refine st_lst ?_ | with_reducible refine st_tup ?_ | with_reducible refine st_retN ?_ | with_reducible refine st_rU ?_ | with_reducible refine st_rAdd ?_ | with_reducible refine st_rSub ?_ | with_reducible refine st_isN ?_ | with_reducible refine st_notN ?_ | with_reducible refine st_sF ?_ | with_reducible refine st_int ?_ | with_reducible refine st_intB ?_ | with_reducible refine st_abs ?_ | with_reducible refine st_sl ?_ | with_reducible refine st_part ?_ | with_reducible refine st_nopart ?_ | with_reducible refine st_bm ?_ | with_reducible refine st_bm0 ?_ | with_reducible refine st_tyS ?_ | with_reducible refine st_gsub ?_ | with_reducible refine st_gcons ?_ | with_reducible refine st_gnil ?_ | with_reducible refine st_chain3 ?_ | with_reducible refine st_gsl ?_ | with_reducible refine st_clK ?_ | with_reducible refine st_mtK ?_ | with_reducible refine st_lcR1 ?_ | with_reducible refine st_lcR2 ?_ | with_reducible refine st_lcL ?_ | with_reducible refine st_lcT ?_ | with_reducible refine st_yes ?_ | with_reducible refine st_forR1 ?_ | with_reducible refine st_forR2 ?_ | with_reducible refine st_forL ?_ | with_reducible refine st_forT ?_ | with_reducible refine st_forE ?_ | with_reducible refine st_list ?_ | with_reducible refine st_itup ?_ | with_reducible refine st_tB ?_ | ((with_reducible apply st_var); exact rfl) | ((with_reducible apply st_aug); exact rfl) | ((with_reducible apply st_eq); exact rfl) | ((with_reducible apply st_ne); exact rfl) | ((with_reducible apply st_spK); (focus exact rfl); (focus exact rfl)) | ((with_reducible apply st_rI); (first | decide | (refine Or.inl ⟨?_, ?_⟩ <;> omega) | (refine Or.inr ⟨?_, ?_⟩ <;> omega) | (show (0 : Int) < _; omega) | exact ⟨by omega, log_of (by omega) (by omega)⟩ | exact ⟨by decide, by decide, by decide⟩)) | ((with_reducible apply st_powK); (focus exact ⟨by decide, by decide, by decide⟩); (focus decide)) | ((with_reducible apply st_eR1); (focus omega); (focus omega)) | ((with_reducible apply st_eR2); (focus omega)) | ((with_reducible apply st_if1); (first | with_reducible rfl | assumption | exact rfl | decide | (simp only [decide_eq_true_eq, decide_eq_false_iff_not, Bool.not_eq_true', Bool.not_eq_false', Bool.not_true, Bool.not_false, Bool.true_and, Bool.and_true, Bool.false_and, Bool.and_false, V.int.injEq, V.str.injEq, V.bl.injEq, V.ref.injEq, reduceCtorEq, not_true, not_false_eq_true, decide_true, decide_false, Int.not_lt, Int.not_le, ne_eq, List.length_cons, List.length_nil, List.length_map, List.length_append, List.length_set, List.length_take, List.length_drop] <;> omega))) | ((with_reducible apply st_if0); (first | with_reducible rfl | assumption | exact rfl | decide | (simp only [decide_eq_true_eq, decide_eq_false_iff_not, Bool.not_eq_true', Bool.not_eq_false', Bool.not_true, Bool.not_false, Bool.true_and, Bool.and_true, Bool.false_and, Bool.and_false, V.int.injEq, V.str.injEq, V.bl.injEq, V.ref.injEq, reduceCtorEq, not_true, not_false_eq_true, decide_true, decide_false, Int.not_lt, Int.not_le, ne_eq, List.length_cons, List.length_nil, List.length_map, List.length_append, List.length_set, List.length_take, List.length_drop] <;> omega))) | ((with_reducible apply st_lenL); (focus infer_instance)) | ((with_reducible apply st_lenT); (focus infer_instance)) | ((with_reducible apply st_tupT); (focus infer_instance)) | ((with_reducible apply st_tyL); (focus infer_instance)) | ((with_reducible apply st_elist); (focus infer_instance)) | ((with_reducible apply st_eitup); (focus infer_instance)) | ((with_reducible apply st_eE); (focus infer_instance)) | ((with_reducible apply st_epr); (focus infer_instance)) | ((with_reducible apply st_setO); (focus infer_instance)) | ((with_reducible apply st_ixO); (focus infer_instance)) | ((with_reducible apply st_ixLs); (focus assumption); (focus (first | exact rfl | exact atI_nat (by assumption)))) | ((with_reducible apply st_ixTs); (focus assumption); (focus (first | exact rfl | exact atI_nat (by assumption)))) | ((with_reducible apply st_fld); (focus infer_instance); (focus exact rfl)) | ((with_reducible apply st_const); (focus infer_instance); (focus exact rfl)) | ((with_reducible apply st_emt); (focus infer_instance); (focus exact rfl)) | ((with_reducible apply st_ixL); (focus infer_instance); (focus (first | exact rfl | exact atI_nat (by assumption)))) | ((with_reducible apply st_ixT); (focus infer_instance); (focus (first | exact rfl | exact atI_nat (by assumption)))) | ((with_reducible apply st_gtup); (focus infer_instance); (focus (first | exact rfl | exact atI_nat (by assumption)))))))
local macro_rules | `(tactic| subst_eqs) => `(tactic| (repeat (first | with_reducible refine st_seq ?_ | with_reducible refine st_asg ?_ | with_reducible refine st_name ?_ | with_reducible refine st_ret ?_ | with_reducible refine st_drop ?_ | with_reducible refine st_ifS ?_ | with_reducible refine st_nx ?_ | with_reducible refine st_brk ?_ | with_reducible refine st_cnt ?_ | with_reducible refine st_c ?_ | with_reducible refine st_op ?_ | with_reducible refine st_un ?_ | with_reducible refine st_rI0 ?_ | with_reducible refine st_cons ?_ | with_reducible refine st_nil ?_ | with_reducible refine st_cl ?_ | with_reducible refine st_cb ?_ | with_reducible refine st_mt ?_ | with_reducible refine st_pr ?_ | with_reducible refine st_test ?_ | with_reducible refine st_ebl ?_ | with_reducible refine st_eint ?_ | with_reducible refine st_par ?_ | with_reducible refine st_par2 ?_ | with_reducible refine st_and ?_ | with_reducible refine st_or ?_ | with_reducible refine st_not ?_ | with_reducible refine st_andV ?_ | with_reducible refine st_orV ?_ | with_reducible refine st_notV ?_ | with_reducible refine st_ifE ?_ | with_reducible refine st_chain ?_ | with_reducible refine st_lst ?_ | with_reducible refine st_tup ?_ | with_reducible refine st_retN ?_ | with_reducible refine st_rU ?_ | with_reducible refine st_rAdd ?_ | with_reducible refine st_rSub ?_ | with_reducible refine st_isN ?_ | with_reducible refine st_notN ?_ | with_reducible refine st_sF ?_ | with_reducible refine st_int ?_ | with_reducible refine st_intB ?_ | with_reducible refine st_abs ?_ | with_reducible refine st_sl ?_ | with_reducible refine st_part ?_ | with_reducible refine st_nopart ?_ | with_reducible refine st_bm ?_ | with_reducible refine st_bm0 ?_ | with_reducible refine st_tyS ?_ | with_reducible refine st_gsub ?_ | with_reducible refine st_gcons ?_ | with_reducible refine st_gnil ?_ | with_reducible refine st_chain3 ?_ | with_reducible refine st_gsl ?_ | with_reducible refine st_clK ?_ | with_reducible refine st_mtK ?_ | with_reducible refine st_lcR1 ?_ | with_reducible refine st_lcR2 ?_ | with_reducible refine st_lcL ?_ | with_reducible refine st_lcT ?_ | with_reducible refine st_yes ?_ | with_reducible refine st_forR1 ?_ | with_reducible refine st_forR2 ?_ | with_reducible refine st_forL ?_ | with_reducible refine st_forT ?_ | with_reducible refine st_forE ?_ | with_reducible refine st_list ?_ | with_reducible refine st_itup ?_ | with_reducible refine st_tB ?_ | ((with_reducible apply st_var); exact rfl) | ((with_reducible apply st_aug); exact rfl) | ((with_reducible apply st_eq); exact rfl) | ((with_reducible apply st_ne); exact rfl) | ((with_reducible apply st_spK); (focus exact rfl); (focus exact rfl)) | ((with_reducible apply st_rI); (first | decide | (refine Or.inl ⟨?_, ?_⟩ <;> omega) | (refine Or.inr ⟨?_, ?_⟩ <;> omega) | (show (0 : Int) < _; omega) | exact ⟨by omega, log_of (by omega) (by omega)⟩ | exact ⟨by decide, by decide, by decide⟩)) | ((with_reducible apply st_powK); (focus exact ⟨by decide, by decide, by decide⟩); (focus decide)) | ((with_reducible apply st_eR1); (focus omega); (focus omega)) | ((with_reducible apply st_eR2); (focus omega)) | ((with_reducible apply st_if1); (first | with_reducible rfl | assumption | exact rfl | decide | (simp only [decide_eq_true_eq, decide_eq_false_iff_not, Bool.not_eq_true', Bool.not_eq_false', Bool.not_true, Bool.not_false, Bool.true_and, Bool.and_true, Bool.false_and, Bool.and_false, V.int.injEq, V.str.injEq, V.bl.injEq, V.ref.injEq, reduceCtorEq, not_true, not_false_eq_true, decide_true, decide_false, Int.not_lt, Int.not_le, ne_eq, List.length_cons, List.length_nil, List.length_map, List.length_append, List.length_set, List.length_take, List.length_drop] <;> omega))) | ((with_reducible apply st_if0); (first | with_reducible rfl | assumption | exact rfl | decide | (simp only [decide_eq_true_eq, decide_eq_false_iff_not, Bool.not_eq_true', Bool.not_eq_false', Bool.not_true, Bool.not_false, Bool.true_and, Bool.and_true, Bool.false_and, Bool.and_false, V.int.injEq, V.str.injEq, V.bl.injEq, V.ref.injEq, reduceCtorEq, not_true, not_false_eq_true, decide_true, decide_false, Int.not_lt, Int.not_le, ne_eq, List.length_cons, List.length_nil, List.length_map, List.length_append, List.length_set, List.length_take, List.length_drop] <;> omega))) | ((with_reducible apply st_lenL); (focus infer_instance)) | ((with_reducible apply st_lenT); (focus infer_instance)) | ((with_reducible apply st_tupT); (focus infer_instance)) | ((with_reducible apply st_tyL); (focus infer_instance)) | ((with_reducible apply st_elist); (focus infer_instance)) | ((with_reducible apply st_eitup); (focus infer_instance)) | ((with_reducible apply st_eE); (focus infer_instance)) | ((with_reducible apply st_epr); (focus infer_instance)) | ((with_reducible apply st_setO); (focus infer_instance)) | ((with_reducible apply st_ixO); (focus infer_instance)) | ((with_reducible apply st_ixLs); (focus assumption); (focus (first | exact rfl | exact atI_nat (by assumption)))) | ((with_reducible apply st_ixTs); (focus assumption); (focus (first | exact rfl | exact atI_nat (by assumption)))) | ((with_reducible apply st_fld); (focus infer_instance); (focus exact rfl)) | ((with_reducible apply st_const); (focus infer_instance); (focus exact rfl)) | ((with_reducible apply st_emt); (focus infer_instance); (focus exact rfl)) | ((with_reducible apply st_ixL); (focus infer_instance); (focus (first | exact rfl | exact atI_nat (by assumption)))) | ((with_reducible apply st_ixT); (focus infer_instance); (focus (first | exact rfl | exact atI_nat (by assumption)))) | ((with_reducible apply st_gtup); (focus infer_instance); (focus (first | exact rfl | exact atI_nat (by assumption)))) | ((with_reducible apply st_newL); (focus (refine len_ok ?_; simp only [List.length_cons, List.length_nil, List.length_append, List.length_map, List.length_set, List.length_take, List.length_drop]; omega)); intro l Hn nw) | ((with_reducible apply st_newT); (focus (refine len_ok ?_; simp only [List.length_cons, List.length_nil, List.length_append, List.length_map, List.length_set, List.length_take, List.length_drop]; omega)); intro l Hn nw) | ((with_reducible apply st_listL); (focus infer_instance); intro l Hn nw) | ((with_reducible apply st_listT); (focus infer_instance); intro l Hn nw) | ((with_reducible apply st_tupL); (focus infer_instance); intro l Hn nw) | ((with_reducible apply st_slL); (focus infer_instance); intro l Hn nw) | ((with_reducible apply st_cat); (focus infer_instance); (focus infer_instance); (focus (refine len_ok ?_; simp only [List.length_cons, List.length_nil, List.length_append, List.length_map, List.length_set, List.length_take, List.length_drop]; omega)); intro l Hn nw))))
section
variable {P : Program} {w : World} {K : PySem.W.Frag} {mg : Str → Option Value} {base : Heap} {f : Addr} {fd : FuncData} {Tb : List (Addr × Str)}
abbrev N__law_pen : List Str := ["_law_script"]
theorem sc__law_pen : FnScope N__law_pen ["_law_script"] (defScope s__law_pen) := ⟨rfl, rfl, rfl, by decide +kernel, rfl, by decide +kernel, by decide +kernel⟩
theorem ok0__law_pen (F : FnA K d__law_pen fd) (T : Tx K mg) : FnOk P w K mg base CX0 1 (d__law_pen.adr K) fd ["_law_script"] (spPn K) := by
  refine fnO0 F sc__law_pen (fun vs H Q E h => by (repeat (first | (obtain ⟨rfl, _⟩ := h; rfl) | (obtain ⟨_, h⟩ := h)))) (fun cdv A outer s H vs Q E hr h => ?_)
  refine ⟨_, (pss_one (ps_ret (pe_lst (pa_cons (pe_callTy (cr_listOf (K := K) rfl) (by rfl) T.f_list (by decide +kernel) (pa_cons (pe_slice (sl_listK (K := K) rfl) (pv 0) po_none (po_some pe_int)) pa_nil)) (pa_cons pe_int (pa_cons pe_int pa_nil)))))), ?_⟩
  obtain ⟨a, ns, rfl, hS, hl, q⟩ := h
  have ec : cutV (ns.map V.int) none (some 63) = ns.map V.int := cut_all (by rw [List.length_map]; exact hl)
  symm_saturate
  refine st_slLs hS fun c H1 n1 => ?_
  rw [ec] at n1
  symm_saturate
  refine st_listL (by infer_instance) fun e H2 n2 => ?_
  symm_saturate
  refine st_newL (by (refine len_ok ?_; simp only [List.length_cons, List.length_nil, List.length_append, List.length_map, List.length_set, List.length_take, List.length_drop]; omega)) fun p H3 n3 => ?_
  refine q p e _ (n1.same.free (n2.same.free n3.no)) ⟨ns, 0, 0, by infer_instance, by infer_instance, hl, Int.le_refl _, by decide, Int.le_refl _⟩ (n1.same.trans (n2.same.trans n3.same))
abbrev N__law_draw : List Str := ["_law_pen_here", "_law_many", "_law_taken", "_law_cell", "_law_mixed", "_law_digit", "_law_great"]
theorem sc__law_draw : FnScope N__law_draw ["_law_pen_here", "_law_many"] (defScope s__law_draw) := ⟨rfl, rfl, rfl, by decide +kernel, rfl, by decide +kernel, by decide +kernel⟩
theorem ok0__law_draw (F : FnA K d__law_draw fd) (T : Tx K mg) : FnOk P w K mg base CX0 1 (d__law_draw.adr K) fd ["_law_pen_here", "_law_many"] spDr := by
  refine fnO0 F sc__law_draw (fun vs H Q E h => by (repeat (first | (obtain ⟨rfl, _⟩ := h; rfl) | (obtain ⟨_, h⟩ := h)))) (fun cdv A outer s H vs Q E hr h => ?_)
  refine ⟨_, (pss_cons (ps_if (pt_cmpR op_gt (pe_ix (ix_listK (K := K) rfl) (pv 0) pe_int (fun _ _ => rfl)) pe_int (nomark _))
      (pss_cons (ps_set (i := 5) sc__law_draw.nd rfl (.inl rfl) (pe_op op_mod (pe_callTy cr_int (by rfl) T.f_int (by decide +kernel) (pa_cons (pe_ix (ix_listK (K := K) rfl) (pv 0) pe_int (fun _ _ => rfl)) pa_nil)) (pv 1)))
      (pss_cons (ps_asg (pe_op op_fdivW (pe_callTy cr_int (by rfl) T.f_int (by decide +kernel) (pa_cons (pe_ix (ix_listK (K := K) rfl) (pv 0) pe_int (fun _ _ => rfl)) pa_nil)) (pv 1)) (pg_sub (pv 0) pe_int set_list))
      (pss_one (ps_ret (pv 5))))) pss_nil)
      (pss_cons (ps_set (i := 2) sc__law_draw.nd rfl (.inl rfl) (pe_ix (ix_listK (K := K) rfl) (pv 0) pe_int (fun _ _ => rfl)))
      (pss_cons (ps_asg (pe_op op_add (pv 2) pe_int) (pg_sub (pv 0) pe_int set_list))
      (pss_cons (ps_set (i := 3) sc__law_draw.nd rfl (.inl rfl) (pe_op op_add (pe_op op_mul pe_int (pv 2)) pe_int))
      (pss_cut (ps_if (pt_cmpR (op_neDK (K := K) rfl hr.units) (pe_ix (ix_listK (K := K) rfl) (pv 0) pe_int (fun _ _ => rfl)) (pe_lst pa_nil) (nomark _))
      (pss_one (ps_set (i := 3) sc__law_draw.nd rfl (.inl rfl) (pe_ix (ix_listK (K := K) rfl) (pe_ix (ix_listK (K := K) rfl) (pv 0) pe_int (fun _ _ => rfl)) (pe_op op_mod (pe_callTy cr_int (by rfl) T.f_int (by decide +kernel) (pa_cons (pv 2) pa_nil)) (pe_callB (cr_len (K := K) rfl) (by rfl) T.f_len (by decide +kernel) (pa_cons (pe_ix (ix_listK (K := K) rfl) (pv 0) pe_int (fun _ _ => rfl)) pa_nil))) (fun _ _ => rfl)))) pss_nil)
      (pss_cut (ps_if (PW.pt (pw_and (pt_cmpR op_lt (pv 2) (pe_callB (cr_len (K := K) rfl) (by rfl) T.f_len (by decide +kernel) (pa_cons (pe_ix (ix_listK (K := K) rfl) (pv 0) pe_int (fun _ _ => rfl)) pa_nil)) (nomark _)) (pw_and1 (pt_cmpR op_ge (pe_callB cr_abs (by rfl) T.f_abs (by decide +kernel) (pa_cons (pv 3) pa_nil)) (pe_op (op_powK 1000000000000000000) pe_int pe_int) (nomark _)))))
      (pss_cons (ps_set (i := 6) sc__law_draw.nd rfl (.inl rfl) (pe_op op_add (pe_op op_mul pe_int (pe_op op_sub (pe_callB cr_abs (by rfl) T.f_abs (by decide +kernel) (pa_cons (pv 3) pa_nil)) (pe_op (op_powK 1000000000000000000) pe_int pe_int))) (pe_callTy cr_int (by rfl) T.f_int (by decide +kernel) (pa_cons (pe_cmpR op_lt (pv 3) pe_int (nomark _)) pa_nil))))
      (pss_cons (ps_asg (pe_op op_fdivW (pe_callTy cr_int (by rfl) T.f_int (by decide +kernel) (pa_cons (pv 6) pa_nil)) (pv 1)) (pg_sub (pv 0) pe_int set_list))
      (pss_one (ps_ret (pe_op op_mod (pe_callTy cr_int (by rfl) T.f_int (by decide +kernel) (pa_cons (pv 6) pa_nil)) (pv 1)))))) pss_nil)
      (pss_cons (ps_set (i := 4) sc__law_draw.nd rfl (.inl rfl) (pe_op op_mod (pe_callTy cr_int (by rfl) T.f_int (by decide +kernel) (pa_cons (pe_op op_pow (pe_op op_add (pe_op op_add (pe_op op_mod (pe_callTy cr_int (by rfl) T.f_int (by decide +kernel) (pa_cons (pv 3) pa_nil)) pe_int) (pe_op op_mul pe_int (pv 2))) pe_int) pe_int) pa_nil)) pe_int))
      (pss_cons (ps_set (i := 4) sc__law_draw.nd rfl (.inl rfl) (pe_op op_mod (pe_callTy cr_int (by rfl) T.f_int (by decide +kernel) (pa_cons (pe_op op_pow (pe_op op_add (pe_op op_add (pe_op op_mul (pv 4) (pe_op op_add (pe_op op_mul pe_int (pv 2)) pe_int)) (pe_op op_mul (pe_op op_mul pe_int (pv 2)) (pv 2))) pe_int) pe_int) pa_nil)) pe_int))
      (pss_one (ps_ret (pe_op op_mod (pe_callTy cr_int (by rfl) T.f_int (by decide +kernel) (pa_cons (pe_op op_fdivW (pv 4) pe_int) pa_nil)) (pv 1)))))))))))), ?_⟩
  obtain ⟨p, c, b, m, rfl, hm, hlog, ⟨ns, i, z, hp, hc, hl, hi, hb, hz⟩, q⟩ := h
  have ncp : c ≠ p := pen_ne hp hc
  have mm := fun x : Int => mod_lt x hm
  have hdiv : ∀ x, CDivW x m := fun _ => ⟨hm, hlog⟩
  symm_saturate
  refine ite2 (fun h1 => ?_) (fun h1 => ?_)
  · symm_saturate
    refine st_rI (hdiv _) ?_
    symm_saturate
    refine st_setL hp rfl fun H1 n1 => ?_
    symm_saturate
    exact q _ _ (mm z).1 (mm z).2 ⟨ns, i, z / m, by infer_instance, by infer_instance, hl, hi, by omega, Int.ediv_nonneg hz (by omega)⟩ n1.keep
  · have z0 : z = 0 := by
      have : ¬ (z > 0) := by simpa using h1
      omega
    subst z0
    symm_saturate
    refine st_setL hp rfl fun H2 n2 => ?_
    have hp2 : H2 p = some (.lst [.ref c, .int (i + 1), .int 0]) := n2.at_
    have hc2 : H2 c = some (.lst (ns.map V.int)) := by infer_instance
    have k2 := n2.keep
    clear n2
    symm_saturate
    refine ⟨fun σ' H' => ∃ cell : Int, σ' = [some (.ref p), some (.int m), some (.int i), some (.int cell), none, none, none] ∧ H' p = some (.lst [.ref c, .int (i + 1), .int 0]) ∧ H' c = some (.lst (ns.map V.int)) ∧ Keep H H' p, ?_, ?_⟩
    · -- if the cells are not empty
      symm_saturate
      refine st_newL (by (refine len_ok ?_; simp only [List.length_cons, List.length_nil, List.length_append, List.length_map, List.length_set, List.length_take, List.length_drop]; omega)) fun e H3 n3 => ?_
      have hp3 : H3 p = some (.lst [.ref c, .int (i + 1), .int 0]) := by infer_instance
      have hc3 : H3 c = some (.lst (ns.map V.int)) := by infer_instance
      have k3 : Keep H H3 p := fun a o h1 h2 => n3.up (k2 _ _ h1 h2)
      refine st_neD (.lst (SqL.of hc3) (dp_ints K _ ns)) (.lst (SqL.of n3.at_) .nil) (PySem.W.ke_shaped_ints ns) (by decide +kernel) ?_
      clear n3
      symm_saturate
      refine ite2 (fun h2 => ?_) (fun h2 => ?_)
      · have hne : 0 < ns.length := by
          rw [eqv_nil] at h2
          cases ns with
          | nil => cases h2
          | cons a r => exact Nat.succ_pos _
        have hlen : (0 : Int) < ((ns.map V.int).length : Int) := by rw [List.length_map]; omega
        have mi := mod_lt i hlen
        obtain ⟨v, ev, _⟩ := atI_int (ns := ns) (i := i % ((ns.map V.int).length : Int)) mi.1 (by have := mi.2; rw [List.length_map] at this ⊢; exact this)
        symm_saturate
        refine st_ixL hc3 ev ?_
        symm_saturate
        exact ⟨v, rfl, hp3, hc3, k3⟩
      · symm_saturate
        exact ⟨_, rfl, hp3, hc3, k3⟩
    · rintro σ' H' ⟨cell, rfl, hp3, hc3, k3⟩
      -- a great cell?
      refine ⟨fun σ1 H1 => σ1 = [some (.ref p), some (.int m), some (.int i), some (.int cell), none, none, none] ∧ H1 = H', ?_, ?_⟩
      · symm_saturate
        refine ite2 (fun _ => ?_) (fun _ => ?_)
        · symm_saturate
          refine ite2 (fun h3 => ?_) (fun _ => ?_)
          · have hab : 1000000000000000000 ≤ (if cell < 0 then -cell else cell) := by simpa using h3
            symm_saturate
            have hgr : 0 ≤ 2 * ((if cell < 0 then -cell else cell) - 1000000000000000000) + (if decide (cell < 0) = true then 1 else 0) := by
              have : (0 : Int) ≤ (if decide (cell < 0) = true then 1 else 0) := by split <;> decide
              omega
            refine st_rI (hdiv _) ?_
            symm_saturate
            refine st_setL hp3 rfl fun H4 n4 => ?_
            symm_saturate
            refine q _ _ (mm _).1 (mm _).2 ⟨ns, i + 1, _, n4.at_, by infer_instance, hl, by omega, by omega, Int.ediv_nonneg hgr (by omega)⟩ (k3.trans n4.keep)
          · symm_saturate
            exact ⟨rfl, rfl⟩
        · symm_saturate
          exact ⟨rfl, rfl⟩
      · rintro σ1 H1 ⟨rfl, rfl⟩
        have hi2 : i ≤ 1000000 := by omega
        -- the first mix
        symm_saturate
        refine st_rI ⟨by decide, by decide, ?_⟩ ?_
        · refine pow_lt ?_ ?_ <;> omega
        have hx := mod_lt ((cell % 2147483629 + 63949 * i + 103) ^ (3 : Int).toNat) (show (0 : Int) < 2147483587 by decide)
        -- the second one
        symm_saturate
        refine st_rI ⟨by decide, by decide, ?_⟩ ?_
        · exact mix_ok hx.1 (Int.lt_trans hx.2 (by decide)) hi hi2 ⟨by decide, by decide⟩ ⟨by decide, by decide⟩ ⟨by decide, by decide⟩
        symm_saturate
        exact q _ _ (mm _).1 (mm _).2 ⟨ns, i + 1, 0, hp3, hc3, hl, by omega, by omega, Int.le_refl _⟩ k3
theorem ok__law_pen (F : FnA K d__law_pen fd) (T : Tx K mg) : FnOk P w K mg base CX0 1 (d__law_pen.adr K) fd ["_law_script"] (spPn K) := ok0__law_pen F T
theorem ok__law_draw (F : FnA K d__law_draw fd) (T : Tx K mg) : FnOk P w K mg base CX0 1 (d__law_draw.adr K) fd ["_law_pen_here", "_law_many"] (Gp.spF K Tb (Gp.ul2 Gp.F_draw)) := Gp.fnOk_weak (ok0__law_draw F T) fun _ _ _ _ => Gp.draw_of
end
end Lw
end
section
set_option Elab.async false
set_option linter.all false
set_option maxRecDepth 100000
set_option maxHeartbeats 4000000
set_option pp.maxSteps 600
namespace Lw
open PySem PySem.Spec PyProof.Rows L2 Gh Gp
section
variable {P : Program} {w : World} {K : PySem.W.Frag} {mg : Str → Option Value} {base : Heap} {f : Addr} {fd : FuncData} {Tb : List (Addr × Str)}
abbrev N_TooMany___init__ : List Str := ["self", "what", "most"]
theorem sc_TooMany___init__ : FnScope N_TooMany___init__ ["self", "what", "most"] (defScope s_TooMany___init__) := ⟨rfl, rfl, rfl, by decide +kernel, rfl, by decide +kernel, by decide +kernel⟩
theorem ok_TooMany___init__ (F : FnA K d_TooMany___init__ fd) (T : Tx K mg) : FnOk P w K mg base CX0 1 (d_TooMany___init__.adr K) fd ["self", "what", "most"] (spErr2 (gd "TooMany" K) "what" "most") := by
  refine fnO0 F sc_TooMany___init__ (fun vs H Q E h => ?_) (fun cdv A outer s H vs Q E hr h => ?_)
  · obtain ⟨a, v, v2, rfl, _⟩ := h
    rfl
  · obtain ⟨a, v, v2, rfl, ha, q⟩ := h
    refine ⟨_, pss_cons (ps_ost (pv 0) (pv 1)) (pss_one (ps_ost (pv 0) (pv 2))), ?_⟩
    exact ⟨_, rfl, _, rfl, a, _, rfl, T.ox_TooMany, T.n_TooMany_what, .inl ⟨ha, fun d nd ne => ⟨_, rfl, _, rfl, a, _, rfl, T.ox_TooMany, T.n_TooMany_most, .inr ⟨d, _, upd_same, (upd_ne ne).trans upd_same, (by show 1 ≤ 900; decide), q d nd ne⟩⟩⟩⟩
abbrev N_BadStep___init__ : List Str := ["self", "at"]
theorem sc_BadStep___init__ : FnScope N_BadStep___init__ ["self", "at"] (defScope s_BadStep___init__) := ⟨rfl, rfl, rfl, by decide +kernel, rfl, by decide +kernel, by decide +kernel⟩
theorem ok_BadStep___init__ (F : FnA K d_BadStep___init__ fd) (T : Tx K mg) : FnOk P w K mg base CX0 1 (d_BadStep___init__.adr K) fd ["self", "at"] (spErr1 (gd "BadStep" K) "at") := by
  refine fnO0 F sc_BadStep___init__ (fun vs H Q E h => ?_) (fun cdv A outer s H vs Q E hr h => ?_)
  · obtain ⟨a, v, rfl, _⟩ := h
    rfl
  · obtain ⟨a, v, rfl, ha, q⟩ := h
    refine ⟨_, pss_one (ps_ost (pv 0) (pv 1)), ?_⟩
    exact ⟨_, rfl, _, rfl, a, _, rfl, T.ox_BadStep, T.n_BadStep_at, .inl ⟨ha, q⟩⟩
abbrev N_is_integer : List Str := ["value"]
theorem sc_is_integer : FnScope N_is_integer ["value"] (defScope s_is_integer) := ⟨rfl, rfl, rfl, by decide +kernel, rfl, by decide +kernel, by decide +kernel⟩
def F_is_integer (value : D) : Tr D :=
  fin (bd (bd (bd (bd (.ok value) fun d => bd (opt (isi_int d)) fun k => .ok (.bl k)) asB) fun k => if k = true then (bd (bd (bd (.ok value) fun d => bd (opt (isi_bool d)) fun k => .ok (.bl k)) asB) fun k => .ok (.bl (!k))) else .ok (.bl false)) fun d => .ok (.rt d))
theorem ok_is_integer (F : FnA K d_is_integer fd) (T : Tx K mg)  : FnOk P w K mg base CX0 1 (d_is_integer.adr K) fd ["value"] (spF K Tb (ul1 F_is_integer)) := by
  refine fnO0 F sc_is_integer (fun vs H Q E h => spF_len len1 h) (fun cdv A outer s H vs Q E hr h => ?_)
  refine ⟨_, (pss_cons (ps_ret (pe_and (pe_callB (call_isiZ (K := K) rfl) (by rfl) T.f_isinstance (by decide +kernel) (pa_cons (pv 0) (pa_cons (pe_bltn (v := .ty "int") (by rfl) T.f_int (by decide +kernel) rfl) pa_nil))) (pe_one (pe_not (pe_callB (call_isiZ (K := K) rfl) (by rfl) T.f_isinstance (by decide +kernel) (pa_cons (pv 0) (pa_cons (pe_bltn (v := .ty "bool") (by rfl) T.f_bool (by decide +kernel) rfl) pa_nil))))))) pss_nil), ?_⟩
  exact fn_of1 (F := F_is_integer) (envU := fun _ => List.replicate 1 .no) h (fun value => rfl) (fun p c value => (ss_ret (se_andV (se_isi (.ty _) (isT_int T) se_var) (se_notV (se_isi (.ty _) (isT_bool T) se_var)))))
abbrev N_is_within : List Str := ["value", "least", "most"]
theorem sc_is_within : FnScope N_is_within ["value", "least", "most"] (defScope s_is_within) := ⟨rfl, rfl, rfl, by decide +kernel, rfl, by decide +kernel, by decide +kernel⟩
def F_is_within (value least most : D) : Tr D :=
  fin (bd (bd (bd (bd (bd (.ok value) fun v1 => (bd (.ok []) fun r2 => .ok (v1 :: r2))) (ul1 F_is_integer)) asB) fun k => if k = true then (bd (.ok least) fun v3 => (bd (.ok value) fun v4 => (bd (bd (leD v3 v4) asB) fun k => if k = true then (bd (.ok most) fun v5 => leD v4 v5) else .ok (.bl false)))) else .ok (.bl false)) fun d => .ok (.rt d))
theorem ok_is_within (F : FnA K d_is_within fd) (T : Tx K mg) (G_is_integer : PromO P w K mg base CX0 1 (gd "is_integer" K) [] (spF K Tb (ul1 F_is_integer))) : FnOk P w K mg base CX0 2 (d_is_within.adr K) fd ["value", "least", "most"] (spF K Tb (ul3 F_is_within)) := by
  refine fnO0 F sc_is_within (fun vs H Q E h => spF_len len3 h) (fun cdv A outer s H vs Q E hr h => ?_)
  refine ⟨_, (pss_cons (ps_ret (pe_and (pe_g (PromO.call G_is_integer (hr.mono (by decide)) (passA (E := E))) (by rfl) T.g_is_integer T.k_is_integer (pa_cons (pv 0) pa_nil)) (pe_one (pe_chain op_le op_le (pv 1) (pv 0) (pv 2))))) pss_nil), ?_⟩
  exact fn_of3 (F := F_is_within) (envU := fun _ => List.replicate 3 .no) h (fun value least most => rfl) (fun p c value least most => (ss_ret (se_andV (se_cl srl_sp0 (sa_cons se_var sa_nil)) (se_chain sr_le sr_le se_var se_var se_var))))
abbrev N_Span___init__ : List Str := ["self", "halves", "more", "odd"]
theorem sc_Span___init__ : FnScope N_Span___init__ ["self", "halves", "more", "odd"] (defScope s_Span___init__) := ⟨rfl, rfl, rfl, by decide +kernel, rfl, by decide +kernel, by decide +kernel⟩
def F_Span___init__ (fs : Fs) (halves more odd : D) : Tr Fs :=
  finI (bdF (W' := Unit) (bd (bd (bd (bd (bd (.ok halves) fun v5 => (bd (bd (.ok (.int 0)) fun v3 => (bd (bd (.ok (.int 8)) fun v1 => (bd (.ok []) fun r2 => .ok (v1 :: r2))) fun r4 => .ok (v3 :: r4))) fun r6 => .ok (v5 :: r6))) (ul3 F_is_within)) asB) fun k => .ok (!k)) fun k => if k = true then .bad else (.ok (.nx ()))) fun (w7 : Unit) => (bdF (W' := Unit) (bd (bd (bd (bd (bd (.ok more) fun v12 => (bd (bd (bd (.ok (.int 60)) negD) fun v10 => (bd (bd (.ok (.int 60)) fun v8 => (bd (.ok []) fun r9 => .ok (v8 :: r9))) fun r11 => .ok (v10 :: r11))) fun r13 => .ok (v12 :: r13))) (ul3 F_is_within)) asB) fun k => .ok (!k)) fun k => if k = true then .bad else (.ok (.nx ()))) fun (w14 : Unit) => (bdF (W' := Unit) (bd (bd (bd (bd (bd (.ok odd) fun v19 => (bd (bd (bd (.ok (.int 9)) negD) fun v17 => (bd (bd (.ok (.int 9)) fun v15 => (bd (.ok []) fun r16 => .ok (v15 :: r16))) fun r18 => .ok (v17 :: r18))) fun r20 => .ok (v19 :: r20))) (ul3 F_is_within)) asB) fun k => .ok (!k)) fun k => if k = true then .bad else (.ok (.nx ()))) fun (w21 : Unit) => (bd (bd (bd (.ok halves) fun v26 => (bd (bd (.ok more) fun v24 => (bd (bd (.ok odd) fun v22 => (bd (.ok []) fun r23 => .ok (v22 :: r23))) fun r25 => .ok (v24 :: r25))) fun r27 => .ok (v26 :: r27))) fun ds => if ds.length ≤ sizeLine then .ok (.tup ds) else .bad) fun own_parts28 => if fs.length < 900 then (.ok (.nx (putD "own_parts" own_parts28 fs))) else .bad))))
theorem ok_Span___init__ (F : FnA K d_Span___init__ fd) (T : Tx K mg) (G_is_within : PromO P w K mg base CX0 2 (gd "is_within" K) [] (spF K Tb (ul3 F_is_within))) : FnOk P w K mg base CX0 3 (d_Span___init__.adr K) fd ["self", "halves", "more", "odd"] (spI K Tb "Span" (fun fs => ul3 (F_Span___init__ fs))) := by
  refine fnO0 F sc_Span___init__ (fun vs H Q E h => spI_len lenI3 h) (fun cdv A outer s H vs Q E hr h => ?_)
  refine ⟨_, (pss_cons (ps_if (pt_not (pt_val (pe_g (PromO.call G_is_within (hr.mono (by decide)) (passA (E := E))) (by rfl) T.g_is_within T.k_is_within (pa_cons (pv 1) (pa_cons pe_int (pa_cons (pe_gi T.m_MOST_HALVES (by rfl)) pa_nil))))))
      (pss_cons ps_never pss_nil) pss_nil)
      (pss_cons (ps_if (pt_not (pt_val (pe_g (PromO.call G_is_within (hr.mono (by decide)) (passA (E := E))) (by rfl) T.g_is_within T.k_is_within (pa_cons (pv 2) (pa_cons (pe_un un_neg (pe_gi T.m_MOST_MORE (by rfl))) (pa_cons (pe_gi T.m_MOST_MORE (by rfl)) pa_nil))))))
      (pss_cons ps_never pss_nil) pss_nil)
      (pss_cons (ps_if (pt_not (pt_val (pe_g (PromO.call G_is_within (hr.mono (by decide)) (passA (E := E))) (by rfl) T.g_is_within T.k_is_within (pa_cons (pv 3) (pa_cons (pe_un un_neg (pe_gi T.m_MOST_ODD (by rfl))) (pa_cons (pe_gi T.m_MOST_ODD (by rfl)) pa_nil))))))
      (pss_cons ps_never pss_nil) pss_nil)
      (pss_cons (ps_f (pv 0) (pe_tup (pa_cons (pv 1) (pa_cons (pv 2) (pa_cons (pv 3) pa_nil)))) T.cl_Span T.n_Span_own_parts)
      pss_nil)))), ?_⟩
  exact ini_of3 (F := F_Span___init__) (envI := fun fs => .oi "Span" fs :: List.replicate 3 .no) h (fun fs halves more odd => rfl) (fun p c fs halves more odd => (ss_if (fun (w7 : Unit) => [.oi "Span" fs, .fz halves, .fz more, .fz odd]) (sb_not (sb_tb (se_cl srl_sp0 (sa_cons se_var (sa_cons se_int (sa_cons se_int sa_nil)))))) ss_never (ss_nx (.s (.s (.s (.s .nil))))) (fun (w7 : Unit) => (ss_if (fun (w14 : Unit) => [.oi "Span" fs, .fz halves, .fz more, .fz odd]) (sb_not (sb_tb (se_cl srl_sp0 (sa_cons se_var (sa_cons (se_un sr_neg se_int) (sa_cons se_int sa_nil)))))) ss_never (ss_nx (.s (.s (.s (.s .nil))))) (fun (w14 : Unit) => (ss_if (fun (w21 : Unit) => [.oi "Span" fs, .fz halves, .fz more, .fz odd]) (sb_not (sb_tb (se_cl srl_sp0 (sa_cons se_var (sa_cons (se_un sr_neg se_int) (sa_cons se_int sa_nil)))))) ss_never (ss_nx (.s (.s (.s (.s .nil))))) (fun (w21 : Unit) => (ss_setf (se_tup (sa_cons se_var (sa_cons se_var (sa_cons se_var sa_nil)))) (fun own_parts28 => (ss_nx (.s (le_no _ rfl))))))))))))
abbrev N_Span_halves : List Str := ["self"]
theorem sc_Span_halves : FnScope N_Span_halves ["self"] (defScope s_Span_halves) := ⟨rfl, rfl, rfl, by decide +kernel, rfl, by decide +kernel, by decide +kernel⟩
def F_Span_halves (self : D) : Tr D :=
  fin (bd (bd (bd (.ok self) (fldD "Span" "own_parts")) fun v1 => (bd (.ok (.int 0)) fun v2 => ixD v1 v2)) fun d => .ok (.rt d))
theorem ok_Span_halves (F : FnA K d_Span_halves fd) (T : Tx K mg)  : FnOk P w K mg base CX0 1 (d_Span_halves.adr K) fd ["self"] (spF K Tb (ul1 F_Span_halves)) := by
  refine fnO0 F sc_Span_halves (fun vs H Q E h => spF_len len1 h) (fun cdv A outer s H vs Q E hr h => ?_)
  refine ⟨_, (pss_cons (ps_ret (pe_ix (ix_seqK (K := K) rfl) (pe_f (pv 0) T.cl_Span T.n_Span_own_parts) pe_int (fun _ _ => rfl))) pss_nil), ?_⟩
  exact fn_of1 (F := F_Span_halves) (envU := fun _ => List.replicate 1 .no) h (fun self => rfl) (fun p c self => (ss_ret (se_op sr_ix (se_un sr_fld se_var) se_int)))
abbrev N_Span_more : List Str := ["self"]
theorem sc_Span_more : FnScope N_Span_more ["self"] (defScope s_Span_more) := ⟨rfl, rfl, rfl, by decide +kernel, rfl, by decide +kernel, by decide +kernel⟩
def F_Span_more (self : D) : Tr D :=
  fin (bd (bd (bd (.ok self) (fldD "Span" "own_parts")) fun v1 => (bd (.ok (.int 1)) fun v2 => ixD v1 v2)) fun d => .ok (.rt d))
theorem ok_Span_more (F : FnA K d_Span_more fd) (T : Tx K mg)  : FnOk P w K mg base CX0 1 (d_Span_more.adr K) fd ["self"] (spF K Tb (ul1 F_Span_more)) := by
  refine fnO0 F sc_Span_more (fun vs H Q E h => spF_len len1 h) (fun cdv A outer s H vs Q E hr h => ?_)
  refine ⟨_, (pss_cons (ps_ret (pe_ix (ix_seqK (K := K) rfl) (pe_f (pv 0) T.cl_Span T.n_Span_own_parts) pe_int (fun _ _ => rfl))) pss_nil), ?_⟩
  exact fn_of1 (F := F_Span_more) (envU := fun _ => List.replicate 1 .no) h (fun self => rfl) (fun p c self => (ss_ret (se_op sr_ix (se_un sr_fld se_var) se_int)))
abbrev N_Span_odd : List Str := ["self"]
theorem sc_Span_odd : FnScope N_Span_odd ["self"] (defScope s_Span_odd) := ⟨rfl, rfl, rfl, by decide +kernel, rfl, by decide +kernel, by decide +kernel⟩
def F_Span_odd (self : D) : Tr D :=
  fin (bd (bd (bd (.ok self) (fldD "Span" "own_parts")) fun v1 => (bd (.ok (.int 2)) fun v2 => ixD v1 v2)) fun d => .ok (.rt d))
theorem ok_Span_odd (F : FnA K d_Span_odd fd) (T : Tx K mg)  : FnOk P w K mg base CX0 1 (d_Span_odd.adr K) fd ["self"] (spF K Tb (ul1 F_Span_odd)) := by
  refine fnO0 F sc_Span_odd (fun vs H Q E h => spF_len len1 h) (fun cdv A outer s H vs Q E hr h => ?_)
  refine ⟨_, (pss_cons (ps_ret (pe_ix (ix_seqK (K := K) rfl) (pe_f (pv 0) T.cl_Span T.n_Span_own_parts) pe_int (fun _ _ => rfl))) pss_nil), ?_⟩
  exact fn_of1 (F := F_Span_odd) (envU := fun _ => List.replicate 1 .no) h (fun self => rfl) (fun p c self => (ss_ret (se_op sr_ix (se_un sr_fld se_var) se_int)))
abbrev N_Span___eq__ : List Str := ["self", "other"]
theorem sc_Span___eq__ : FnScope N_Span___eq__ ["self", "other"] (defScope s_Span___eq__) := ⟨rfl, rfl, rfl, by decide +kernel, rfl, by decide +kernel, by decide +kernel⟩
def F_Span___eq__ (self other : D) : Tr D :=
  fin (bd (bd (bd (bd (.ok other) fun d => bd (opt (isi_Span d)) fun k => .ok (.bl k)) asB) fun k => if k = true then (bd (bd (.ok self) (fldD "Span" "own_parts")) fun v1 => (bd (bd (.ok other) (fldD "Span" "own_parts")) fun v2 => eqD v1 v2)) else .ok (.bl false)) fun d => .ok (.rt d))
theorem ok_Span___eq__ (F : FnA K d_Span___eq__ fd) (T : Tx K mg)  : FnOk P w K mg base CX0 1 (d_Span___eq__.adr K) fd ["self", "other"] (spF K Tb (ul2 F_Span___eq__)) := by
  refine fnO0 F sc_Span___eq__ (fun vs H Q E h => spF_len len2 h) (fun cdv A outer s H vs Q E hr h => ?_)
  refine ⟨_, (pss_cons (ps_ret (pe_and (pe_callB (call_isiZ (K := K) rfl) (by rfl) T.f_isinstance (by decide +kernel) (pa_cons (pv 1) (pa_cons (pe_glob (v := .ref _) rfl T.g_Span rfl) pa_nil))) (pe_one (pe_cmpR (op_eqA (K := K) rfl hr.units) (pe_f (pv 0) T.cl_Span T.n_Span_own_parts) (pe_f (pv 1) T.cl_Span T.n_Span_own_parts) (nomark _))))) pss_nil), ?_⟩
  exact fn_of2 (F := F_Span___eq__) (envU := fun _ => List.replicate 2 .no) h (fun self other => rfl) (fun p c self other => (ss_ret (se_andV (se_isi (.own _) (isT_Span T) se_var) (se_op sr_eq (se_un sr_fld se_var) (se_un sr_fld se_var)))))
end
end Lw
end
section
set_option Elab.async false
set_option linter.all false
set_option maxRecDepth 100000
set_option maxHeartbeats 4000000
set_option pp.maxSteps 600
namespace Lw
open PySem PySem.Spec PyProof.Rows L2 Gh Gp
section
variable {P : Program} {w : World} {K : PySem.W.Frag} {mg : Str → Option Value} {base : Heap} {f : Addr} {fd : FuncData} {Tb : List (Addr × Str)}
abbrev N_are_told : List Str := ["value", "place"]
theorem sc_are_told : FnScope N_are_told ["value"] (defScope s_are_told) := ⟨rfl, rfl, rfl, by decide +kernel, rfl, by decide +kernel, by decide +kernel⟩
def F_are_told (value : D) : Tr D :=
  fin (bdF (W' := Unit) (bd (bd (bd (bd (bd (.ok value) fun d => bd (opt (isi_list_tuple d)) fun k => .ok (.bl k)) asB) fun k => .ok (!k)) fun k => if k = true then .ok true else (bd (bd (bd (bd (.ok value) fun v1 => (bd (.ok []) fun r2 => .ok (v1 :: r2))) (ul1 lenD)) fun v3 => (bd (.ok (.int 8)) fun v4 => gtD v3 v4)) asB)) fun k => if k = true then (bd (.ok (.bl false)) fun d => .ok (.rt d)) else (.ok (.nx ()))) fun (w5 : Unit) => (bdF (W' := Unit) (bd (bd (bd (bd (bd (bd (bd (.ok value) itD) fun ds => bd (lcF (fun place5 => nox (bd (bd (bd (.ok place5) fun v11 => (bd (bd (.ok (.int 0)) fun v9 => (bd (bd (.ok (.int 15)) fun v7 => (bd (.ok []) fun r8 => .ok (v7 :: r8))) fun r10 => .ok (v9 :: r10))) fun r12 => .ok (v11 :: r12))) (ul3 F_is_within)) fun y => .ok (some y))) ds) fun r => .ok (.lst r)) fun v13 => (bd (.ok []) fun r14 => .ok (v13 :: r14))) (ul1 allD)) asB) fun k => .ok (!k)) fun k => if k = true then (bd (.ok (.bl false)) fun d => .ok (.rt d)) else (.ok (.nx ()))) fun (w15 : Unit) => (bd (bd (bd (bd (bd (.ok value) itD) fun ds => bd (lcF (fun place15 => nox (bd (bd (bd (.ok place15) fun v17 => (bd (.ok []) fun r18 => .ok (v17 :: r18))) (ul1 intD)) fun y => .ok (some y))) ds) fun r => .ok (.lst r)) lenSD) fun v21 => (bd (bd (bd (.ok value) fun v19 => (bd (.ok []) fun r20 => .ok (v19 :: r20))) (ul1 lenD)) fun v22 => eqD v21 v22)) fun d => .ok (.rt d))))
theorem ok_are_told (F : FnA K d_are_told fd) (T : Tx K mg) (G_is_within : PromO P w K mg base CX0 2 (gd "is_within" K) [] (spF K Tb (ul3 F_is_within))) : FnOk P w K mg base CX0 3 (d_are_told.adr K) fd ["value"] (spF K Tb (ul1 F_are_told)) := by
  refine fnO0 F sc_are_told (fun vs H Q E h => spF_len len1 h) (fun cdv A outer s H vs Q E hr h => ?_)
  refine ⟨_, (pss_cons (ps_if (PW.pt (pw_or (pt_not (pt_val (pe_callB (call_isiTK (K := K) rfl) (by rfl) T.f_isinstance (by decide +kernel) (pa_cons (pv 0) (pa_cons (pe_tup (pa_cons (pe_bltn (v := .ty "list") (by rfl) T.f_list (by decide +kernel) rfl) (pa_cons (pe_bltn (v := .ty "tuple") (by rfl) T.f_tuple (by decide +kernel) rfl) pa_nil))) pa_nil))))) (pw_or1 (pt_cmpR op_gt (pe_callB (cr_len (K := K) rfl) (by rfl) T.f_len (by decide +kernel) (pa_cons (pv 0) pa_nil)) (pe_gi T.m_MOST_TOLD (by rfl)) (nomark _)))))
      (pss_cons (ps_ret pe_bl) pss_nil) pss_nil)
      (pss_cons (ps_if (pt_not (pt_val (pe_callB (cr_allK (K := K) rfl rfl) (by rfl) T.f_all (by decide +kernel) (pa_cons (pe_lc (own := [("place", 1)]) (g := gName 1) (by rfl) sc_are_told.nd (pi_seq (K := K) rfl (pv 0)) (blkOk_by (own := [("place", 1)]) (N := N_are_told) (sc := defScope s_are_told) (by decide +kernel)) (fun _ _ _ _ _ => pg_name (i := 1) sc_are_told.nd rfl (Or.inl rfl)) (fun _ _ _ _ _ => pts_nil) (fun _ _ _ _ _ => (pe_g (PromO.call G_is_within (hr.mono (by decide)) (passA (E := EF))) (by rfl) T.g_is_within T.k_is_within (pa_cons (pv 1) (pa_cons pe_int (pa_cons (pe_gi T.m_FARTHEST (by rfl)) pa_nil)))))) pa_nil))))
      (pss_cons (ps_ret pe_bl) pss_nil) pss_nil)
      (pss_cons (ps_ret (pe_cmpR (op_eqA (K := K) rfl hr.units) (pe_callB cr_lnSet (by rfl) T.f_len (by decide +kernel) (pa_cons (pe_callTy (cr_setI (K := K) rfl rfl) (by rfl) T.f_set (by decide +kernel) (pa_cons (pe_lc (own := [("place", 1)]) (g := gName 1) (by rfl) sc_are_told.nd (pi_seq (K := K) rfl (pv 0)) (blkOk_by (own := [("place", 1)]) (N := N_are_told) (sc := defScope s_are_told) (by decide +kernel)) (fun _ _ _ _ _ => pg_name (i := 1) sc_are_told.nd rfl (Or.inl rfl)) (fun _ _ _ _ _ => pts_nil) (fun _ _ _ _ _ => (pe_callTy cr_int (by rfl) T.f_int (by decide +kernel) (pa_cons (pv 1) pa_nil)))) pa_nil)) pa_nil)) (pe_callB (cr_len (K := K) rfl) (by rfl) T.f_len (by decide +kernel) (pa_cons (pv 0) pa_nil)) (nomark _))) pss_nil))), ?_⟩
  exact fn_of1 (F := F_are_told) (envU := fun _ => List.replicate 2 .no) h (fun value => rfl) (fun p c value => (ss_if (fun (w5 : Unit) => [.fz value, .no]) (sb_or (sb_not (sb_tb (se_isiT (isT_list_tuple T) se_var))) (sb_tst (se_op sr_gt (se_cb srl_len (sa_cons se_var sa_nil)) se_int))) (ss_ret se_bl) (ss_nx (.s (.s .nil))) (fun (w5 : Unit) => (ss_if (fun (w15 : Unit) => [.fz value, .no]) (sb_not (sb_tb (se_cb srl_all (sa_cons (se_lc (si_seq se_var) (fun place5 => (sc_map (se_cl srl_sp0 (sa_cons se_var (sa_cons se_int (sa_cons se_int sa_nil))))))) sa_nil)))) (ss_ret se_bl) (ss_nx (.s (.s .nil))) (fun (w15 : Unit) => (ss_ret (se_op sr_eq (se_lenS (se_lc (si_seq se_var) (fun place15 => (sc_map (se_cb srl_int (sa_cons se_var sa_nil)))))) (se_cb srl_len (sa_cons se_var sa_nil)))))))))
abbrev N_ascending : List Str := ["places", "place"]
theorem sc_ascending : FnScope N_ascending ["places"] (defScope s_ascending) := ⟨rfl, rfl, rfl, by decide +kernel, rfl, by decide +kernel, by decide +kernel⟩
def F_ascending (places : D) : Tr D :=
  fin (bd (bd (bd (bd (bd (bd (bd (.ok places) itD) fun ds => bd (lcF (fun place0 => nox (bd (bd (bd (.ok place0) fun v2 => (bd (.ok []) fun r3 => .ok (v2 :: r3))) (ul1 intD)) fun y => .ok (some y))) ds) fun r => .ok (.lst r)) fun v4 => (bd (.ok []) fun r5 => .ok (v4 :: r5))) (ul1 sortD)) fun v6 => (bd (.ok []) fun r7 => .ok (v6 :: r7))) (ul1 tupD)) fun d => .ok (.rt d))
theorem ok_ascending (F : FnA K d_ascending fd) (T : Tx K mg)  : FnOk P w K mg base CX0 1 (d_ascending.adr K) fd ["places"] (spF K Tb (ul1 F_ascending)) := by
  refine fnO0 F sc_ascending (fun vs H Q E h => spF_len len1 h) (fun cdv A outer s H vs Q E hr h => ?_)
  refine ⟨_, (pss_cons (ps_ret (pe_callTy (cr_tupOf (K := K) rfl) (by rfl) T.f_tuple (by decide +kernel) (pa_cons (pe_callB (cr_sortedK (K := K) rfl) (by rfl) T.f_sorted (by decide +kernel) (pa_cons (pe_lc (own := [("place", 1)]) (g := gName 1) (by rfl) sc_ascending.nd (pi_seq (K := K) rfl (pv 0)) (blkOk_by (own := [("place", 1)]) (N := N_ascending) (sc := defScope s_ascending) (by decide +kernel)) (fun _ _ _ _ _ => pg_name (i := 1) sc_ascending.nd rfl (Or.inl rfl)) (fun _ _ _ _ _ => pts_nil) (fun _ _ _ _ _ => (pe_callTy cr_int (by rfl) T.f_int (by decide +kernel) (pa_cons (pv 1) pa_nil)))) pa_nil)) pa_nil))) pss_nil), ?_⟩
  exact fn_of1 (F := F_ascending) (envU := fun _ => List.replicate 2 .no) h (fun places => rfl) (fun p c places => (ss_ret (se_cb srl_tup (sa_cons (se_cb srl_sorted (sa_cons (se_lc (si_seq se_var) (fun place0 => (sc_map (se_cb srl_int (sa_cons se_var sa_nil))))) sa_nil)) sa_nil))))
abbrev N_Sided___init___at_Change : List Str := ["self", "side"]
theorem sc_Sided___init___at_Change : FnScope N_Sided___init___at_Change ["self", "side"] (defScope s_Sided___init___at_Change) := ⟨rfl, rfl, rfl, by decide +kernel, rfl, by decide +kernel, by decide +kernel⟩
def F_Sided___init___at_Change (fs : Fs) (side : D) : Tr Fs :=
  finI (bd (.ok side) fun side1 => if fs.length < 900 then (.ok (.nx (putD "side" side1 fs))) else .bad)
theorem ok_Sided___init___at_Change (F : FnA K d_Sided___init___at_Change fd) (T : Tx K mg)  : FnOk P w K mg base CX0 1 (d_Sided___init___at_Change.adr K) fd ["self", "side"] (spI K Tb "Change" (fun fs => ul1 (F_Sided___init___at_Change fs))) := by
  refine fnO0 F sc_Sided___init___at_Change (fun vs H Q E h => spI_len lenI1 h) (fun cdv A outer s H vs Q E hr h => ?_)
  refine ⟨_, (pss_cons (ps_f (pv 0) (pv 1) T.cl_Change T.n_Change_side)
      pss_nil), ?_⟩
  exact ini_of1 (F := F_Sided___init___at_Change) (envI := fun fs => .oi "Change" fs :: List.replicate 1 .no) h (fun fs side => rfl) (fun p c fs side => (ss_setf se_var (fun side1 => (ss_nx (.s (le_no _ rfl))))))
abbrev N_Sided___init___at_Stretch : List Str := ["self", "side"]
theorem sc_Sided___init___at_Stretch : FnScope N_Sided___init___at_Stretch ["self", "side"] (defScope s_Sided___init___at_Stretch) := ⟨rfl, rfl, rfl, by decide +kernel, rfl, by decide +kernel, by decide +kernel⟩
def F_Sided___init___at_Stretch (fs : Fs) (side : D) : Tr Fs :=
  finI (bd (.ok side) fun side1 => if fs.length < 900 then (.ok (.nx (putD "side" side1 fs))) else .bad)
theorem ok_Sided___init___at_Stretch (F : FnA K d_Sided___init___at_Stretch fd) (T : Tx K mg)  : FnOk P w K mg base CX0 1 (d_Sided___init___at_Stretch.adr K) fd ["self", "side"] (spI K Tb "Stretch" (fun fs => ul1 (F_Sided___init___at_Stretch fs))) := by
  refine fnO0 F sc_Sided___init___at_Stretch (fun vs H Q E h => spI_len lenI1 h) (fun cdv A outer s H vs Q E hr h => ?_)
  refine ⟨_, (pss_cons (ps_f (pv 0) (pv 1) T.cl_Stretch T.n_Stretch_side)
      pss_nil), ?_⟩
  exact ini_of1 (F := F_Sided___init___at_Stretch) (envI := fun fs => .oi "Stretch" fs :: List.replicate 1 .no) h (fun fs side => rfl) (fun p c fs side => (ss_setf se_var (fun side1 => (ss_nx (.s (le_no _ rfl))))))
abbrev N_Change___init__ : List Str := ["self", "front", "back", "side", "__class__"]
theorem sc_Change___init__ : NdefX.NScope N_Change___init__ ["self", "front", "back", "side"] ["__class__"] (defScope s_Change___init__) := NdefX.nscope_by (by decide +kernel)
def F_Change___init__ (fs : Fs) (front back side : D) : Tr Fs :=
  finI (bdF (W' := Unit) (bd (bd (bd (bd (bd (.ok front) fun v1 => (bd (.ok []) fun r2 => .ok (v1 :: r2))) (ul1 F_are_told)) asB) fun k => .ok (!k)) fun k => if k = true then .bad else (.ok (.nx ()))) fun (w3 : Unit) => (bdF (W' := Unit) (bd (bd (bd (bd (bd (.ok back) fun v4 => (bd (.ok []) fun r5 => .ok (v4 :: r5))) (ul1 F_are_told)) asB) fun k => .ok (!k)) fun k => if k = true then .bad else (.ok (.nx ()))) fun (w6 : Unit) => (bdF (W' := Unit) (bd (bd (bd (bd (bd (.ok side) fun d => bd (opt (isi_str d)) fun k => .ok (.bl k)) asB) fun k => .ok (!k)) fun k => if k = true then .ok true else (bd (bd (.ok side) fun v7 => (bd (.ok (.tup [.str "front", .str "back"])) fun v8 => notinD v7 v8)) asB)) fun k => if k = true then .bad else (.ok (.nx ()))) fun (w9 : Unit) => (bd (bd (.ok side) fun v10 => (bd (.ok []) fun r11 => .ok (v10 :: r11))) fun ds => bd ((fun fs => ul1 (F_Sided___init___at_Change fs)) fs ds) fun fs12 => (bd (bd (bd (.ok front) fun v13 => (bd (.ok []) fun r14 => .ok (v13 :: r14))) (ul1 F_ascending)) fun front15 => if fs12.length < 900 then (bd (bd (bd (.ok back) fun v16 => (bd (.ok []) fun r17 => .ok (v16 :: r17))) (ul1 F_ascending)) fun back18 => if (putD "front" front15 fs12).length < 900 then (.ok (.nx (putD "back" back18 (putD "front" front15 fs12)))) else .bad) else .bad)))))
theorem ok_Change___init__ (F : FnS K ds_Change___init__ pfile fd) (T : Tx K mg) (hP : ((P.main.file : Str) == pfile) = true ∧ (P.main.scope.names.lookup ("super" : Str)).isSome = false) (G_are_told : PromO P w K mg base CX0 3 (gd "are_told" K) [] (spF K Tb (ul1 F_are_told))) (G_Sided___init___at_Change : PromO P w K mg base CX0 1 (md "Sided" "__init__" K) [] (spI K Tb "Change" (fun fs => ul1 (F_Sided___init___at_Change fs)))) (G_ascending : PromO P w K mg base CX0 1 (gd "ascending" K) [] (spF K Tb (ul1 F_ascending))) : FnOk P w K mg base CX0 4 (ds_Change___init__.d.adr K) fd ["self", "front", "back", "side"] (spI K Tb "Change" (fun fs => ul3 (F_Change___init__ fs))) := by
  refine SupF.ok (k := 3) (pre := (defBody s_Change___init__).take 3) (post := (defBody s_Change___init__).drop 4) (by rfl) F ⟨Option.isSome_iff_exists.mp T.cd_Change, T.f_super, T.stat⟩ sc_Change___init__ (fun vs H Q E h => spI_len lenI3 h) hP.1 hP.2 (by decide) rfl rfl rfl rfl (fun cc cda A outer s H vs Q E hr h => ?_) (pl := _) (he := fun _ => rfl)
  refine ⟨_, _, _, _, _, _, _, _, _, (pss_cons (ps_if (pt_not (pt_val (pe_g (PromO.call G_are_told (hr.mono (by decide)) (passA (E := E))) (by rfl) T.g_are_told T.k_are_told (pa_cons (pv 1) pa_nil))))
      (pss_cons ps_never pss_nil) pss_nil)
      (pss_cons (ps_if (pt_not (pt_val (pe_g (PromO.call G_are_told (hr.mono (by decide)) (passA (E := E))) (by rfl) T.g_are_told T.k_are_told (pa_cons (pv 2) pa_nil))))
      (pss_cons ps_never pss_nil) pss_nil)
      (pss_cons (ps_if (PW.pt (pw_or (pt_not (pt_val (pe_callB (call_isiZ (K := K) rfl) (by rfl) T.f_isinstance (by decide +kernel) (pa_cons (pv 3) (pa_cons (pe_bltn (v := .ty "str") (by rfl) T.f_str (by decide +kernel) rfl) pa_nil))))) (pw_or1 (pt_cmpR (op_notinA (K := K) rfl) (pv 3) (pe_glob (v := .ref (gd "SIDES_changes" K)) rfl T.g_SIDES_changes rfl) (by rfl)))))
      (pss_cons ps_never pss_nil) pss_nil)
      pss_nil))), (pa_cons (pv 3) pa_nil), (pss_cons (ps_f (pv 0) (pe_g (PromO.call G_ascending (hr.mono (by decide)) (passA (E := E))) (by rfl) T.g_ascending T.k_ascending (pa_cons (pv 1) pa_nil)) T.cl_Change T.n_Change_front)
      (pss_cons (ps_f (pv 0) (pe_g (PromO.call G_ascending (hr.mono (by decide)) (passA (E := E))) (by rfl) T.g_ascending T.k_ascending (pa_cons (pv 2) pa_nil)) T.cl_Change T.n_Change_back)
      pss_nil)), G_Sided___init___at_Change, by decide, (passA (E := E)), ?_⟩
  refine sup_goal ?_
  exact ini_of3 (F := F_Change___init__) (envI := fun fs => .oi "Change" fs :: List.replicate 4 .no) h (fun fs front back side => rfl) (fun p c fs front back side => (ss_assoc (ss_if (fun (w3 : Unit) => [.oi "Change" fs, .fz front, .fz back, .fz side, .no]) (sb_not (sb_tb (se_cl srl_sp0 (sa_cons se_var sa_nil)))) ss_never (ss_nx (.s (.s (.s (.s (.s .nil)))))) (fun (w3 : Unit) => (ss_assoc (ss_if (fun (w6 : Unit) => [.oi "Change" fs, .fz front, .fz back, .fz side, .no]) (sb_not (sb_tb (se_cl srl_sp0 (sa_cons se_var sa_nil)))) ss_never (ss_nx (.s (.s (.s (.s (.s .nil)))))) (fun (w6 : Unit) => (ss_assoc (ss_if (fun (w9 : Unit) => [.oi "Change" fs, .fz front, .fz back, .fz side, .no]) (sb_or (sb_not (sb_tb (se_isi (.ty _) (isT_str T) se_var))) (sb_tst (se_op sr_notin se_var (se_c fun _ _ => .tupW (vs := [.str "front", .str "back"]) T.tu_SIDES_changes (by decide) (.cons (.str _ (by decide)) (.cons (.str _ (by decide)) .nil)))))) ss_never (ss_nx (.s (.s (.s (.s (.s .nil)))))) (fun (w9 : Unit) => (ss_next (ss_sup T.sc_Change_Change (sa_cons se_var sa_nil) (fun fs12 => (ss_setf (se_cl srl_sp0 (sa_cons se_var sa_nil)) (fun front15 => (ss_setf (se_cl srl_sp0 (sa_cons se_var sa_nil)) (fun back18 => (ss_nx (.s (le_no _ rfl))))))))))))))))))))
abbrev N_Change_weight : List Str := ["self"]
theorem sc_Change_weight : FnScope N_Change_weight ["self"] (defScope s_Change_weight) := ⟨rfl, rfl, rfl, by decide +kernel, rfl, by decide +kernel, by decide +kernel⟩
def F_Change_weight (self : D) : Tr D :=
  fin (bd (.ok (.int 1)) fun d => .ok (.rt d))
theorem ok_Change_weight (F : FnA K d_Change_weight fd) (T : Tx K mg)  : FnOk P w K mg base CX0 1 (d_Change_weight.adr K) fd ["self"] (spF K Tb (ul1 F_Change_weight)) := by
  refine fnO0 F sc_Change_weight (fun vs H Q E h => spF_len len1 h) (fun cdv A outer s H vs Q E hr h => ?_)
  refine ⟨_, (pss_cons (ps_ret pe_int) pss_nil), ?_⟩
  exact fn_of1 (F := F_Change_weight) (envU := fun _ => List.replicate 1 .no) h (fun self => rfl) (fun p c self => (ss_ret se_int))
abbrev N_Change___eq__ : List Str := ["self", "other"]
theorem sc_Change___eq__ : FnScope N_Change___eq__ ["self", "other"] (defScope s_Change___eq__) := ⟨rfl, rfl, rfl, by decide +kernel, rfl, by decide +kernel, by decide +kernel⟩
def F_Change___eq__ (self other : D) : Tr D :=
  fin (bdF (W' := Unit) (bd (bd (bd (bd (.ok other) fun d => bd (opt (isi_Change d)) fun k => .ok (.bl k)) asB) fun k => .ok (!k)) fun k => if k = true then (bd (.ok (.bl false)) fun d => .ok (.rt d)) else (.ok (.nx ()))) fun (w1 : Unit) => (bd (bd (bd (bd (bd (.ok self) (fldD "Change" "front")) fun v2 => (bd (bd (.ok other) (fldD "Change" "front")) fun v3 => eqD v2 v3)) asB) fun k => if k = true then (bd (bd (bd (bd (.ok self) (fldD "Change" "back")) fun v4 => (bd (bd (.ok other) (fldD "Change" "back")) fun v5 => eqD v4 v5)) asB) fun k => if k = true then (bd (bd (.ok self) (fldD "Change" "side")) fun v6 => (bd (bd (.ok other) (fldD "Change" "side")) fun v7 => eqD v6 v7)) else .ok (.bl false)) else .ok (.bl false)) fun d => .ok (.rt d)))
theorem ok_Change___eq__ (F : FnA K d_Change___eq__ fd) (T : Tx K mg)  : FnOk P w K mg base CX0 1 (d_Change___eq__.adr K) fd ["self", "other"] (spF K Tb (ul2 F_Change___eq__)) := by
  refine fnO0 F sc_Change___eq__ (fun vs H Q E h => spF_len len2 h) (fun cdv A outer s H vs Q E hr h => ?_)
  refine ⟨_, (pss_cons (ps_if (pt_not (pt_val (pe_callB (call_isiZ (K := K) rfl) (by rfl) T.f_isinstance (by decide +kernel) (pa_cons (pv 1) (pa_cons (pe_glob (v := .ref _) rfl T.g_Change rfl) pa_nil)))))
      (pss_cons (ps_ret pe_bl) pss_nil) pss_nil)
      (pss_cons (ps_ret (pe_and (pe_cmpR (op_eqA (K := K) rfl hr.units) (pe_f (pv 0) T.cl_Change T.n_Change_front) (pe_f (pv 1) T.cl_Change T.n_Change_front) (nomark _)) (pe_and (pe_cmpR (op_eqA (K := K) rfl hr.units) (pe_f (pv 0) T.cl_Change T.n_Change_back) (pe_f (pv 1) T.cl_Change T.n_Change_back) (nomark _)) (pe_one (pe_cmpR (op_eqA (K := K) rfl hr.units) (pe_f (pv 0) T.cl_Change T.n_Change_side) (pe_f (pv 1) T.cl_Change T.n_Change_side) (nomark _)))))) pss_nil)), ?_⟩
  exact fn_of2 (F := F_Change___eq__) (envU := fun _ => List.replicate 2 .no) h (fun self other => rfl) (fun p c self other => (ss_if (fun (w1 : Unit) => [.fz self, .fz other]) (sb_not (sb_tb (se_isi (.own _) (isT_Change T) se_var))) (ss_ret se_bl) (ss_nx (.s (.s .nil))) (fun (w1 : Unit) => (ss_ret (se_andV (se_op sr_eq (se_un sr_fld se_var) (se_un sr_fld se_var)) (se_andV (se_op sr_eq (se_un sr_fld se_var) (se_un sr_fld se_var)) (se_op sr_eq (se_un sr_fld se_var) (se_un sr_fld se_var))))))))
abbrev N_Stretch___init__ : List Str := ["self", "first", "span", "side", "late", "__class__"]
theorem sc_Stretch___init__ : NdefX.NScope N_Stretch___init__ ["self", "first", "span", "side", "late"] ["__class__"] (defScope s_Stretch___init__) := NdefX.nscope_by (by decide +kernel)
def F_Stretch___init__ (fs : Fs) (first span side late : D) : Tr Fs :=
  finI (bdF (W' := Unit) (bd (bd (bd (bd (bd (.ok first) fun v5 => (bd (bd (.ok (.int 0)) fun v3 => (bd (bd (.ok (.int 1)) fun v1 => (bd (.ok []) fun r2 => .ok (v1 :: r2))) fun r4 => .ok (v3 :: r4))) fun r6 => .ok (v5 :: r6))) (ul3 F_is_within)) asB) fun k => .ok (!k)) fun k => if k = true then .bad else (.ok (.nx ()))) fun (w7 : Unit) => (bdF (W' := Unit) (bd (bd (bd (bd (.ok span) fun d => bd (opt (isi_Span d)) fun k => .ok (.bl k)) asB) fun k => .ok (!k)) fun k => if k = true then .bad else (.ok (.nx ()))) fun (w8 : Unit) => (bdF (W' := Unit) (bd (bd (bd (bd (bd (.ok side) fun d => bd (opt (isi_str d)) fun k => .ok (.bl k)) asB) fun k => .ok (!k)) fun k => if k = true then .ok true else (bd (bd (.ok side) fun v9 => (bd (.ok (.tup [.str "front", .str "back"])) fun v10 => notinD v9 v10)) asB)) fun k => if k = true then .bad else (.ok (.nx ()))) fun (w11 : Unit) => (bdF (W' := Unit) (bd (bd (bd (bd (.ok late) fun d => bd (opt (isi_bool d)) fun k => .ok (.bl k)) asB) fun k => .ok (!k)) fun k => if k = true then .bad else (.ok (.nx ()))) fun (w12 : Unit) => (bd (bd (.ok side) fun v13 => (bd (.ok []) fun r14 => .ok (v13 :: r14))) fun ds => bd ((fun fs => ul1 (F_Sided___init___at_Stretch fs)) fs ds) fun fs15 => (bd (.ok first) fun first16 => if fs15.length < 900 then (bd (.ok span) fun span17 => if (putD "first" first16 fs15).length < 900 then (bd (.ok late) fun late18 => if (putD "span" span17 (putD "first" first16 fs15)).length < 900 then (.ok (.nx (putD "late" late18 (putD "span" span17 (putD "first" first16 fs15))))) else .bad) else .bad) else .bad))))))
theorem ok_Stretch___init__ (F : FnS K ds_Stretch___init__ pfile fd) (T : Tx K mg) (hP : ((P.main.file : Str) == pfile) = true ∧ (P.main.scope.names.lookup ("super" : Str)).isSome = false) (G_is_within : PromO P w K mg base CX0 2 (gd "is_within" K) [] (spF K Tb (ul3 F_is_within))) (G_Sided___init___at_Stretch : PromO P w K mg base CX0 1 (md "Sided" "__init__" K) [] (spI K Tb "Stretch" (fun fs => ul1 (F_Sided___init___at_Stretch fs)))) : FnOk P w K mg base CX0 3 (ds_Stretch___init__.d.adr K) fd ["self", "first", "span", "side", "late"] (spI K Tb "Stretch" (fun fs => ul4 (F_Stretch___init__ fs))) := by
  refine SupF.ok (k := 2) (pre := (defBody s_Stretch___init__).take 4) (post := (defBody s_Stretch___init__).drop 5) (by rfl) F ⟨Option.isSome_iff_exists.mp T.cd_Stretch, T.f_super, T.stat⟩ sc_Stretch___init__ (fun vs H Q E h => spI_len lenI4 h) hP.1 hP.2 (by decide) rfl rfl rfl rfl (fun cc cda A outer s H vs Q E hr h => ?_) (pl := _) (he := fun _ => rfl)
  refine ⟨_, _, _, _, _, _, _, _, _, (pss_cons (ps_if (pt_not (pt_val (pe_g (PromO.call G_is_within (hr.mono (by decide)) (passA (E := E))) (by rfl) T.g_is_within T.k_is_within (pa_cons (pv 1) (pa_cons pe_int (pa_cons pe_int pa_nil))))))
      (pss_cons ps_never pss_nil) pss_nil)
      (pss_cons (ps_if (pt_not (pt_val (pe_callB (call_isiZ (K := K) rfl) (by rfl) T.f_isinstance (by decide +kernel) (pa_cons (pv 2) (pa_cons (pe_glob (v := .ref _) rfl T.g_Span rfl) pa_nil)))))
      (pss_cons ps_never pss_nil) pss_nil)
      (pss_cons (ps_if (PW.pt (pw_or (pt_not (pt_val (pe_callB (call_isiZ (K := K) rfl) (by rfl) T.f_isinstance (by decide +kernel) (pa_cons (pv 3) (pa_cons (pe_bltn (v := .ty "str") (by rfl) T.f_str (by decide +kernel) rfl) pa_nil))))) (pw_or1 (pt_cmpR (op_notinA (K := K) rfl) (pv 3) (pe_glob (v := .ref (gd "SIDES_steps" K)) rfl T.g_SIDES_steps rfl) (by rfl)))))
      (pss_cons ps_never pss_nil) pss_nil)
      (pss_cons (ps_if (pt_not (pt_val (pe_callB (call_isiZ (K := K) rfl) (by rfl) T.f_isinstance (by decide +kernel) (pa_cons (pv 4) (pa_cons (pe_bltn (v := .ty "bool") (by rfl) T.f_bool (by decide +kernel) rfl) pa_nil)))))
      (pss_cons ps_never pss_nil) pss_nil)
      pss_nil)))), (pa_cons (pv 3) pa_nil), (pss_cons (ps_f (pv 0) (pv 1) T.cl_Stretch T.n_Stretch_first)
      (pss_cons (ps_f (pv 0) (pv 2) T.cl_Stretch T.n_Stretch_span)
      (pss_cons (ps_f (pv 0) (pv 4) T.cl_Stretch T.n_Stretch_late)
      pss_nil))), G_Sided___init___at_Stretch, by decide, (passA (E := E)), ?_⟩
  refine sup_goal ?_
  exact ini_of4 (F := F_Stretch___init__) (envI := fun fs => .oi "Stretch" fs :: List.replicate 5 .no) h (fun fs first span side late => rfl) (fun p c fs first span side late => (ss_assoc (ss_if (fun (w7 : Unit) => [.oi "Stretch" fs, .fz first, .fz span, .fz side, .fz late, .no]) (sb_not (sb_tb (se_cl srl_sp0 (sa_cons se_var (sa_cons se_int (sa_cons se_int sa_nil)))))) ss_never (ss_nx (.s (.s (.s (.s (.s (.s .nil))))))) (fun (w7 : Unit) => (ss_assoc (ss_if (fun (w8 : Unit) => [.oi "Stretch" fs, .fz first, .fz span, .fz side, .fz late, .no]) (sb_not (sb_tb (se_isi (.own _) (isT_Span T) se_var))) ss_never (ss_nx (.s (.s (.s (.s (.s (.s .nil))))))) (fun (w8 : Unit) => (ss_assoc (ss_if (fun (w11 : Unit) => [.oi "Stretch" fs, .fz first, .fz span, .fz side, .fz late, .no]) (sb_or (sb_not (sb_tb (se_isi (.ty _) (isT_str T) se_var))) (sb_tst (se_op sr_notin se_var (se_c fun _ _ => .tupW (vs := [.str "front", .str "back"]) T.tu_SIDES_steps (by decide) (.cons (.str _ (by decide)) (.cons (.str _ (by decide)) .nil)))))) ss_never (ss_nx (.s (.s (.s (.s (.s (.s .nil))))))) (fun (w11 : Unit) => (ss_assoc (ss_if (fun (w12 : Unit) => [.oi "Stretch" fs, .fz first, .fz span, .fz side, .fz late, .no]) (sb_not (sb_tb (se_isi (.ty _) (isT_bool T) se_var))) ss_never (ss_nx (.s (.s (.s (.s (.s (.s .nil))))))) (fun (w12 : Unit) => (ss_next (ss_sup T.sc_Stretch_Stretch (sa_cons se_var sa_nil) (fun fs15 => (ss_setf se_var (fun first16 => (ss_setf se_var (fun span17 => (ss_setf se_var (fun late18 => (ss_nx (.s (le_no _ rfl)))))))))))))))))))))))))
abbrev N_Stretch_weight : List Str := ["self"]
theorem sc_Stretch_weight : FnScope N_Stretch_weight ["self"] (defScope s_Stretch_weight) := ⟨rfl, rfl, rfl, by decide +kernel, rfl, by decide +kernel, by decide +kernel⟩
def F_Stretch_weight (self : D) : Tr D :=
  fin (bd (bd (bd (bd (.ok (.int 1)) fun v2 => (bd (nox (bd (bd (.ok self) (fldD "Stretch" "span")) fun o1 => (isO "Span" o1 fun _ => (ul1 F_Span_halves) [o1]))) fun v3 => addD v2 v3)) fun v7 => (bd (bd (bd (nox (bd (bd (.ok self) (fldD "Stretch" "span")) fun o4 => (isO "Span" o4 fun _ => (ul1 F_Span_more) [o4]))) fun v5 => (bd (.ok []) fun r6 => .ok (v5 :: r6))) (ul1 absD)) fun v8 => addD v7 v8)) fun v12 => (bd (bd (bd (nox (bd (bd (.ok self) (fldD "Stretch" "span")) fun o9 => (isO "Span" o9 fun _ => (ul1 F_Span_odd) [o9]))) fun v10 => (bd (.ok []) fun r11 => .ok (v10 :: r11))) (ul1 absD)) fun v13 => addD v12 v13)) fun d => .ok (.rt d))
theorem ok_Stretch_weight (F : FnA K d_Stretch_weight fd) (T : Tx K mg) (G_Span_halves : PromO P w K mg base CX0 1 (propG "Span" "halves" K) [] (spF K Tb (ul1 F_Span_halves))) (G_Span_more : PromO P w K mg base CX0 1 (propG "Span" "more" K) [] (spF K Tb (ul1 F_Span_more))) (G_Span_odd : PromO P w K mg base CX0 1 (propG "Span" "odd" K) [] (spF K Tb (ul1 F_Span_odd))) : FnOk P w K mg base CX0 3 (d_Stretch_weight.adr K) fd ["self"] (spF K Tb (ul1 F_Stretch_weight)) := by
  refine fnO0 F sc_Stretch_weight (fun vs H Q E h => spF_len len1 h) (fun cdv A outer s H vs Q E hr h => ?_)
  refine ⟨_, (pss_cons (ps_ret (pe_op (op_addA (K := K) rfl) (pe_op (op_addA (K := K) rfl) (pe_op (op_addA (K := K) rfl) pe_int (pe_po (pe_f (pv 0) T.cl_Stretch T.n_Stretch_span) T.cl_Span T.pr_Span_halves G_Span_halves (hr.mono (by decide)) (passA (E := EF)))) (pe_callB cr_abs (by rfl) T.f_abs (by decide +kernel) (pa_cons (pe_po (pe_f (pv 0) T.cl_Stretch T.n_Stretch_span) T.cl_Span T.pr_Span_more G_Span_more (hr.mono (by decide)) (passA (E := EF))) pa_nil))) (pe_callB cr_abs (by rfl) T.f_abs (by decide +kernel) (pa_cons (pe_po (pe_f (pv 0) T.cl_Stretch T.n_Stretch_span) T.cl_Span T.pr_Span_odd G_Span_odd (hr.mono (by decide)) (passA (E := EF))) pa_nil)))) pss_nil), ?_⟩
  exact fn_of1 (F := F_Stretch_weight) (envU := fun _ => List.replicate 1 .no) h (fun self => rfl) (fun p c self => (ss_ret (se_op sr_add (se_op sr_add (se_op sr_add se_int (se_nox (se_pr (se_un sr_fld se_var)))) (se_cb srl_abs (sa_cons (se_nox (se_pr (se_un sr_fld se_var))) sa_nil))) (se_cb srl_abs (sa_cons (se_nox (se_pr (se_un sr_fld se_var))) sa_nil)))))
abbrev N_Stretch___eq__ : List Str := ["self", "other"]
theorem sc_Stretch___eq__ : FnScope N_Stretch___eq__ ["self", "other"] (defScope s_Stretch___eq__) := ⟨rfl, rfl, rfl, by decide +kernel, rfl, by decide +kernel, by decide +kernel⟩
def F_Stretch___eq__ (self other : D) : Tr D :=
  fin (bdF (W' := Unit) (bd (bd (bd (bd (bd (.ok other) fun d => bd (opt (isi_Stretch d)) fun k => .ok (.bl k)) asB) fun k => .ok (!k)) fun k => if k = true then .ok true else (bd (bd (bd (bd (.ok self) (fldD "Stretch" "side")) fun v1 => (bd (bd (.ok other) (fldD "Stretch" "side")) fun v2 => neD v1 v2)) asB) fun k => if k = true then .ok true else (bd (bd (bd (.ok self) (fldD "Stretch" "late")) fun v3 => (bd (bd (.ok other) (fldD "Stretch" "late")) fun v4 => neD v3 v4)) asB))) fun k => if k = true then (bd (.ok (.bl false)) fun d => .ok (.rt d)) else (.ok (.nx ()))) fun (w5 : Unit) => (bd (bd (bd (bd (bd (.ok self) (fldD "Stretch" "first")) fun v6 => (bd (bd (.ok other) (fldD "Stretch" "first")) fun v7 => eqD v6 v7)) asB) fun k => if k = true then (bd (bd (.ok self) (fldD "Stretch" "span")) fun v8 => (bd (bd (.ok other) (fldD "Stretch" "span")) fun v9 => eqO "Span" eqr_Span (ul2 F_Span___eq__) v8 v9)) else .ok (.bl false)) fun d => .ok (.rt d)))
theorem ok_Stretch___eq__ (F : FnA K d_Stretch___eq__ fd) (T : Tx K mg) (G_Span___eq__ : PromO P w K mg base CX0 1 (md "Span" "__eq__" K) [] (spF K Tb (ul2 F_Span___eq__))) : FnOk P w K mg base CX0 2 (d_Stretch___eq__.adr K) fd ["self", "other"] (spF K Tb (ul2 F_Stretch___eq__)) := by
  refine fnO0 F sc_Stretch___eq__ (fun vs H Q E h => spF_len len2 h) (fun cdv A outer s H vs Q E hr h => ?_)
  refine ⟨_, (pss_cons (ps_if (PW.pt (pw_or (pt_not (pt_val (pe_callB (call_isiZ (K := K) rfl) (by rfl) T.f_isinstance (by decide +kernel) (pa_cons (pv 1) (pa_cons (pe_glob (v := .ref _) rfl T.g_Stretch rfl) pa_nil))))) (pw_or (pt_cmpR (op_neA (K := K) rfl hr.units) (pe_f (pv 0) T.cl_Stretch T.n_Stretch_side) (pe_f (pv 1) T.cl_Stretch T.n_Stretch_side) (nomark _)) (pw_or1 (pt_cmpR (op_neA (K := K) rfl hr.units) (pe_f (pv 0) T.cl_Stretch T.n_Stretch_late) (pe_f (pv 1) T.cl_Stretch T.n_Stretch_late) (nomark _))))))
      (pss_cons (ps_ret pe_bl) pss_nil) pss_nil)
      (pss_cons (ps_ret (pe_and (pe_cmpR (op_eqA (K := K) rfl hr.units) (pe_f (pv 0) T.cl_Stretch T.n_Stretch_first) (pe_f (pv 1) T.cl_Stretch T.n_Stretch_first) (nomark _)) (pe_one (pe_cmpR (op_eqO (K := K) rfl T.mt_Span___eq__ hr.units0 (PromO.call G_Span___eq__ (hr.mono (by decide)) (passA (E := E)))) (pe_f (pv 0) T.cl_Stretch T.n_Stretch_span) (pe_f (pv 1) T.cl_Stretch T.n_Stretch_span) (nomark _))))) pss_nil)), ?_⟩
  exact fn_of2 (F := F_Stretch___eq__) (envU := fun _ => List.replicate 2 .no) h (fun self other => rfl) (fun p c self other => (ss_if (fun (w5 : Unit) => [.fz self, .fz other]) (sb_or (sb_not (sb_tb (se_isi (.own _) (isT_Stretch T) se_var))) (sb_or (sb_tst (se_op sr_ne (se_un sr_fld se_var) (se_un sr_fld se_var))) (sb_tst (se_op sr_ne (se_un sr_fld se_var) (se_un sr_fld se_var))))) (ss_ret se_bl) (ss_nx (.s (.s .nil))) (fun (w5 : Unit) => (ss_ret (se_andV (se_op sr_eq (se_un sr_fld se_var) (se_un sr_fld se_var)) (se_op (sr_eqO (eqR_Span T) srl_sp0) (se_un sr_fld se_var) (se_un sr_fld se_var)))))))
abbrev N_Step_said_at_Change : List Str := ["self"]
theorem sc_Step_said_at_Change : FnScope N_Step_said_at_Change ["self"] (defScope s_Step_said_at_Change) := ⟨rfl, rfl, rfl, by decide +kernel, rfl, by decide +kernel, by decide +kernel⟩
def F_Step_said_at_Change (self : D) : Tr D :=
  fin (bd (.ok (.int 1)) fun d => .ok (.rt d))
theorem ok_Step_said_at_Change (F : FnA K d_Step_said_at_Change fd) (T : Tx K mg)  : FnOk P w K mg base CX0 1 (d_Step_said_at_Change.adr K) fd ["self"] (spF K Tb (ul1 F_Step_said_at_Change)) := by
  refine fnO0 F sc_Step_said_at_Change (fun vs H Q E h => spF_len len1 h) (fun cdv A outer s H vs Q E hr h => ?_)
  refine ⟨_, (pss_cons (ps_ret pe_int) pss_nil), ?_⟩
  exact fn_of1 (F := F_Step_said_at_Change) (envU := fun _ => List.replicate 1 .no) h (fun self => rfl) (fun p c self => (ss_ret se_int))
abbrev N_Step_done_at_Change : List Str := ["self"]
theorem sc_Step_done_at_Change : FnScope N_Step_done_at_Change ["self"] (defScope s_Step_done_at_Change) := ⟨rfl, rfl, rfl, by decide +kernel, rfl, by decide +kernel, by decide +kernel⟩
def F_Step_done_at_Change (self : D) : Tr D :=
  fin (bd (.ok (.int 1)) fun d => .ok (.rt d))
theorem ok_Step_done_at_Change (F : FnA K d_Step_done_at_Change fd) (T : Tx K mg)  : FnOk P w K mg base CX0 1 (d_Step_done_at_Change.adr K) fd ["self"] (spF K Tb (ul1 F_Step_done_at_Change)) := by
  refine fnO0 F sc_Step_done_at_Change (fun vs H Q E h => spF_len len1 h) (fun cdv A outer s H vs Q E hr h => ?_)
  refine ⟨_, (pss_cons (ps_ret pe_int) pss_nil), ?_⟩
  exact fn_of1 (F := F_Step_done_at_Change) (envU := fun _ => List.replicate 1 .no) h (fun self => rfl) (fun p c self => (ss_ret se_int))
abbrev N_Step_deep_at_Change : List Str := ["self"]
theorem sc_Step_deep_at_Change : FnScope N_Step_deep_at_Change ["self"] (defScope s_Step_deep_at_Change) := ⟨rfl, rfl, rfl, by decide +kernel, rfl, by decide +kernel, by decide +kernel⟩
def F_Step_deep_at_Change (self : D) : Tr D :=
  fin (bd (.ok (.int 1)) fun d => .ok (.rt d))
theorem ok_Step_deep_at_Change (F : FnA K d_Step_deep_at_Change fd) (T : Tx K mg)  : FnOk P w K mg base CX0 1 (d_Step_deep_at_Change.adr K) fd ["self"] (spF K Tb (ul1 F_Step_deep_at_Change)) := by
  refine fnO0 F sc_Step_deep_at_Change (fun vs H Q E h => spF_len len1 h) (fun cdv A outer s H vs Q E hr h => ?_)
  refine ⟨_, (pss_cons (ps_ret pe_int) pss_nil), ?_⟩
  exact fn_of1 (F := F_Step_deep_at_Change) (envU := fun _ => List.replicate 1 .no) h (fun self => rfl) (fun p c self => (ss_ret se_int))
abbrev N_Step_said_at_Stretch : List Str := ["self"]
theorem sc_Step_said_at_Stretch : FnScope N_Step_said_at_Stretch ["self"] (defScope s_Step_said_at_Stretch) := ⟨rfl, rfl, rfl, by decide +kernel, rfl, by decide +kernel, by decide +kernel⟩
def F_Step_said_at_Stretch (self : D) : Tr D :=
  fin (bd (.ok (.int 1)) fun d => .ok (.rt d))
theorem ok_Step_said_at_Stretch (F : FnA K d_Step_said_at_Stretch fd) (T : Tx K mg)  : FnOk P w K mg base CX0 1 (d_Step_said_at_Stretch.adr K) fd ["self"] (spF K Tb (ul1 F_Step_said_at_Stretch)) := by
  refine fnO0 F sc_Step_said_at_Stretch (fun vs H Q E h => spF_len len1 h) (fun cdv A outer s H vs Q E hr h => ?_)
  refine ⟨_, (pss_cons (ps_ret pe_int) pss_nil), ?_⟩
  exact fn_of1 (F := F_Step_said_at_Stretch) (envU := fun _ => List.replicate 1 .no) h (fun self => rfl) (fun p c self => (ss_ret se_int))
abbrev N_Step_done_at_Stretch : List Str := ["self"]
theorem sc_Step_done_at_Stretch : FnScope N_Step_done_at_Stretch ["self"] (defScope s_Step_done_at_Stretch) := ⟨rfl, rfl, rfl, by decide +kernel, rfl, by decide +kernel, by decide +kernel⟩
def F_Step_done_at_Stretch (self : D) : Tr D :=
  fin (bd (.ok (.int 1)) fun d => .ok (.rt d))
theorem ok_Step_done_at_Stretch (F : FnA K d_Step_done_at_Stretch fd) (T : Tx K mg)  : FnOk P w K mg base CX0 1 (d_Step_done_at_Stretch.adr K) fd ["self"] (spF K Tb (ul1 F_Step_done_at_Stretch)) := by
  refine fnO0 F sc_Step_done_at_Stretch (fun vs H Q E h => spF_len len1 h) (fun cdv A outer s H vs Q E hr h => ?_)
  refine ⟨_, (pss_cons (ps_ret pe_int) pss_nil), ?_⟩
  exact fn_of1 (F := F_Step_done_at_Stretch) (envU := fun _ => List.replicate 1 .no) h (fun self => rfl) (fun p c self => (ss_ret se_int))
abbrev N_Step_deep_at_Stretch : List Str := ["self"]
theorem sc_Step_deep_at_Stretch : FnScope N_Step_deep_at_Stretch ["self"] (defScope s_Step_deep_at_Stretch) := ⟨rfl, rfl, rfl, by decide +kernel, rfl, by decide +kernel, by decide +kernel⟩
def F_Step_deep_at_Stretch (self : D) : Tr D :=
  fin (bd (.ok (.int 1)) fun d => .ok (.rt d))
theorem ok_Step_deep_at_Stretch (F : FnA K d_Step_deep_at_Stretch fd) (T : Tx K mg)  : FnOk P w K mg base CX0 1 (d_Step_deep_at_Stretch.adr K) fd ["self"] (spF K Tb (ul1 F_Step_deep_at_Stretch)) := by
  refine fnO0 F sc_Step_deep_at_Stretch (fun vs H Q E h => spF_len len1 h) (fun cdv A outer s H vs Q E hr h => ?_)
  refine ⟨_, (pss_cons (ps_ret pe_int) pss_nil), ?_⟩
  exact fn_of1 (F := F_Step_deep_at_Stretch) (envU := fun _ => List.replicate 1 .no) h (fun self => rfl) (fun p c self => (ss_ret se_int))
end
end Lw
end
section
set_option Elab.async false
set_option linter.all false
set_option maxRecDepth 100000
set_option maxHeartbeats 4000000
set_option pp.maxSteps 600
namespace Lw
open PySem PySem.Spec PyProof.Rows L2 Gh Gp
section
variable {P : Program} {w : World} {K : PySem.W.Frag} {mg : Str → Option Value} {base : Heap} {f : Addr} {fd : FuncData} {Tb : List (Addr × Str)}
abbrev N_Block_said : List Str := ["self", "step"]
theorem sc_Block_said : FnScope N_Block_said ["self"] (defScope s_Block_said) := ⟨rfl, rfl, rfl, by decide +kernel, rfl, by decide +kernel, by decide +kernel⟩
def F_Block_said : Nat → D → Tr D
  | 0 => fun _ => .bad
  | r + 1 => fun self => fin (bd (bd (.ok (.int 1)) fun v9 => (bd (bd (bd (bd (bd (bd (.ok self) (fldD "Block" "steps")) itD) fun ds => bd (lcF (fun step0 => nox (bd (bd (bd (if isC "Change" step0 = true then (nox (bd (.ok step0) fun o2 => (isO "Change" o2 fun _ => (ul1 F_Step_said_at_Change) [o2]))) else (if isC "Stretch" step0 = true then (nox (bd (.ok step0) fun o3 => (isO "Stretch" o3 fun _ => (ul1 F_Step_said_at_Stretch) [o3]))) else (nox (bd (.ok step0) fun o4 => (isO "Block" o4 fun _ => (ul1 (F_Block_said r)) [o4]))))) fun v5 => (bd (.ok []) fun r6 => .ok (v5 :: r6))) (ul1 intD)) fun y => .ok (some y))) ds) fun r => .ok (.lst r)) fun v7 => (bd (.ok []) fun r8 => .ok (v7 :: r8))) (ul1 sumD)) fun v10 => addD v9 v10)) fun d => .ok (.rt d))
theorem ok_Block_said (F : FnA K d_Block_said fd) (T : Tx K mg) (bn : Binds K fd ["self"] []) (G_Step_said_at_Change : PromO P w K mg base CX0 1 (propG "Change" "said" K) [] (spF K Tb (ul1 F_Step_said_at_Change))) (G_Step_said_at_Stretch : PromO P w K mg base CX0 1 (propG "Stretch" "said" K) [] (spF K Tb (ul1 F_Step_said_at_Stretch))) : ∀ r : Nat, FnOk P w K mg base CX0 (3 + 2 * r) (d_Block_said.adr K) fd ["self"] (spF K Tb (ul1 (F_Block_said r)))
  | 0 => fn_bad ul1_bad
  | r + 1 => by
    have G_Block_said : PromO P w K mg base CX0 (3 + 2 * r) (propG "Block" "said" K) [] (spF K Tb (ul1 (F_Block_said r))) := ⟨fd, _, [], ok_Block_said F T bn G_Step_said_at_Change G_Step_said_at_Stretch r, bn, .nil⟩
    rw [show 3 + 2 * (r + 1) = (3 + 2 * r + 1) + 1 by omega]
    refine fnO0 F sc_Block_said (fun vs H Q E h => spF_len len1 h) (fun cdv A outer s H vs Q E hr h => ?_)
    refine ⟨_, (pss_cons (ps_ret (pe_op (op_addA (K := K) rfl) pe_int (pe_callB (cr_sumK (K := K) rfl rfl) (by rfl) T.f_sum (by decide +kernel) (pa_cons (pe_lc (own := [("step", 1)]) (g := gName 1) (by rfl) sc_Block_said.nd (pi_seq (K := K) rfl (pe_f (pv 0) T.cl_Block T.n_Block_steps)) (blkOk_by (own := [("step", 1)]) (N := N_Block_said) (sc := defScope s_Block_said) (by decide +kernel)) (fun _ _ _ _ _ => pg_name (i := 1) sc_Block_said.nd rfl (Or.inl rfl)) (fun _ _ _ _ _ => pts_nil) (fun _ _ _ _ _ => (pe_callTy cr_int (by rfl) T.f_int (by decide +kernel) (pa_cons (PE.or (pe_po (pv 1) T.cl_Change T.pr_Change_said G_Step_said_at_Change (hr.mono (by omega)) (passA (E := EF))) (PE.or (pe_po (pv 1) T.cl_Stretch T.pr_Stretch_said G_Step_said_at_Stretch (hr.mono (by omega)) (passA (E := EF))) (pe_po (pv 1) T.cl_Block T.pr_Block_said G_Block_said (hr.mono (by omega)) (passA (E := EF))))) pa_nil)))) pa_nil)))) pss_nil), ?_⟩
    exact fn_of1 (F := F_Block_said (r + 1)) (envU := fun _ => List.replicate 2 .no) h (fun self => rfl) (fun p c self => (ss_ret (se_op sr_add se_int (se_cb srl_sum (sa_cons (se_lc (si_seq (se_un sr_fld se_var)) (fun step0 => (sc_map (se_cb srl_int (sa_cons (se_or (isC "Change" step0) (se_nox (se_pr se_var)) (se_or (isC "Stretch" step0) (se_nox (se_pr se_var)) (se_nox (se_pr se_var)))) sa_nil))))) sa_nil)))))
abbrev N_Block_done : List Str := ["self", "step"]
theorem sc_Block_done : FnScope N_Block_done ["self"] (defScope s_Block_done) := ⟨rfl, rfl, rfl, by decide +kernel, rfl, by decide +kernel, by decide +kernel⟩
def F_Block_done : Nat → D → Tr D
  | 0 => fun _ => .bad
  | r + 1 => fun self => fin (bd (bd (bd (.ok self) (fldD "Block" "times")) fun v9 => (bd (bd (bd (bd (bd (bd (.ok self) (fldD "Block" "steps")) itD) fun ds => bd (lcF (fun step0 => nox (bd (bd (bd (if isC "Change" step0 = true then (nox (bd (.ok step0) fun o2 => (isO "Change" o2 fun _ => (ul1 F_Step_done_at_Change) [o2]))) else (if isC "Stretch" step0 = true then (nox (bd (.ok step0) fun o3 => (isO "Stretch" o3 fun _ => (ul1 F_Step_done_at_Stretch) [o3]))) else (nox (bd (.ok step0) fun o4 => (isO "Block" o4 fun _ => (ul1 (F_Block_done r)) [o4]))))) fun v5 => (bd (.ok []) fun r6 => .ok (v5 :: r6))) (ul1 intD)) fun y => .ok (some y))) ds) fun r => .ok (.lst r)) fun v7 => (bd (.ok []) fun r8 => .ok (v7 :: r8))) (ul1 sumD)) fun v10 => mulD v9 v10)) fun d => .ok (.rt d))
theorem ok_Block_done (F : FnA K d_Block_done fd) (T : Tx K mg) (bn : Binds K fd ["self"] []) (G_Step_done_at_Change : PromO P w K mg base CX0 1 (propG "Change" "done" K) [] (spF K Tb (ul1 F_Step_done_at_Change))) (G_Step_done_at_Stretch : PromO P w K mg base CX0 1 (propG "Stretch" "done" K) [] (spF K Tb (ul1 F_Step_done_at_Stretch))) : ∀ r : Nat, FnOk P w K mg base CX0 (3 + 2 * r) (d_Block_done.adr K) fd ["self"] (spF K Tb (ul1 (F_Block_done r)))
  | 0 => fn_bad ul1_bad
  | r + 1 => by
    have G_Block_done : PromO P w K mg base CX0 (3 + 2 * r) (propG "Block" "done" K) [] (spF K Tb (ul1 (F_Block_done r))) := ⟨fd, _, [], ok_Block_done F T bn G_Step_done_at_Change G_Step_done_at_Stretch r, bn, .nil⟩
    rw [show 3 + 2 * (r + 1) = (3 + 2 * r + 1) + 1 by omega]
    refine fnO0 F sc_Block_done (fun vs H Q E h => spF_len len1 h) (fun cdv A outer s H vs Q E hr h => ?_)
    refine ⟨_, (pss_cons (ps_ret (pe_op op_mulA (pe_f (pv 0) T.cl_Block T.n_Block_times) (pe_callB (cr_sumK (K := K) rfl rfl) (by rfl) T.f_sum (by decide +kernel) (pa_cons (pe_lc (own := [("step", 1)]) (g := gName 1) (by rfl) sc_Block_done.nd (pi_seq (K := K) rfl (pe_f (pv 0) T.cl_Block T.n_Block_steps)) (blkOk_by (own := [("step", 1)]) (N := N_Block_done) (sc := defScope s_Block_done) (by decide +kernel)) (fun _ _ _ _ _ => pg_name (i := 1) sc_Block_done.nd rfl (Or.inl rfl)) (fun _ _ _ _ _ => pts_nil) (fun _ _ _ _ _ => (pe_callTy cr_int (by rfl) T.f_int (by decide +kernel) (pa_cons (PE.or (pe_po (pv 1) T.cl_Change T.pr_Change_done G_Step_done_at_Change (hr.mono (by omega)) (passA (E := EF))) (PE.or (pe_po (pv 1) T.cl_Stretch T.pr_Stretch_done G_Step_done_at_Stretch (hr.mono (by omega)) (passA (E := EF))) (pe_po (pv 1) T.cl_Block T.pr_Block_done G_Block_done (hr.mono (by omega)) (passA (E := EF))))) pa_nil)))) pa_nil)))) pss_nil), ?_⟩
    exact fn_of1 (F := F_Block_done (r + 1)) (envU := fun _ => List.replicate 2 .no) h (fun self => rfl) (fun p c self => (ss_ret (se_op sr_mul (se_un sr_fld se_var) (se_cb srl_sum (sa_cons (se_lc (si_seq (se_un sr_fld se_var)) (fun step0 => (sc_map (se_cb srl_int (sa_cons (se_or (isC "Change" step0) (se_nox (se_pr se_var)) (se_or (isC "Stretch" step0) (se_nox (se_pr se_var)) (se_nox (se_pr se_var)))) sa_nil))))) sa_nil)))))
abbrev N_Block_weight : List Str := ["self", "step"]
theorem sc_Block_weight : FnScope N_Block_weight ["self"] (defScope s_Block_weight) := ⟨rfl, rfl, rfl, by decide +kernel, rfl, by decide +kernel, by decide +kernel⟩
def F_Block_weight : Nat → D → Tr D
  | 0 => fun _ => .bad
  | r + 1 => fun self => fin (bd (bd (bd (.ok self) (fldD "Block" "times")) fun v9 => (bd (bd (bd (bd (bd (bd (.ok self) (fldD "Block" "steps")) itD) fun ds => bd (lcF (fun step0 => nox (bd (bd (bd (if isC "Change" step0 = true then (nox (bd (.ok step0) fun o2 => (isO "Change" o2 fun _ => (ul1 F_Change_weight) [o2]))) else (if isC "Stretch" step0 = true then (nox (bd (.ok step0) fun o3 => (isO "Stretch" o3 fun _ => (ul1 F_Stretch_weight) [o3]))) else (nox (bd (.ok step0) fun o4 => (isO "Block" o4 fun _ => (ul1 (F_Block_weight r)) [o4]))))) fun v5 => (bd (.ok []) fun r6 => .ok (v5 :: r6))) (ul1 intD)) fun y => .ok (some y))) ds) fun r => .ok (.lst r)) fun v7 => (bd (.ok []) fun r8 => .ok (v7 :: r8))) (ul1 sumD)) fun v10 => mulD v9 v10)) fun d => .ok (.rt d))
theorem ok_Block_weight (F : FnA K d_Block_weight fd) (T : Tx K mg) (bn : Binds K fd ["self"] []) (G_Change_weight : PromO P w K mg base CX0 1 (propG "Change" "weight" K) [] (spF K Tb (ul1 F_Change_weight))) (G_Stretch_weight : PromO P w K mg base CX0 3 (propG "Stretch" "weight" K) [] (spF K Tb (ul1 F_Stretch_weight))) : ∀ r : Nat, FnOk P w K mg base CX0 (5 + 2 * r) (d_Block_weight.adr K) fd ["self"] (spF K Tb (ul1 (F_Block_weight r)))
  | 0 => fn_bad ul1_bad
  | r + 1 => by
    have G_Block_weight : PromO P w K mg base CX0 (5 + 2 * r) (propG "Block" "weight" K) [] (spF K Tb (ul1 (F_Block_weight r))) := ⟨fd, _, [], ok_Block_weight F T bn G_Change_weight G_Stretch_weight r, bn, .nil⟩
    rw [show 5 + 2 * (r + 1) = (5 + 2 * r + 1) + 1 by omega]
    refine fnO0 F sc_Block_weight (fun vs H Q E h => spF_len len1 h) (fun cdv A outer s H vs Q E hr h => ?_)
    refine ⟨_, (pss_cons (ps_ret (pe_op op_mulA (pe_f (pv 0) T.cl_Block T.n_Block_times) (pe_callB (cr_sumK (K := K) rfl rfl) (by rfl) T.f_sum (by decide +kernel) (pa_cons (pe_lc (own := [("step", 1)]) (g := gName 1) (by rfl) sc_Block_weight.nd (pi_seq (K := K) rfl (pe_f (pv 0) T.cl_Block T.n_Block_steps)) (blkOk_by (own := [("step", 1)]) (N := N_Block_weight) (sc := defScope s_Block_weight) (by decide +kernel)) (fun _ _ _ _ _ => pg_name (i := 1) sc_Block_weight.nd rfl (Or.inl rfl)) (fun _ _ _ _ _ => pts_nil) (fun _ _ _ _ _ => (pe_callTy cr_int (by rfl) T.f_int (by decide +kernel) (pa_cons (PE.or (pe_po (pv 1) T.cl_Change T.pr_Change_weight G_Change_weight (hr.mono (by omega)) (passA (E := EF))) (PE.or (pe_po (pv 1) T.cl_Stretch T.pr_Stretch_weight G_Stretch_weight (hr.mono (by omega)) (passA (E := EF))) (pe_po (pv 1) T.cl_Block T.pr_Block_weight G_Block_weight (hr.mono (by omega)) (passA (E := EF))))) pa_nil)))) pa_nil)))) pss_nil), ?_⟩
    exact fn_of1 (F := F_Block_weight (r + 1)) (envU := fun _ => List.replicate 2 .no) h (fun self => rfl) (fun p c self => (ss_ret (se_op sr_mul (se_un sr_fld se_var) (se_cb srl_sum (sa_cons (se_lc (si_seq (se_un sr_fld se_var)) (fun step0 => (sc_map (se_cb srl_int (sa_cons (se_or (isC "Change" step0) (se_nox (se_pr se_var)) (se_or (isC "Stretch" step0) (se_nox (se_pr se_var)) (se_nox (se_pr se_var)))) sa_nil))))) sa_nil)))))
abbrev N_deepest : List Str := ["steps", "found", "step"]
theorem sc_deepest : FnScope N_deepest ["steps"] (defScope s_deepest) := ⟨rfl, rfl, rfl, by decide +kernel, rfl, by decide +kernel, by decide +kernel⟩
def F_deepest (rB : D → Tr D) (steps : D) : Tr D :=
  fin (bd (.ok (.int 0)) fun found0 => (bdF (bd (bd (.ok steps) itD) fun ds => forF (fun (d3 : D) (w2 : D) => (bd (bd (bd (bd (if isC "Change" d3 = true then (nox (bd (.ok d3) fun o6 => (isO "Change" o6 fun _ => (ul1 F_Step_deep_at_Change) [o6]))) else (if isC "Stretch" d3 = true then (nox (bd (.ok d3) fun o7 => (isO "Stretch" o7 fun _ => (ul1 F_Step_deep_at_Stretch) [o7]))) else (nox (bd (.ok d3) fun o8 => (isO "Block" o8 fun _ => (ul1 rB) [o8]))))) fun v9 => (bd (.ok w2) fun v10 => gtD v9 v10)) asB) fun k => if k = true then (if isC "Change" d3 = true then (nox (bd (.ok d3) fun o11 => (isO "Change" o11 fun _ => (ul1 F_Step_deep_at_Change) [o11]))) else (if isC "Stretch" d3 = true then (nox (bd (.ok d3) fun o12 => (isO "Stretch" o12 fun _ => (ul1 F_Step_deep_at_Stretch) [o12]))) else (nox (bd (.ok d3) fun o13 => (isO "Block" o13 fun _ => (ul1 rB) [o13]))))) else (.ok w2)) fun found4 => (.ok (.nx found4)))) ds found0) fun (w2 : D) => (bd (.ok w2) fun d => .ok (.rt d))))
theorem ok_deepest (F : FnA K d_deepest fd) (T : Tx K mg) (G_Step_deep_at_Change : PromO P w K mg base CX0 1 (propG "Change" "deep" K) [] (spF K Tb (ul1 F_Step_deep_at_Change))) (G_Step_deep_at_Stretch : PromO P w K mg base CX0 1 (propG "Stretch" "deep" K) [] (spF K Tb (ul1 F_Step_deep_at_Stretch))) {rB : D → Tr D} {kr : Nat} (G_Block_deep : PromO P w K mg base CX0 kr (propG "Block" "deep" K) [] (spF K Tb (ul1 rB))) : FnOk P w K mg base CX0 (kr + 3) (d_deepest.adr K) fd ["steps"] (spF K Tb (ul1 (F_deepest rB))) := by
  refine fnO0 F sc_deepest (fun vs H Q E h => spF_len len1 h) (fun cdv A outer s H vs Q E hr h => ?_)
  refine ⟨_, (pss_cons (ps_set (i := 1) sc_deepest.nd rfl (.inl rfl) pe_int)
      (pss_cons (ps_for PassesOwn.never rfl (pi_seq (K := K) rfl (pv 0)) (pg_name (i := 2) sc_deepest.nd rfl (.inl rfl))
      (pss_cons (ps_set (i := 1) sc_deepest.nd rfl (.inl rfl) (pe_ifExp (pt_cmpR op_gt (PE.or (pe_po (pv 2) T.cl_Change T.pr_Change_deep G_Step_deep_at_Change (hr.mono (by omega)) (passA (E := EF))) (PE.or (pe_po (pv 2) T.cl_Stretch T.pr_Stretch_deep G_Step_deep_at_Stretch (hr.mono (by omega)) (passA (E := EF))) (pe_po (pv 2) T.cl_Block T.pr_Block_deep G_Block_deep (hr.mono (by omega)) (passA (E := EF))))) (pv 1) (nomark _)) (PE.or (pe_po (pv 2) T.cl_Change T.pr_Change_deep G_Step_deep_at_Change (hr.mono (by omega)) (passA (E := EF))) (PE.or (pe_po (pv 2) T.cl_Stretch T.pr_Stretch_deep G_Step_deep_at_Stretch (hr.mono (by omega)) (passA (E := EF))) (pe_po (pv 2) T.cl_Block T.pr_Block_deep G_Block_deep (hr.mono (by omega)) (passA (E := EF))))) (pv 1)))
      pss_nil))
      (pss_cons (ps_ret (pv 1)) pss_nil))), ?_⟩
  exact fn_of1 (F := F_deepest rB) (envU := fun _ => List.replicate 3 .no) h (fun steps => rfl) (fun p c steps => (ss_asg se_int (fun found0 => (ss_for (fun (w2 : D) => [.fz steps, .fz w2, .no]) (si_seq se_var) (.s (.s (.s .nil))) (fun (d3 : D) (w2 : D) => (sx_name (ss_asg (se_if (sb_tst (se_op sr_gt (se_or (isC "Change" d3) (se_nox (se_pr se_var)) (se_or (isC "Stretch" d3) (se_nox (se_pr se_var)) (se_nox (se_pr se_var)))) se_var)) (se_or (isC "Change" d3) (se_nox (se_pr se_var)) (se_or (isC "Stretch" d3) (se_nox (se_pr se_var)) (se_nox (se_pr se_var)))) se_var) (fun found4 => (ss_nx (.s (.s (.n .nil)))))))) (fun (w2 : D) => (ss_ret se_var))))))
abbrev N_Block_deep : List Str := ["self"]
theorem sc_Block_deep : FnScope N_Block_deep ["self"] (defScope s_Block_deep) := ⟨rfl, rfl, rfl, by decide +kernel, rfl, by decide +kernel, by decide +kernel⟩
def F_Block_deep : Nat → D → Tr D
  | 0 => fun _ => .bad
  | r + 1 => fun self => fin (bd (bd (.ok (.int 1)) fun v3 => (bd (bd (bd (bd (.ok self) (fldD "Block" "steps")) fun v1 => (bd (.ok []) fun r2 => .ok (v1 :: r2))) (ul1 (F_deepest (F_Block_deep r)))) fun v4 => addD v3 v4)) fun d => .ok (.rt d))
theorem ok_Block_deep (F : FnA K d_Block_deep fd) (T : Tx K mg) (bn : Binds K fd ["self"] [])  (GM_deepest : ∀ {rB : D → Tr D} {kr : Nat}, PromO P w K mg base CX0 kr (propG "Block" "deep" K) [] (spF K Tb (ul1 rB)) → PromO P w K mg base CX0 (kr + 3) (gd "deepest" K) [] (spF K Tb (ul1 (F_deepest rB)))) : ∀ r : Nat, FnOk P w K mg base CX0 (1 + 4 * r) (d_Block_deep.adr K) fd ["self"] (spF K Tb (ul1 (F_Block_deep r)))
  | 0 => fn_bad ul1_bad
  | r + 1 => by
    have G_Block_deep : PromO P w K mg base CX0 (1 + 4 * r) (propG "Block" "deep" K) [] (spF K Tb (ul1 (F_Block_deep r))) := ⟨fd, _, [], ok_Block_deep F T bn  GM_deepest r, bn, .nil⟩
    have G_deepest := GM_deepest G_Block_deep
    rw [show 1 + 4 * (r + 1) = (1 + 4 * r + 3) + 1 by omega]
    refine fnO0 F sc_Block_deep (fun vs H Q E h => spF_len len1 h) (fun cdv A outer s H vs Q E hr h => ?_)
    refine ⟨_, (pss_cons (ps_ret (pe_op (op_addA (K := K) rfl) pe_int (pe_g (PromO.call G_deepest (hr.mono (by omega)) (passA (E := E))) (by rfl) T.g_deepest T.k_deepest (pa_cons (pe_f (pv 0) T.cl_Block T.n_Block_steps) pa_nil)))) pss_nil), ?_⟩
    exact fn_of1 (F := F_Block_deep (r + 1)) (envU := fun _ => List.replicate 1 .no) h (fun self => rfl) (fun p c self => (ss_ret (se_op sr_add se_int (se_cl srl_sp0 (sa_cons (se_un sr_fld se_var) sa_nil)))))
abbrev N_need_steps : List Str := ["values", "at", "value"]
theorem sc_need_steps : FnScope N_need_steps ["values"] (defScope s_need_steps) := ⟨rfl, rfl, rfl, by decide +kernel, rfl, by decide +kernel, by decide +kernel⟩
def F_need_steps (values : D) : Tr D :=
  fin (bdF (bd (bd (bd (.ok values) fun v1 => (bd (.ok []) fun r2 => .ok (v1 :: r2))) (ul1 enD)) fun ds => forF (fun (d4 : D) (w3 : Unit) => (un2 d4 fun at_4 value4 => (bdF (W' := Unit) (bd (bd (bd (bd (.ok value4) fun d => bd (opt (isi_Step d)) fun k => .ok (.bl k)) asB) fun k => .ok (!k)) fun k => if k = true then (bd (.ok at_4) fun d => .ex "BadStep" [("at", d)]) else (.ok (.nx ()))) fun (w6 : Unit) => (.ok (.nx ()))))) ds ()) fun (w3 : Unit) => (.ok (.nx ())))
theorem ok_need_steps (F : FnA K d_need_steps fd) (T : Tx K mg) (G_BadStep___init__ : PromO P w K mg base CX0 1 (md "BadStep" "__init__" K) [] (spErr1 (gd "BadStep" K) "at")) : FnOk P w K mg base (L2.CX P w) 3 (d_need_steps.adr K) fd ["values"] (spF K Tb (ul1 F_need_steps)) := by
  refine F.ok sc_need_steps (fun vs H Q E h => spF_len len1 h) (fun cdv A outer s H vs Q E hr h => ?_)
  refine ⟨_, (pss_cons (ps_for (passes_of rfl) rfl (pi_enumA (K := K) rfl (by rfl) T.f_enumerate (pa_cons (pv 0) pa_nil)) (pg_tup rfl (pgs_cons (pg_name (i := 1) sc_need_steps.nd rfl (.inl rfl)) (pgs_cons (pg_name (i := 2) sc_need_steps.nd rfl (.inl rfl)) pgs_nil)))
      (pss_cons (ps_if (pt_not (pt_val (pe_callB (call_isiZ (K := K) rfl) (by rfl) T.f_isinstance (by decide +kernel) (pa_cons (pv 2) (pa_cons (pe_glob (v := .ref _) rfl T.g_Step rfl) pa_nil)))))
      (pss_cons (ps_raise rfl (takes_of rfl rfl rfl rfl) (pmk_po T.ox_BadStep T.in_BadStep.iC T.in_BadStep.tI G_BadStep___init__ (hr.mono (by decide)) pass0 T.g_BadStep (pa_cons (pv 1) pa_nil))) pss_nil) pss_nil)
      pss_nil))
      pss_nil), ?_⟩
  exact fn_of1 (F := F_need_steps) (envU := fun _ => List.replicate 3 .no) h (fun values => rfl) (fun p c values => (ss_for (fun (w3 : Unit) => [.fz values, .no, .no]) (si_enum (sa_cons se_var sa_nil)) (.s (.s (.s .nil))) (fun (d4 : D) (w3 : Unit) => (sx_tup2 (fun at_4 value4 => (ss_if (fun (w6 : Unit) => [.fz values, .fz at_4, .fz value4]) (sb_not (sb_tb (se_isi (.own _) (isT_Step T) se_var))) (ss_raise1 se_var) (ss_nx (.s (.s (.s .nil)))) (fun (w6 : Unit) => (ss_nx (.s (.n (.n .nil))))))))) (fun (w3 : Unit) => (ss_nx (le_no _ rfl)))))
abbrev N_need_size : List Str := ["said", "done", "weight", "deep"]
theorem sc_need_size : FnScope N_need_size ["said", "done", "weight", "deep"] (defScope s_need_size) := ⟨rfl, rfl, rfl, by decide +kernel, rfl, by decide +kernel, by decide +kernel⟩
def F_need_size (said done weight deep : D) : Tr D :=
  fin (bdF (W' := Unit) (bd (bd (bd (.ok said) fun v1 => (bd (.ok (.int 40)) fun v2 => gtD v1 v2)) asB) fun k => if k = true then (bd (bd (.ok (.str "said")) fun v6 => (bd (bd (.ok (.int 40)) fun v4 => (bd (.ok []) fun r5 => .ok (v4 :: r5))) fun r7 => .ok (v6 :: r7))) (ul2 fun d1 d2 => .ex "TooMany" [("most", d2), ("what", d1)])) else (.ok (.nx ()))) fun (w3 : Unit) => (bdF (W' := Unit) (bd (bd (bd (.ok done) fun v8 => (bd (.ok (.int 120)) fun v9 => gtD v8 v9)) asB) fun k => if k = true then (bd (bd (.ok (.str "done")) fun v13 => (bd (bd (.ok (.int 120)) fun v11 => (bd (.ok []) fun r12 => .ok (v11 :: r12))) fun r14 => .ok (v13 :: r14))) (ul2 fun d1 d2 => .ex "TooMany" [("most", d2), ("what", d1)])) else (.ok (.nx ()))) fun (w10 : Unit) => (bdF (W' := Unit) (bd (bd (bd (.ok weight) fun v15 => (bd (.ok (.int 80)) fun v16 => gtD v15 v16)) asB) fun k => if k = true then (bd (bd (.ok (.str "weight")) fun v20 => (bd (bd (.ok (.int 80)) fun v18 => (bd (.ok []) fun r19 => .ok (v18 :: r19))) fun r21 => .ok (v20 :: r21))) (ul2 fun d1 d2 => .ex "TooMany" [("most", d2), ("what", d1)])) else (.ok (.nx ()))) fun (w17 : Unit) => (bdF (W' := Unit) (bd (bd (bd (.ok deep) fun v22 => (bd (.ok (.int 3)) fun v23 => gtD v22 v23)) asB) fun k => if k = true then (bd (bd (.ok (.str "deep")) fun v27 => (bd (bd (.ok (.int 3)) fun v25 => (bd (.ok []) fun r26 => .ok (v25 :: r26))) fun r28 => .ok (v27 :: r28))) (ul2 fun d1 d2 => .ex "TooMany" [("most", d2), ("what", d1)])) else (.ok (.nx ()))) fun (w24 : Unit) => (.ok (.nx ()))))))
theorem ok_need_size (F : FnA K d_need_size fd) (T : Tx K mg) (G_TooMany___init__ : PromO P w K mg base CX0 1 (md "TooMany" "__init__" K) [] (spErr2 (gd "TooMany" K) "what" "most")) : FnOk P w K mg base (L2.CX P w) 3 (d_need_size.adr K) fd ["said", "done", "weight", "deep"] (spF K Tb (ul4 F_need_size)) := by
  refine F.ok sc_need_size (fun vs H Q E h => spF_len len4 h) (fun cdv A outer s H vs Q E hr h => ?_)
  refine ⟨_, (pss_cons (ps_if (pt_cmpR op_gt (pv 0) (ClX.pe_cval (pe_glob (v := .ref _) rfl T.g_Holder rfl)) (nomark _))
      (pss_cons (ps_raise rfl (takes_of rfl rfl rfl rfl) (pmk_po T.ox_TooMany T.in_TooMany.iC T.in_TooMany.tI G_TooMany___init__ (hr.mono (by decide)) pass0 T.g_TooMany (pa_cons pe_str (pa_cons (ClX.pe_cval (pe_glob (v := .ref _) rfl T.g_Holder rfl)) pa_nil)))) pss_nil) pss_nil)
      (pss_cons (ps_if (pt_cmpR op_gt (pv 1) (ClX.pe_cval (pe_glob (v := .ref _) rfl T.g_Holder rfl)) (nomark _))
      (pss_cons (ps_raise rfl (takes_of rfl rfl rfl rfl) (pmk_po T.ox_TooMany T.in_TooMany.iC T.in_TooMany.tI G_TooMany___init__ (hr.mono (by decide)) pass0 T.g_TooMany (pa_cons pe_str (pa_cons (ClX.pe_cval (pe_glob (v := .ref _) rfl T.g_Holder rfl)) pa_nil)))) pss_nil) pss_nil)
      (pss_cons (ps_if (pt_cmpR op_gt (pv 2) (ClX.pe_cval (pe_glob (v := .ref _) rfl T.g_Holder rfl)) (nomark _))
      (pss_cons (ps_raise rfl (takes_of rfl rfl rfl rfl) (pmk_po T.ox_TooMany T.in_TooMany.iC T.in_TooMany.tI G_TooMany___init__ (hr.mono (by decide)) pass0 T.g_TooMany (pa_cons pe_str (pa_cons (ClX.pe_cval (pe_glob (v := .ref _) rfl T.g_Holder rfl)) pa_nil)))) pss_nil) pss_nil)
      (pss_cons (ps_if (pt_cmpR op_gt (pv 3) (ClX.pe_cval (pe_glob (v := .ref _) rfl T.g_Holder rfl)) (nomark _))
      (pss_cons (ps_raise rfl (takes_of rfl rfl rfl rfl) (pmk_po T.ox_TooMany T.in_TooMany.iC T.in_TooMany.tI G_TooMany___init__ (hr.mono (by decide)) pass0 T.g_TooMany (pa_cons pe_str (pa_cons (ClX.pe_cval (pe_glob (v := .ref _) rfl T.g_Holder rfl)) pa_nil)))) pss_nil) pss_nil)
      pss_nil)))), ?_⟩
  exact fn_of4 (F := F_need_size) (envU := fun _ => List.replicate 4 .no) h (fun said done weight deep => rfl) (fun p c said done weight deep => (ss_if (fun (w3 : Unit) => [.fz said, .fz done, .fz weight, .fz deep]) (sb_tst (se_op sr_gt se_var (se_cval (fun _ _ => .int _) T.cv_Holder_MOST_SAID))) (ss_raise2 (sa_cons (se_str (by decide)) (sa_cons (se_cval (fun _ _ => .int _) T.cv_Holder_MOST_SAID) sa_nil))) (ss_nx (.s (.s (.s (.s .nil))))) (fun (w3 : Unit) => (ss_if (fun (w10 : Unit) => [.fz said, .fz done, .fz weight, .fz deep]) (sb_tst (se_op sr_gt se_var (se_cval (fun _ _ => .int _) T.cv_Holder_MOST_DONE))) (ss_raise2 (sa_cons (se_str (by decide)) (sa_cons (se_cval (fun _ _ => .int _) T.cv_Holder_MOST_DONE) sa_nil))) (ss_nx (.s (.s (.s (.s .nil))))) (fun (w10 : Unit) => (ss_if (fun (w17 : Unit) => [.fz said, .fz done, .fz weight, .fz deep]) (sb_tst (se_op sr_gt se_var (se_cval (fun _ _ => .int _) T.cv_Holder_MOST_WEIGHT))) (ss_raise2 (sa_cons (se_str (by decide)) (sa_cons (se_cval (fun _ _ => .int _) T.cv_Holder_MOST_WEIGHT) sa_nil))) (ss_nx (.s (.s (.s (.s .nil))))) (fun (w17 : Unit) => (ss_if (fun (w24 : Unit) => [.fz said, .fz done, .fz weight, .fz deep]) (sb_tst (se_op sr_gt se_var (se_cval (fun _ _ => .int _) T.cv_Holder_MOST_DEEP))) (ss_raise2 (sa_cons (se_str (by decide)) (sa_cons (se_cval (fun _ _ => .int _) T.cv_Holder_MOST_DEEP) sa_nil))) (ss_nx (.s (.s (.s (.s .nil))))) (fun (w24 : Unit) => (ss_nx (le_no _ rfl)))))))))))
abbrev N_Holder___init___at_Block : List Str := ["self", "steps"]
theorem sc_Holder___init___at_Block : FnScope N_Holder___init___at_Block ["self", "steps"] (defScope s_Holder___init___at_Block) := ⟨rfl, rfl, rfl, by decide +kernel, rfl, by decide +kernel, by decide +kernel⟩
def F_Holder___init___at_Block (fs : Fs) (steps : D) : Tr Fs :=
  finI (bd (.ok steps) fun steps1 => if fs.length < 900 then (.ok (.nx (putD "steps" steps1 fs))) else .bad)
theorem ok_Holder___init___at_Block (F : FnA K d_Holder___init___at_Block fd) (T : Tx K mg)  : FnOk P w K mg base CX0 1 (d_Holder___init___at_Block.adr K) fd ["self", "steps"] (spI K Tb "Block" (fun fs => ul1 (F_Holder___init___at_Block fs))) := by
  refine fnO0 F sc_Holder___init___at_Block (fun vs H Q E h => spI_len lenI1 h) (fun cdv A outer s H vs Q E hr h => ?_)
  refine ⟨_, (pss_cons (ps_f (pv 0) (pv 1) T.cl_Block T.n_Block_steps)
      pss_nil), ?_⟩
  exact ini_of1 (F := F_Holder___init___at_Block) (envI := fun fs => .oi "Block" fs :: List.replicate 1 .no) h (fun fs steps => rfl) (fun p c fs steps => (ss_setf se_var (fun steps1 => (ss_nx (.s (le_no _ rfl))))))
abbrev N_Block___init__ : List Str := ["self", "times", "steps", "__class__"]
theorem sc_Block___init__ : NdefX.NScope N_Block___init__ ["self", "times", "steps"] ["__class__"] (defScope s_Block___init__) := NdefX.nscope_by (by decide +kernel)
def F_Block___init__ (fs : Fs) (times steps : D) : Tr Fs :=
  finI (bdF (W' := Unit) (bd (bd (bd (bd (bd (.ok times) fun v5 => (bd (bd (.ok (.int 0)) fun v3 => (bd (bd (.ok (.int 12)) fun v1 => (bd (.ok []) fun r2 => .ok (v1 :: r2))) fun r4 => .ok (v3 :: r4))) fun r6 => .ok (v5 :: r6))) (ul3 F_is_within)) asB) fun k => .ok (!k)) fun k => if k = true then (bd (.ok (.str "times")) fun d => .ex "BadStep" [("at", d)]) else (.ok (.nx ()))) fun (w7 : Unit) => (bd (bd (bd (.ok steps) fun v10 => (bd (.ok []) fun r11 => .ok (v10 :: r11))) (ul1 F_need_steps)) fun _ => (bd (bd (.ok steps) fun v12 => (bd (.ok []) fun r13 => .ok (v12 :: r13))) fun ds => bd ((fun fs => ul1 (F_Holder___init___at_Block fs)) fs ds) fun fs14 => (bd (.ok times) fun times15 => if fs14.length < 900 then (bd (bd (bd (bd (nox ((ul1 (F_Block_said 5)) [.obj "Block" (putD "times" times15 fs14)])) plD) fun v22 => (bd (bd (bd (nox ((ul1 (F_Block_done 5)) [.obj "Block" (putD "times" times15 fs14)])) plD) fun v20 => (bd (bd (bd (nox ((ul1 (F_Block_weight 5)) [.obj "Block" (putD "times" times15 fs14)])) plD) fun v18 => (bd (bd (bd (nox ((ul1 (F_Block_deep 5)) [.obj "Block" (putD "times" times15 fs14)])) plD) fun v16 => (bd (.ok []) fun r17 => .ok (v16 :: r17))) fun r19 => .ok (v18 :: r19))) fun r21 => .ok (v20 :: r21))) fun r23 => .ok (v22 :: r23))) (ul4 F_need_size)) fun _ => (.ok (.nx (putD "times" times15 fs14)))) else .bad))))
theorem ok_Block___init__ (F : FnS K ds_Block___init__ pfile fd) (T : Tx K mg) (hP : ((P.main.file : Str) == pfile) = true ∧ (P.main.scope.names.lookup ("super" : Str)).isSome = false) (G_is_within : PromO P w K mg base CX0 2 (gd "is_within" K) [] (spF K Tb (ul3 F_is_within))) (G_BadStep___init__ : PromO P w K mg base CX0 1 (md "BadStep" "__init__" K) [] (spErr1 (gd "BadStep" K) "at")) (G_need_steps : PromO P w K mg base (L2.CX P w) 3 (gd "need_steps" K) [] (spF K Tb (ul1 F_need_steps))) (G_Holder___init___at_Block : PromO P w K mg base CX0 1 (md "Holder" "__init__" K) [] (spI K Tb "Block" (fun fs => ul1 (F_Holder___init___at_Block fs)))) (G_need_size : PromO P w K mg base (L2.CX P w) 3 (gd "need_size" K) [] (spF K Tb (ul4 F_need_size))) (G_Block_said : PromO P w K mg base CX0 13 (propG "Block" "said" K) [] (spF K Tb (ul1 (F_Block_said 5)))) (G_Block_done : PromO P w K mg base CX0 13 (propG "Block" "done" K) [] (spF K Tb (ul1 (F_Block_done 5)))) (G_Block_weight : PromO P w K mg base CX0 15 (propG "Block" "weight" K) [] (spF K Tb (ul1 (F_Block_weight 5)))) (G_Block_deep : PromO P w K mg base CX0 21 (propG "Block" "deep" K) [] (spF K Tb (ul1 (F_Block_deep 5)))) : FnR P w K mg base (L2.CX P w) 23 (ds_Block___init__.d.adr K) (starSp 2 (spI K Tb "Block" (fun fs => ul2 (F_Block___init__ fs)))) := by
  refine SupF.star (sp := spI K Tb "Block" (fun fs => ul2 (F_Block___init__ fs))) (ps := ["self", "times"]) (pv := "steps") (k := 22) (pre := (defBody s_Block___init__).take 2) (post := (defBody s_Block___init__).drop 3) (by rfl) F ⟨Option.isSome_iff_exists.mp T.cd_Block, T.f_super, T.stat⟩ sc_Block___init__ StX.cxUp (fun _ _ _ _ _ _ _ us rest hl => by
    match us, hl, rest with
    | [_, _], _, [] => rfl
    | [_, _], _, _ :: _ => rfl) hP.1 hP.2 (by decide) rfl rfl rfl rfl (fun cc cda A outer s H vs Q E hr h => ?_) (pl := _) (he := fun _ => rfl)
  refine ⟨_, _, _, _, _, _, _, _, _, (pss_cons (ps_if (pt_not (pt_val (pe_g (PromO.call G_is_within (hr.mono (by decide)) (passA (E := E))) (by rfl) T.g_is_within T.k_is_within (pa_cons (pv 1) (pa_cons pe_int (pa_cons (pe_gi T.m_MOST_TIMES (by rfl)) pa_nil))))))
      (pss_cons (ps_raise rfl (takes_of rfl rfl rfl rfl) (pmk_po T.ox_BadStep T.in_BadStep.iC T.in_BadStep.tI G_BadStep___init__ (hr.mono (by decide)) pass0 T.g_BadStep (pa_cons pe_str pa_nil))) pss_nil) pss_nil)
      (pss_cons (ps_expr (pe_g (PromO.call G_need_steps (hr.mono (by decide)) (pass_on rfl rfl rfl rfl)) (by rfl) T.g_need_steps T.k_need_steps (pa_cons (pv 2) pa_nil)))
      pss_nil)), (pa_cons (pv 2) pa_nil), (pss_cons (ps_f (pv 0) (pv 1) T.cl_Block T.n_Block_times)
      (pss_cons (ps_expr (pe_g (PromO.call G_need_size (hr.mono (by decide)) (pass_on rfl rfl rfl rfl)) (by rfl) T.g_need_size T.k_need_size (pa_cons (pe_po (pv 0) T.cl_Block T.pr_Block_said G_Block_said (hr.mono (by decide)) (passA (E := EF))) (pa_cons (pe_po (pv 0) T.cl_Block T.pr_Block_done G_Block_done (hr.mono (by decide)) (passA (E := EF))) (pa_cons (pe_po (pv 0) T.cl_Block T.pr_Block_weight G_Block_weight (hr.mono (by decide)) (passA (E := EF))) (pa_cons (pe_po (pv 0) T.cl_Block T.pr_Block_deep G_Block_deep (hr.mono (by decide)) (passA (E := EF))) pa_nil))))))
      pss_nil)), G_Holder___init___at_Block, by decide, (passA (E := E)), ?_⟩
  refine sup_goal ?_
  exact ini_of2 (F := F_Block___init__) (envI := fun fs => .oi "Block" fs :: List.replicate 3 .no) h (fun fs times steps => rfl) (fun p c fs times steps => (ss_assoc (ss_if (fun (w7 : Unit) => [.oi "Block" fs, .fz times, .fz steps, .no]) (sb_not (sb_tb (se_cl srl_sp0 (sa_cons se_var (sa_cons se_int (sa_cons se_int sa_nil)))))) (ss_raise1 (se_str (by decide))) (ss_nx (.s (.s (.s (.s .nil))))) (fun (w7 : Unit) => (ss_assoc (ss_drop (se_cl srl_sp0 (sa_cons se_var sa_nil)) (ss_next (ss_sup T.sc_Block_Block (sa_cons se_var sa_nil) (fun fs14 => (ss_setf se_var (fun times15 => (ss_drop (se_cl srl_sp0 (sa_cons se_prS (sa_cons se_prS (sa_cons se_prS (sa_cons se_prS sa_nil))))) (ss_nx (.s (le_no _ rfl)))))))))))))))
abbrev N_Block___eq__ : List Str := ["self", "other"]
theorem sc_Block___eq__ : FnScope N_Block___eq__ ["self", "other"] (defScope s_Block___eq__) := ⟨rfl, rfl, rfl, by decide +kernel, rfl, by decide +kernel, by decide +kernel⟩
def F_Block___eq__ : Nat → D → D → Tr D
  | 0 => fun _ _ => .bad
  | r + 1 => fun self other => fin (bd (bd (bd (bd (.ok other) fun d => bd (opt (isi_Block d)) fun k => .ok (.bl k)) asB) fun k => if k = true then (bd (bd (bd (bd (.ok self) (fldD "Block" "times")) fun v1 => (bd (bd (.ok other) (fldD "Block" "times")) fun v2 => eqD v1 v2)) asB) fun k => if k = true then (bd (bd (.ok self) (fldD "Block" "steps")) fun v3 => (bd (bd (.ok other) (fldD "Block" "steps")) fun v4 => eqTD [("Change", (ul2 F_Change___eq__)), ("Stretch", (ul2 F_Stretch___eq__)), ("Block", (ul2 (F_Block___eq__ r)))] v3 v4)) else .ok (.bl false)) else .ok (.bl false)) fun d => .ok (.rt d))
theorem ok_Block___eq__ (F : FnA K d_Block___eq__ fd) (T : Tx K mg) (bn : Binds K fd ["self", "other"] []) (G_Change___eq__ : PromO P w K mg base CX0 1 (md "Change" "__eq__" K) [] (spF K Tb (ul2 F_Change___eq__))) (G_Stretch___eq__ : PromO P w K mg base CX0 2 (md "Stretch" "__eq__" K) [] (spF K Tb (ul2 F_Stretch___eq__))) : ∀ r : Nat, FnOk P w K mg base CX0 (4 + 2 * r) (d_Block___eq__.adr K) fd ["self", "other"] (spF K Tb (ul2 (F_Block___eq__ r)))
  | 0 => fn_bad ul2_bad
  | r + 1 => by
    have G_Block___eq__ : PromO P w K mg base CX0 (4 + 2 * r) (md "Block" "__eq__" K) [] (spF K Tb (ul2 (F_Block___eq__ r))) := ⟨fd, _, [], ok_Block___eq__ F T bn G_Change___eq__ G_Stretch___eq__ r, bn, .nil⟩
    rw [show 4 + 2 * (r + 1) = (4 + 2 * r + 1) + 1 by omega]
    refine fnO0 F sc_Block___eq__ (fun vs H Q E h => spF_len len2 h) (fun cdv A outer s H vs Q E hr h => ?_)
    refine ⟨_, (pss_cons (ps_ret (pe_and (pe_callB (call_isiZ (K := K) rfl) (by rfl) T.f_isinstance (by decide +kernel) (pa_cons (pv 1) (pa_cons (pe_glob (v := .ref _) rfl T.g_Block rfl) pa_nil))) (pe_and (pe_cmpR (op_eqA (K := K) rfl hr.units) (pe_f (pv 0) T.cl_Block T.n_Block_times) (pe_f (pv 1) T.cl_Block T.n_Block_times) (nomark _)) (pe_one (pe_cmpR (op_eqT (K := K) (n := (4 + 2 * r)) (owns := [(gd "Change" K, spF K Tb (ul2 F_Change___eq__)), (gd "Stretch" K, spF K Tb (ul2 F_Stretch___eq__)), (gd "Block" K, spF K Tb (ul2 (F_Block___eq__ r)))]) rfl (hr.mono (by omega)) (passA (E := E)) (fun q h => by simp only [List.mem_cons, List.mem_nil_iff, or_false] at h; rcases h with rfl | rfl | rfl; exact ownQ_of T.mt_Change___eq__ G_Change___eq__ (by omega); exact ownQ_of T.mt_Stretch___eq__ G_Stretch___eq__ (by omega); exact ownQ_of T.mt_Block___eq__ G_Block___eq__ (by omega))) (pe_f (pv 0) T.cl_Block T.n_Block_steps) (pe_f (pv 1) T.cl_Block T.n_Block_steps) (nomark _)))))) pss_nil), ?_⟩
    exact fn_of2 (F := F_Block___eq__ (r + 1)) (envU := fun _ => List.replicate 2 .no) h (fun self other => rfl) (fun p c self other => (ss_ret (se_andV (se_isi (.own _) (isT_Block T) se_var) (se_andV (se_op sr_eq (se_un sr_fld se_var) (se_un sr_fld se_var)) (se_op (sr_eqT (es := [("Change", (ul2 F_Change___eq__)), ("Stretch", (ul2 F_Stretch___eq__)), ("Block", (ul2 (F_Block___eq__ r)))]) (fun q h q2 h2 => by simp only [List.mem_cons, List.mem_nil_iff, or_false] at h h2; (rcases h with rfl | rfl | rfl <;> rcases h2 with rfl | rfl | rfl); exact T.nf_Change_Change; exact T.nf_Change_Stretch; exact T.nf_Change_Block; exact T.nf_Stretch_Change; exact T.nf_Stretch_Stretch; exact T.nf_Stretch_Block; exact T.nf_Block_Change; exact T.nf_Block_Stretch; exact T.nf_Block_Block)) (se_un sr_fld se_var) (se_un sr_fld se_var))))))
abbrev N_Block_of : List Str := ["cls", "times", "steps"]
theorem sc_Block_of : FnScope N_Block_of ["cls", "times", "steps"] (defScope s_Block_of) := ⟨rfl, rfl, rfl, by decide +kernel, rfl, by decide +kernel, by decide +kernel⟩
def F_Block_of (times steps : D) : Tr D :=
  fin (bd (bd (bd (.ok times) fun v3 => (bd (bd (bd (.ok steps) seqD) fun v1 => (bd (.ok []) fun r2 => .ok (v1 ++ r2))) fun r4 => .ok (v3 :: r4))) fun ds => stD 1 ds fun es => bd ((fun fs => ul2 (F_Block___init__ fs)) [] es) fun fs => .ok (.obj "Block" fs)) fun d => .ok (.rt d))
theorem ok_Block_of (F : FnA K d_Block_of fd) (T : Tx K mg) (G_Block___init__ : FnR P w K mg base (L2.CX P w) 23 (md "Block" "__init__" K) (starSp 2 (spI K Tb "Block" (fun fs => ul2 (F_Block___init__ fs))))) : FnOk P w K mg base (L2.CX P w) 25 (d_Block_of.adr K) fd ["cls", "times", "steps"] (spK K Tb "Block" (ul2 F_Block_of)) := by
  refine F.ok sc_Block_of (fun vs H Q E h => spK_len len2 h) (fun cdv A outer s H vs Q E hr h => ?_)
  refine ⟨_, (pss_cons (ps_ret (pe_mkR2 T.mk_Block G_Block___init__ (hr.mono (by decide)) (by rfl) T.g_Block (pass_on rfl rfl rfl rfl) (pa_cons (pv 1) (pa_starK (K := K) rfl (pv 2) pa_nil)))) pss_nil), ?_⟩
  exact fn_ofK2 (F := F_Block_of) (envU := fun _ => List.replicate 3 .no) h (fun times steps => rfl) (fun p c times steps => (ss_ret (se_cl srl_mkR (sa_cons se_var (sa_star se_var sa_nil)))))
end
end Lw
end
section
set_option Elab.async false
set_option linter.all false
set_option maxRecDepth 100000
set_option maxHeartbeats 4000000
set_option pp.maxSteps 600
namespace Lw
open PySem PySem.Spec PyProof.Rows L2 Gh Gp
section
variable {P : Program} {w : World} {K : PySem.W.Frag} {mg : Str → Option Value} {base : Heap} {f : Addr} {fd : FuncData} {Tb : List (Addr × Str)}
abbrev N_Program_said : List Str := ["self", "step"]
theorem sc_Program_said : FnScope N_Program_said ["self"] (defScope s_Program_said) := ⟨rfl, rfl, rfl, by decide +kernel, rfl, by decide +kernel, by decide +kernel⟩
def F_Program_said (self : D) : Tr D :=
  fin (bd (bd (bd (bd (bd (bd (.ok self) (fldD "Program" "steps")) itD) fun ds => bd (lcF (fun step0 => nox (bd (bd (bd (if isC "Change" step0 = true then (nox (bd (.ok step0) fun o2 => (isO "Change" o2 fun _ => (ul1 F_Step_said_at_Change) [o2]))) else (if isC "Stretch" step0 = true then (nox (bd (.ok step0) fun o3 => (isO "Stretch" o3 fun _ => (ul1 F_Step_said_at_Stretch) [o3]))) else (nox (bd (.ok step0) fun o4 => (isO "Block" o4 fun _ => (ul1 (F_Block_said 5)) [o4]))))) fun v5 => (bd (.ok []) fun r6 => .ok (v5 :: r6))) (ul1 intD)) fun y => .ok (some y))) ds) fun r => .ok (.lst r)) fun v7 => (bd (.ok []) fun r8 => .ok (v7 :: r8))) (ul1 sumD)) fun d => .ok (.rt d))
theorem ok_Program_said (F : FnA K d_Program_said fd) (T : Tx K mg) (G_Step_said_at_Change : PromO P w K mg base CX0 1 (propG "Change" "said" K) [] (spF K Tb (ul1 F_Step_said_at_Change))) (G_Step_said_at_Stretch : PromO P w K mg base CX0 1 (propG "Stretch" "said" K) [] (spF K Tb (ul1 F_Step_said_at_Stretch))) (G_Block_said : PromO P w K mg base CX0 13 (propG "Block" "said" K) [] (spF K Tb (ul1 (F_Block_said 5)))) : FnOk P w K mg base CX0 15 (d_Program_said.adr K) fd ["self"] (spF K Tb (ul1 F_Program_said)) := by
  refine fnO0 F sc_Program_said (fun vs H Q E h => spF_len len1 h) (fun cdv A outer s H vs Q E hr h => ?_)
  refine ⟨_, (pss_cons (ps_ret (pe_callB (cr_sumK (K := K) rfl rfl) (by rfl) T.f_sum (by decide +kernel) (pa_cons (pe_lc (own := [("step", 1)]) (g := gName 1) (by rfl) sc_Program_said.nd (pi_seq (K := K) rfl (pe_f (pv 0) T.cl_Program T.n_Program_steps)) (blkOk_by (own := [("step", 1)]) (N := N_Program_said) (sc := defScope s_Program_said) (by decide +kernel)) (fun _ _ _ _ _ => pg_name (i := 1) sc_Program_said.nd rfl (Or.inl rfl)) (fun _ _ _ _ _ => pts_nil) (fun _ _ _ _ _ => (pe_callTy cr_int (by rfl) T.f_int (by decide +kernel) (pa_cons (PE.or (pe_po (pv 1) T.cl_Change T.pr_Change_said G_Step_said_at_Change (hr.mono (by decide)) (passA (E := EF))) (PE.or (pe_po (pv 1) T.cl_Stretch T.pr_Stretch_said G_Step_said_at_Stretch (hr.mono (by decide)) (passA (E := EF))) (pe_po (pv 1) T.cl_Block T.pr_Block_said G_Block_said (hr.mono (by decide)) (passA (E := EF))))) pa_nil)))) pa_nil))) pss_nil), ?_⟩
  exact fn_of1 (F := F_Program_said) (envU := fun _ => List.replicate 2 .no) h (fun self => rfl) (fun p c self => (ss_ret (se_cb srl_sum (sa_cons (se_lc (si_seq (se_un sr_fld se_var)) (fun step0 => (sc_map (se_cb srl_int (sa_cons (se_or (isC "Change" step0) (se_nox (se_pr se_var)) (se_or (isC "Stretch" step0) (se_nox (se_pr se_var)) (se_nox (se_pr se_var)))) sa_nil))))) sa_nil))))
abbrev N_Program_done : List Str := ["self", "step"]
theorem sc_Program_done : FnScope N_Program_done ["self"] (defScope s_Program_done) := ⟨rfl, rfl, rfl, by decide +kernel, rfl, by decide +kernel, by decide +kernel⟩
def F_Program_done (self : D) : Tr D :=
  fin (bd (bd (bd (bd (bd (bd (.ok self) (fldD "Program" "steps")) itD) fun ds => bd (lcF (fun step0 => nox (bd (bd (bd (if isC "Change" step0 = true then (nox (bd (.ok step0) fun o2 => (isO "Change" o2 fun _ => (ul1 F_Step_done_at_Change) [o2]))) else (if isC "Stretch" step0 = true then (nox (bd (.ok step0) fun o3 => (isO "Stretch" o3 fun _ => (ul1 F_Step_done_at_Stretch) [o3]))) else (nox (bd (.ok step0) fun o4 => (isO "Block" o4 fun _ => (ul1 (F_Block_done 5)) [o4]))))) fun v5 => (bd (.ok []) fun r6 => .ok (v5 :: r6))) (ul1 intD)) fun y => .ok (some y))) ds) fun r => .ok (.lst r)) fun v7 => (bd (.ok []) fun r8 => .ok (v7 :: r8))) (ul1 sumD)) fun d => .ok (.rt d))
theorem ok_Program_done (F : FnA K d_Program_done fd) (T : Tx K mg) (G_Step_done_at_Change : PromO P w K mg base CX0 1 (propG "Change" "done" K) [] (spF K Tb (ul1 F_Step_done_at_Change))) (G_Step_done_at_Stretch : PromO P w K mg base CX0 1 (propG "Stretch" "done" K) [] (spF K Tb (ul1 F_Step_done_at_Stretch))) (G_Block_done : PromO P w K mg base CX0 13 (propG "Block" "done" K) [] (spF K Tb (ul1 (F_Block_done 5)))) : FnOk P w K mg base CX0 15 (d_Program_done.adr K) fd ["self"] (spF K Tb (ul1 F_Program_done)) := by
  refine fnO0 F sc_Program_done (fun vs H Q E h => spF_len len1 h) (fun cdv A outer s H vs Q E hr h => ?_)
  refine ⟨_, (pss_cons (ps_ret (pe_callB (cr_sumK (K := K) rfl rfl) (by rfl) T.f_sum (by decide +kernel) (pa_cons (pe_lc (own := [("step", 1)]) (g := gName 1) (by rfl) sc_Program_done.nd (pi_seq (K := K) rfl (pe_f (pv 0) T.cl_Program T.n_Program_steps)) (blkOk_by (own := [("step", 1)]) (N := N_Program_done) (sc := defScope s_Program_done) (by decide +kernel)) (fun _ _ _ _ _ => pg_name (i := 1) sc_Program_done.nd rfl (Or.inl rfl)) (fun _ _ _ _ _ => pts_nil) (fun _ _ _ _ _ => (pe_callTy cr_int (by rfl) T.f_int (by decide +kernel) (pa_cons (PE.or (pe_po (pv 1) T.cl_Change T.pr_Change_done G_Step_done_at_Change (hr.mono (by decide)) (passA (E := EF))) (PE.or (pe_po (pv 1) T.cl_Stretch T.pr_Stretch_done G_Step_done_at_Stretch (hr.mono (by decide)) (passA (E := EF))) (pe_po (pv 1) T.cl_Block T.pr_Block_done G_Block_done (hr.mono (by decide)) (passA (E := EF))))) pa_nil)))) pa_nil))) pss_nil), ?_⟩
  exact fn_of1 (F := F_Program_done) (envU := fun _ => List.replicate 2 .no) h (fun self => rfl) (fun p c self => (ss_ret (se_cb srl_sum (sa_cons (se_lc (si_seq (se_un sr_fld se_var)) (fun step0 => (sc_map (se_cb srl_int (sa_cons (se_or (isC "Change" step0) (se_nox (se_pr se_var)) (se_or (isC "Stretch" step0) (se_nox (se_pr se_var)) (se_nox (se_pr se_var)))) sa_nil))))) sa_nil))))
abbrev N_Program_weight : List Str := ["self", "step"]
theorem sc_Program_weight : FnScope N_Program_weight ["self"] (defScope s_Program_weight) := ⟨rfl, rfl, rfl, by decide +kernel, rfl, by decide +kernel, by decide +kernel⟩
def F_Program_weight (self : D) : Tr D :=
  fin (bd (bd (bd (bd (bd (bd (.ok self) (fldD "Program" "steps")) itD) fun ds => bd (lcF (fun step0 => nox (bd (bd (bd (if isC "Change" step0 = true then (nox (bd (.ok step0) fun o2 => (isO "Change" o2 fun _ => (ul1 F_Change_weight) [o2]))) else (if isC "Stretch" step0 = true then (nox (bd (.ok step0) fun o3 => (isO "Stretch" o3 fun _ => (ul1 F_Stretch_weight) [o3]))) else (nox (bd (.ok step0) fun o4 => (isO "Block" o4 fun _ => (ul1 (F_Block_weight 5)) [o4]))))) fun v5 => (bd (.ok []) fun r6 => .ok (v5 :: r6))) (ul1 intD)) fun y => .ok (some y))) ds) fun r => .ok (.lst r)) fun v7 => (bd (.ok []) fun r8 => .ok (v7 :: r8))) (ul1 sumD)) fun d => .ok (.rt d))
theorem ok_Program_weight (F : FnA K d_Program_weight fd) (T : Tx K mg) (G_Change_weight : PromO P w K mg base CX0 1 (propG "Change" "weight" K) [] (spF K Tb (ul1 F_Change_weight))) (G_Stretch_weight : PromO P w K mg base CX0 3 (propG "Stretch" "weight" K) [] (spF K Tb (ul1 F_Stretch_weight))) (G_Block_weight : PromO P w K mg base CX0 15 (propG "Block" "weight" K) [] (spF K Tb (ul1 (F_Block_weight 5)))) : FnOk P w K mg base CX0 17 (d_Program_weight.adr K) fd ["self"] (spF K Tb (ul1 F_Program_weight)) := by
  refine fnO0 F sc_Program_weight (fun vs H Q E h => spF_len len1 h) (fun cdv A outer s H vs Q E hr h => ?_)
  refine ⟨_, (pss_cons (ps_ret (pe_callB (cr_sumK (K := K) rfl rfl) (by rfl) T.f_sum (by decide +kernel) (pa_cons (pe_lc (own := [("step", 1)]) (g := gName 1) (by rfl) sc_Program_weight.nd (pi_seq (K := K) rfl (pe_f (pv 0) T.cl_Program T.n_Program_steps)) (blkOk_by (own := [("step", 1)]) (N := N_Program_weight) (sc := defScope s_Program_weight) (by decide +kernel)) (fun _ _ _ _ _ => pg_name (i := 1) sc_Program_weight.nd rfl (Or.inl rfl)) (fun _ _ _ _ _ => pts_nil) (fun _ _ _ _ _ => (pe_callTy cr_int (by rfl) T.f_int (by decide +kernel) (pa_cons (PE.or (pe_po (pv 1) T.cl_Change T.pr_Change_weight G_Change_weight (hr.mono (by decide)) (passA (E := EF))) (PE.or (pe_po (pv 1) T.cl_Stretch T.pr_Stretch_weight G_Stretch_weight (hr.mono (by decide)) (passA (E := EF))) (pe_po (pv 1) T.cl_Block T.pr_Block_weight G_Block_weight (hr.mono (by decide)) (passA (E := EF))))) pa_nil)))) pa_nil))) pss_nil), ?_⟩
  exact fn_of1 (F := F_Program_weight) (envU := fun _ => List.replicate 2 .no) h (fun self => rfl) (fun p c self => (ss_ret (se_cb srl_sum (sa_cons (se_lc (si_seq (se_un sr_fld se_var)) (fun step0 => (sc_map (se_cb srl_int (sa_cons (se_or (isC "Change" step0) (se_nox (se_pr se_var)) (se_or (isC "Stretch" step0) (se_nox (se_pr se_var)) (se_nox (se_pr se_var)))) sa_nil))))) sa_nil))))
abbrev N_Program_deep : List Str := ["self"]
theorem sc_Program_deep : FnScope N_Program_deep ["self"] (defScope s_Program_deep) := ⟨rfl, rfl, rfl, by decide +kernel, rfl, by decide +kernel, by decide +kernel⟩
def F_Program_deep (self : D) : Tr D :=
  fin (bd (bd (bd (bd (.ok self) (fldD "Program" "steps")) fun v1 => (bd (.ok []) fun r2 => .ok (v1 :: r2))) (ul1 (F_deepest (F_Block_deep 5)))) fun d => .ok (.rt d))
theorem ok_Program_deep (F : FnA K d_Program_deep fd) (T : Tx K mg) (G_deepest : PromO P w K mg base CX0 24 (gd "deepest" K) [] (spF K Tb (ul1 (F_deepest (F_Block_deep 5))))) : FnOk P w K mg base CX0 25 (d_Program_deep.adr K) fd ["self"] (spF K Tb (ul1 F_Program_deep)) := by
  refine fnO0 F sc_Program_deep (fun vs H Q E h => spF_len len1 h) (fun cdv A outer s H vs Q E hr h => ?_)
  refine ⟨_, (pss_cons (ps_ret (pe_g (PromO.call G_deepest (hr.mono (by decide)) (passA (E := E))) (by rfl) T.g_deepest T.k_deepest (pa_cons (pe_f (pv 0) T.cl_Program T.n_Program_steps) pa_nil))) pss_nil), ?_⟩
  exact fn_of1 (F := F_Program_deep) (envU := fun _ => List.replicate 1 .no) h (fun self => rfl) (fun p c self => (ss_ret (se_cl srl_sp0 (sa_cons (se_un sr_fld se_var) sa_nil))))
abbrev N_Holder___init___at_Program : List Str := ["self", "steps"]
theorem sc_Holder___init___at_Program : FnScope N_Holder___init___at_Program ["self", "steps"] (defScope s_Holder___init___at_Program) := ⟨rfl, rfl, rfl, by decide +kernel, rfl, by decide +kernel, by decide +kernel⟩
def F_Holder___init___at_Program (fs : Fs) (steps : D) : Tr Fs :=
  finI (bd (.ok steps) fun steps1 => if fs.length < 900 then (.ok (.nx (putD "steps" steps1 fs))) else .bad)
theorem ok_Holder___init___at_Program (F : FnA K d_Holder___init___at_Program fd) (T : Tx K mg)  : FnOk P w K mg base CX0 1 (d_Holder___init___at_Program.adr K) fd ["self", "steps"] (spI K Tb "Program" (fun fs => ul1 (F_Holder___init___at_Program fs))) := by
  refine fnO0 F sc_Holder___init___at_Program (fun vs H Q E h => spI_len lenI1 h) (fun cdv A outer s H vs Q E hr h => ?_)
  refine ⟨_, (pss_cons (ps_f (pv 0) (pv 1) T.cl_Program T.n_Program_steps)
      pss_nil), ?_⟩
  exact ini_of1 (F := F_Holder___init___at_Program) (envI := fun fs => .oi "Program" fs :: List.replicate 1 .no) h (fun fs steps => rfl) (fun p c fs steps => (ss_setf se_var (fun steps1 => (ss_nx (.s (le_no _ rfl))))))
abbrev N_Program___init__ : List Str := ["self", "steps", "__class__"]
theorem sc_Program___init__ : NdefX.NScope N_Program___init__ ["self", "steps"] ["__class__"] (defScope s_Program___init__) := NdefX.nscope_by (by decide +kernel)
def F_Program___init__ (fs : Fs) (steps : D) : Tr Fs :=
  finI (bd (bd (bd (.ok steps) fun v1 => (bd (.ok []) fun r2 => .ok (v1 :: r2))) (ul1 F_need_steps)) fun _ => (bd (bd (.ok steps) fun v3 => (bd (.ok []) fun r4 => .ok (v3 :: r4))) fun ds => bd ((fun fs => ul1 (F_Holder___init___at_Program fs)) fs ds) fun fs5 => (bd (bd (bd (bd (nox ((ul1 F_Program_said) [.obj "Program" fs5])) plD) fun v12 => (bd (bd (bd (nox ((ul1 F_Program_done) [.obj "Program" fs5])) plD) fun v10 => (bd (bd (bd (nox ((ul1 F_Program_weight) [.obj "Program" fs5])) plD) fun v8 => (bd (bd (bd (nox ((ul1 F_Program_deep) [.obj "Program" fs5])) plD) fun v6 => (bd (.ok []) fun r7 => .ok (v6 :: r7))) fun r9 => .ok (v8 :: r9))) fun r11 => .ok (v10 :: r11))) fun r13 => .ok (v12 :: r13))) (ul4 F_need_size)) fun _ => (.ok (.nx fs5)))))
theorem ok_Program___init__ (F : FnS K ds_Program___init__ pfile fd) (T : Tx K mg) (hP : ((P.main.file : Str) == pfile) = true ∧ (P.main.scope.names.lookup ("super" : Str)).isSome = false) (G_need_steps : PromO P w K mg base (L2.CX P w) 3 (gd "need_steps" K) [] (spF K Tb (ul1 F_need_steps))) (G_Holder___init___at_Program : PromO P w K mg base CX0 1 (md "Holder" "__init__" K) [] (spI K Tb "Program" (fun fs => ul1 (F_Holder___init___at_Program fs)))) (G_need_size : PromO P w K mg base (L2.CX P w) 3 (gd "need_size" K) [] (spF K Tb (ul4 F_need_size))) (G_Program_said : PromO P w K mg base CX0 15 (propG "Program" "said" K) [] (spF K Tb (ul1 F_Program_said))) (G_Program_done : PromO P w K mg base CX0 15 (propG "Program" "done" K) [] (spF K Tb (ul1 F_Program_done))) (G_Program_weight : PromO P w K mg base CX0 17 (propG "Program" "weight" K) [] (spF K Tb (ul1 F_Program_weight))) (G_Program_deep : PromO P w K mg base CX0 25 (propG "Program" "deep" K) [] (spF K Tb (ul1 F_Program_deep))) : FnR P w K mg base (L2.CX P w) 27 (ds_Program___init__.d.adr K) (starSp 1 (spI K Tb "Program" (fun fs => ul1 (F_Program___init__ fs)))) := by
  refine SupF.star (sp := spI K Tb "Program" (fun fs => ul1 (F_Program___init__ fs))) (ps := ["self"]) (pv := "steps") (k := 26) (pre := (defBody s_Program___init__).take 1) (post := (defBody s_Program___init__).drop 2) (by rfl) F ⟨Option.isSome_iff_exists.mp T.cd_Program, T.f_super, T.stat⟩ sc_Program___init__ StX.cxUp (fun _ _ _ _ _ _ _ us rest hl => by
    match us, hl, rest with
    | [_], _, [] => rfl
    | [_], _, _ :: _ => rfl) hP.1 hP.2 (by decide) rfl rfl rfl rfl (fun cc cda A outer s H vs Q E hr h => ?_) (pl := _) (he := fun _ => rfl)
  refine ⟨_, _, _, _, _, _, _, _, _, (pss_cons (ps_expr (pe_g (PromO.call G_need_steps (hr.mono (by decide)) (pass_on rfl rfl rfl rfl)) (by rfl) T.g_need_steps T.k_need_steps (pa_cons (pv 1) pa_nil)))
      pss_nil), (pa_cons (pv 1) pa_nil), (pss_cons (ps_expr (pe_g (PromO.call G_need_size (hr.mono (by decide)) (pass_on rfl rfl rfl rfl)) (by rfl) T.g_need_size T.k_need_size (pa_cons (pe_po (pv 0) T.cl_Program T.pr_Program_said G_Program_said (hr.mono (by decide)) (passA (E := EF))) (pa_cons (pe_po (pv 0) T.cl_Program T.pr_Program_done G_Program_done (hr.mono (by decide)) (passA (E := EF))) (pa_cons (pe_po (pv 0) T.cl_Program T.pr_Program_weight G_Program_weight (hr.mono (by decide)) (passA (E := EF))) (pa_cons (pe_po (pv 0) T.cl_Program T.pr_Program_deep G_Program_deep (hr.mono (by decide)) (passA (E := EF))) pa_nil))))))
      pss_nil), G_Holder___init___at_Program, by decide, (passA (E := E)), ?_⟩
  refine sup_goal ?_
  exact ini_of1 (F := F_Program___init__) (envI := fun fs => .oi "Program" fs :: List.replicate 2 .no) h (fun fs steps => rfl) (fun p c fs steps => (ss_assoc (ss_drop (se_cl srl_sp0 (sa_cons se_var sa_nil)) (ss_next (ss_sup T.sc_Program_Program (sa_cons se_var sa_nil) (fun fs5 => (ss_drop (se_cl srl_sp0 (sa_cons se_prS (sa_cons se_prS (sa_cons se_prS (sa_cons se_prS sa_nil))))) (ss_nx (.s (le_no _ rfl))))))))))
end
end Lw
end
section
set_option Elab.async false
set_option linter.all false
set_option maxRecDepth 100000
set_option maxHeartbeats 4000000
set_option pp.maxSteps 600
namespace Lw
open PySem PySem.Spec PyProof.Rows L2 Gh Gp
section
variable {P : Program} {w : World} {K : PySem.W.Frag} {mg : Str → Option Value} {base : Heap} {f : Addr} {fd : FuncData} {Tb : List (Addr × Str)}
abbrev N__law_pick : List Str := ["_law_pen_here", "_law_some"]
theorem sc__law_pick : FnScope N__law_pick ["_law_pen_here", "_law_some"] (defScope s__law_pick) := ⟨rfl, rfl, rfl, by decide +kernel, rfl, by decide +kernel, by decide +kernel⟩
def F__law_pick (l_pen_here l_some : D) : Tr D :=
  fin (bd (bd (.ok l_some) fun v1 => (bd (bd (bd (.ok l_pen_here) fun v7 => (bd (bd (bd (bd (.ok l_some) fun v3 => (bd (.ok []) fun r4 => .ok (v3 :: r4))) (ul1 lenD)) fun v5 => (bd (.ok []) fun r6 => .ok (v5 :: r6))) fun r8 => .ok (v7 :: r8))) (ul2 F_draw)) fun v2 => ixD v1 v2)) fun d => .ok (.rt d))
theorem ok__law_pick (F : FnA K d__law_pick fd) (T : Tx K mg) (G__law_draw : PromO P w K mg base CX0 1 (gd "_law_draw" K) [] (spF K Tb (ul2 F_draw))) : FnOk P w K mg base CX0 2 (d__law_pick.adr K) fd ["_law_pen_here", "_law_some"] (spF K Tb (ul2 F__law_pick)) := by
  refine fnO0 F sc__law_pick (fun vs H Q E h => spF_len len2 h) (fun cdv A outer s H vs Q E hr h => ?_)
  refine ⟨_, (pss_cons (ps_ret (pe_ix (ix_seqK (K := K) rfl) (pv 1) (pe_g (PromO.call G__law_draw (hr.mono (by decide)) (passA (E := E))) (by rfl) T.g__law_draw T.k__law_draw (pa_cons (pv 0) (pa_cons (pe_callB (cr_len (K := K) rfl) (by rfl) T.f_len (by decide +kernel) (pa_cons (pv 1) pa_nil)) pa_nil))) (fun _ _ => rfl))) pss_nil), ?_⟩
  exact fn_of2 (F := F__law_pick) (envU := fun _ => List.replicate 2 .no) h (fun l_pen_here l_some => rfl) (fun p c l_pen_here l_some => (ss_ret (se_op sr_ix se_var (se_cl srl_sp0 (sa_cons se_var (sa_cons (se_cb srl_len (sa_cons se_var sa_nil)) sa_nil))))))
abbrev N__law_places : List Str := ["_law_pen_here", "_law_found", "_law_k"]
theorem sc__law_places : FnScope N__law_places ["_law_pen_here"] (defScope s__law_places) := ⟨rfl, rfl, rfl, by decide +kernel, rfl, by decide +kernel, by decide +kernel⟩
def F__law_places (l_pen_here : D) : Tr D :=
  fin (bd (bd (bd (.ok l_pen_here) fun v46 => (bd (bd (bd (bd (bd (.ok []) fun ds => if ds.length ≤ sizeLine then .ok (.lst ds) else .bad) fun v42 => (bd (bd (bd (.ok []) fun ds => if ds.length ≤ sizeLine then .ok (.lst ds) else .bad) fun v40 => (bd (bd (bd (.ok []) fun ds => if ds.length ≤ sizeLine then .ok (.lst ds) else .bad) fun v38 => (bd (bd (bd (bd (.ok (.int 0)) fun v2 => (bd (.ok []) fun r3 => .ok (v2 :: r3))) fun ds => if ds.length ≤ sizeLine then .ok (.lst ds) else .bad) fun v36 => (bd (bd (bd (bd (.ok (.int 0)) fun v6 => (bd (bd (.ok (.int 1)) fun v4 => (bd (.ok []) fun r5 => .ok (v4 :: r5))) fun r7 => .ok (v6 :: r7))) fun ds => if ds.length ≤ sizeLine then .ok (.lst ds) else .bad) fun v34 => (bd (bd (bd (bd (.ok (.int 1)) fun v8 => (bd (.ok []) fun r9 => .ok (v8 :: r9))) fun ds => if ds.length ≤ sizeLine then .ok (.lst ds) else .bad) fun v32 => (bd (bd (bd (bd (.ok (.int 0)) fun v12 => (bd (bd (.ok (.int 2)) fun v10 => (bd (.ok []) fun r11 => .ok (v10 :: r11))) fun r13 => .ok (v12 :: r13))) fun ds => if ds.length ≤ sizeLine then .ok (.lst ds) else .bad) fun v30 => (bd (bd (bd (bd (.ok (.int 2)) fun v16 => (bd (bd (.ok (.int 3)) fun v14 => (bd (.ok []) fun r15 => .ok (v14 :: r15))) fun r17 => .ok (v16 :: r17))) fun ds => if ds.length ≤ sizeLine then .ok (.lst ds) else .bad) fun v28 => (bd (bd (bd (bd (.ok (.int 0)) fun v24 => (bd (bd (.ok (.int 1)) fun v22 => (bd (bd (.ok (.int 2)) fun v20 => (bd (bd (.ok (.int 3)) fun v18 => (bd (.ok []) fun r19 => .ok (v18 :: r19))) fun r21 => .ok (v20 :: r21))) fun r23 => .ok (v22 :: r23))) fun r25 => .ok (v24 :: r25))) fun ds => if ds.length ≤ sizeLine then .ok (.lst ds) else .bad) fun v26 => (bd (.ok []) fun r27 => .ok (v26 :: r27))) fun r29 => .ok (v28 :: r29))) fun r31 => .ok (v30 :: r31))) fun r33 => .ok (v32 :: r33))) fun r35 => .ok (v34 :: r35))) fun r37 => .ok (v36 :: r37))) fun r39 => .ok (v38 :: r39))) fun r41 => .ok (v40 :: r41))) fun r43 => .ok (v42 :: r43))) fun ds => if ds.length ≤ sizeLine then .ok (.lst ds) else .bad) fun v44 => (bd (.ok []) fun r45 => .ok (v44 :: r45))) fun r47 => .ok (v46 :: r47))) (ul2 F__law_pick)) fun l_found0 => (bdF (W' := D) (bd (bd (bd (bd (bd (.ok l_pen_here) fun v50 => (bd (bd (.ok (.int 6)) fun v48 => (bd (.ok []) fun r49 => .ok (v48 :: r49))) fun r51 => .ok (v50 :: r51))) (ul2 F_draw)) fun v52 => (bd (.ok (.int 0)) fun v53 => eqD v52 v53)) asB) fun k => if k = true then (bd (bd (bd (bd (bd (bd (bd (.ok l_pen_here) fun v58 => (bd (bd (.ok (.int 9)) fun v56 => (bd (.ok []) fun r57 => .ok (v56 :: r57))) fun r59 => .ok (v58 :: r59))) (ul2 F_draw)) fun v60 => (bd (.ok []) fun r61 => .ok (v60 :: r61))) (ul1 rg1)) fun ds => bd (lcF (fun l_k61 => nox (bd (bd (bd (bd (bd (.ok l_pen_here) fun v65 => (bd (bd (.ok (.int 16)) fun v63 => (bd (.ok []) fun r64 => .ok (v63 :: r64))) fun r66 => .ok (v65 :: r66))) (ul2 F_draw)) fun v67 => (bd (.ok []) fun r68 => .ok (v67 :: r68))) (ul1 intD)) fun y => .ok (some y))) ds) fun r => .ok (.lst r)) sortSD) fun l_found54 => (.ok (.nx l_found54))) else (.ok (.nx l_found0))) fun (w54 : D) => (bd (bd (bd (.ok w54) fun v69 => (bd (.ok []) fun r70 => .ok (v69 :: r70))) (ul1 tupD)) fun d => .ok (.rt d))))
theorem ok__law_places (F : FnA K d__law_places fd) (T : Tx K mg) (G__law_pick : PromO P w K mg base CX0 2 (gd "_law_pick" K) [] (spF K Tb (ul2 F__law_pick))) (G__law_draw : PromO P w K mg base CX0 1 (gd "_law_draw" K) [] (spF K Tb (ul2 F_draw))) : FnOk P w K mg base CX0 3 (d__law_places.adr K) fd ["_law_pen_here"] (spF K Tb (ul1 F__law_places)) := by
  refine fnO0 F sc__law_places (fun vs H Q E h => spF_len len1 h) (fun cdv A outer s H vs Q E hr h => ?_)
  refine ⟨_, (pss_cons (ps_set (i := 1) sc__law_places.nd rfl (.inl rfl) (pe_g (PromO.call G__law_pick (hr.mono (by decide)) (passA (E := E))) (by rfl) T.g__law_pick T.k__law_pick (pa_cons (pv 0) (pa_cons (pe_lst (pa_cons (pe_lst pa_nil) (pa_cons (pe_lst pa_nil) (pa_cons (pe_lst pa_nil) (pa_cons (pe_lst (pa_cons pe_int pa_nil)) (pa_cons (pe_lst (pa_cons pe_int (pa_cons pe_int pa_nil))) (pa_cons (pe_lst (pa_cons pe_int pa_nil)) (pa_cons (pe_lst (pa_cons pe_int (pa_cons pe_int pa_nil))) (pa_cons (pe_lst (pa_cons pe_int (pa_cons pe_int pa_nil))) (pa_cons (pe_lst (pa_cons pe_int (pa_cons pe_int (pa_cons pe_int (pa_cons pe_int pa_nil))))) pa_nil)))))))))) pa_nil))))
      (pss_cons (ps_if (pt_cmpR (op_eqA (K := K) rfl hr.units) (pe_g (PromO.call G__law_draw (hr.mono (by decide)) (passA (E := E))) (by rfl) T.g__law_draw T.k__law_draw (pa_cons (pv 0) (pa_cons pe_int pa_nil))) pe_int (nomark _))
      (pss_cons (ps_set (i := 1) sc__law_places.nd rfl (.inl rfl) (pe_callB (cr_sortedSet rfl) (by rfl) T.f_sorted (by decide +kernel) (pa_cons (pe_callTy (cr_setI (K := K) rfl rfl) (by rfl) T.f_set (by decide +kernel) (pa_cons (pe_lc (own := [("_law_k", 2)]) (g := gName 2) (by rfl) sc__law_places.nd (pi_range1 (by rfl) T.f_range (pa_cons (pe_g (PromO.call G__law_draw (hr.mono (by decide)) (passA (E := E))) (by rfl) T.g__law_draw T.k__law_draw (pa_cons (pv 0) (pa_cons pe_int pa_nil))) pa_nil)) (blkOk_by (own := [("_law_k", 2)]) (N := N__law_places) (sc := defScope s__law_places) (by decide +kernel)) (fun _ _ _ _ _ => pg_name (i := 2) sc__law_places.nd rfl (Or.inl rfl)) (fun _ _ _ _ _ => pts_nil) (fun _ _ _ _ _ => (pe_callTy cr_int (by rfl) T.f_int (by decide +kernel) (pa_cons (pe_g (PromO.call G__law_draw (hr.mono (by decide)) (passA (E := EF))) (by rfl) T.g__law_draw T.k__law_draw (pa_cons (pv 0) (pa_cons pe_int pa_nil))) pa_nil)))) pa_nil)) pa_nil)))
      pss_nil) pss_nil)
      (pss_cons (ps_ret (pe_callTy (cr_tupOf (K := K) rfl) (by rfl) T.f_tuple (by decide +kernel) (pa_cons (pv 1) pa_nil))) pss_nil))), ?_⟩
  exact fn_of1 (F := F__law_places) (envU := fun _ => List.replicate 3 .no) h (fun l_pen_here => rfl) (fun p c l_pen_here => (ss_asg (se_cl srl_sp0 (sa_cons se_var (sa_cons (se_lst (sa_cons (se_lst sa_nil) (sa_cons (se_lst sa_nil) (sa_cons (se_lst sa_nil) (sa_cons (se_lst (sa_cons se_int sa_nil)) (sa_cons (se_lst (sa_cons se_int (sa_cons se_int sa_nil))) (sa_cons (se_lst (sa_cons se_int sa_nil)) (sa_cons (se_lst (sa_cons se_int (sa_cons se_int sa_nil))) (sa_cons (se_lst (sa_cons se_int (sa_cons se_int sa_nil))) (sa_cons (se_lst (sa_cons se_int (sa_cons se_int (sa_cons se_int (sa_cons se_int sa_nil))))) sa_nil)))))))))) sa_nil))) (fun l_found0 => (ss_if (fun (w54 : D) => [.fz l_pen_here, .fz w54, .no]) (sb_tst (se_op sr_eq (se_cl srl_sp0 (sa_cons se_var (sa_cons se_int sa_nil))) se_int)) (ss_asg (se_sortS (se_lc (si_rg1 (sa_cons (se_cl srl_sp0 (sa_cons se_var (sa_cons se_int sa_nil))) sa_nil)) (fun l_k61 => (sc_map (se_cb srl_int (sa_cons (se_cl srl_sp0 (sa_cons se_var (sa_cons se_int sa_nil))) sa_nil)))))) (fun l_found54 => (ss_nx (.s (.s (.s .nil)))))) (ss_nx (.s (.s (.s .nil)))) (fun (w54 : D) => (ss_ret (se_cb srl_tup (sa_cons se_var sa_nil))))))))
abbrev N__law_span : List Str := ["_law_pen_here", "_law_halves", "_law_more"]
theorem sc__law_span : FnScope N__law_span ["_law_pen_here"] (defScope s__law_span) := ⟨rfl, rfl, rfl, by decide +kernel, rfl, by decide +kernel, by decide +kernel⟩
def F__law_span (l_pen_here : D) : Tr D :=
  fin (bd (bd (bd (.ok l_pen_here) fun v18 => (bd (bd (bd (bd (.ok (.int 0)) fun v14 => (bd (bd (.ok (.int 0)) fun v12 => (bd (bd (.ok (.int 1)) fun v10 => (bd (bd (.ok (.int 1)) fun v8 => (bd (bd (.ok (.int 2)) fun v6 => (bd (bd (.ok (.int 4)) fun v4 => (bd (bd (.ok (.int 3)) fun v2 => (bd (.ok []) fun r3 => .ok (v2 :: r3))) fun r5 => .ok (v4 :: r5))) fun r7 => .ok (v6 :: r7))) fun r9 => .ok (v8 :: r9))) fun r11 => .ok (v10 :: r11))) fun r13 => .ok (v12 :: r13))) fun r15 => .ok (v14 :: r15))) fun ds => if ds.length ≤ sizeLine then .ok (.lst ds) else .bad) fun v16 => (bd (.ok []) fun r17 => .ok (v16 :: r17))) fun r19 => .ok (v18 :: r19))) (ul2 F__law_pick)) fun l_halves0 => (bd (bd (bd (.ok l_pen_here) fun v47 => (bd (bd (bd (bd (.ok (.int 0)) fun v43 => (bd (bd (.ok (.int 0)) fun v41 => (bd (bd (.ok (.int 1)) fun v39 => (bd (bd (.ok (.int 2)) fun v37 => (bd (bd (.ok (.int 3)) fun v35 => (bd (bd (.ok (.int 5)) fun v33 => (bd (bd (bd (.ok (.int 1)) negD) fun v31 => (bd (bd (bd (.ok (.int 2)) negD) fun v29 => (bd (bd (bd (.ok (.int 5)) negD) fun v27 => (bd (bd (bd (bd (.ok l_pen_here) fun v23 => (bd (bd (.ok (.int 16)) fun v21 => (bd (.ok []) fun r22 => .ok (v21 :: r22))) fun r24 => .ok (v23 :: r24))) (ul2 F_draw)) fun v25 => (bd (.ok []) fun r26 => .ok (v25 :: r26))) fun r28 => .ok (v27 :: r28))) fun r30 => .ok (v29 :: r30))) fun r32 => .ok (v31 :: r32))) fun r34 => .ok (v33 :: r34))) fun r36 => .ok (v35 :: r36))) fun r38 => .ok (v37 :: r38))) fun r40 => .ok (v39 :: r40))) fun r42 => .ok (v41 :: r42))) fun r44 => .ok (v43 :: r44))) fun ds => if ds.length ≤ sizeLine then .ok (.lst ds) else .bad) fun v45 => (bd (.ok []) fun r46 => .ok (v45 :: r46))) fun r48 => .ok (v47 :: r48))) (ul2 F__law_pick)) fun l_more19 => (bd (bd (bd (.ok l_halves0) fun v69 => (bd (bd (.ok l_more19) fun v67 => (bd (bd (bd (bd (.ok l_pen_here) fun v63 => (bd (bd (bd (bd (.ok (.int 0)) fun v59 => (bd (bd (.ok (.int 0)) fun v57 => (bd (bd (.ok (.int 0)) fun v55 => (bd (bd (.ok (.int 1)) fun v53 => (bd (bd (bd (.ok (.int 1)) negD) fun v51 => (bd (bd (.ok (.int 2)) fun v49 => (bd (.ok []) fun r50 => .ok (v49 :: r50))) fun r52 => .ok (v51 :: r52))) fun r54 => .ok (v53 :: r54))) fun r56 => .ok (v55 :: r56))) fun r58 => .ok (v57 :: r58))) fun r60 => .ok (v59 :: r60))) fun ds => if ds.length ≤ sizeLine then .ok (.lst ds) else .bad) fun v61 => (bd (.ok []) fun r62 => .ok (v61 :: r62))) fun r64 => .ok (v63 :: r64))) (ul2 F__law_pick)) fun v65 => (bd (.ok []) fun r66 => .ok (v65 :: r66))) fun r68 => .ok (v67 :: r68))) fun r70 => .ok (v69 :: r70))) fun ds => if ds.length ≤ sizeLine then .ok (.tup ds) else .bad) fun d => .ok (.rt d))))
theorem ok__law_span (F : FnA K d__law_span fd) (T : Tx K mg) (G__law_pick : PromO P w K mg base CX0 2 (gd "_law_pick" K) [] (spF K Tb (ul2 F__law_pick))) (G__law_draw : PromO P w K mg base CX0 1 (gd "_law_draw" K) [] (spF K Tb (ul2 F_draw))) : FnOk P w K mg base CX0 3 (d__law_span.adr K) fd ["_law_pen_here"] (spF K Tb (ul1 F__law_span)) := by
  refine fnO0 F sc__law_span (fun vs H Q E h => spF_len len1 h) (fun cdv A outer s H vs Q E hr h => ?_)
  refine ⟨_, (pss_cons (ps_set (i := 1) sc__law_span.nd rfl (.inl rfl) (pe_g (PromO.call G__law_pick (hr.mono (by decide)) (passA (E := E))) (by rfl) T.g__law_pick T.k__law_pick (pa_cons (pv 0) (pa_cons (pe_lst (pa_cons pe_int (pa_cons pe_int (pa_cons pe_int (pa_cons pe_int (pa_cons pe_int (pa_cons pe_int (pa_cons pe_int pa_nil)))))))) pa_nil))))
      (pss_cons (ps_set (i := 2) sc__law_span.nd rfl (.inl rfl) (pe_g (PromO.call G__law_pick (hr.mono (by decide)) (passA (E := E))) (by rfl) T.g__law_pick T.k__law_pick (pa_cons (pv 0) (pa_cons (pe_lst (pa_cons pe_int (pa_cons pe_int (pa_cons pe_int (pa_cons pe_int (pa_cons pe_int (pa_cons pe_int (pa_cons (pe_un un_neg pe_int) (pa_cons (pe_un un_neg pe_int) (pa_cons (pe_un un_neg pe_int) (pa_cons (pe_g (PromO.call G__law_draw (hr.mono (by decide)) (passA (E := E))) (by rfl) T.g__law_draw T.k__law_draw (pa_cons (pv 0) (pa_cons pe_int pa_nil))) pa_nil))))))))))) pa_nil))))
      (pss_cons (ps_ret (pe_tup (pa_cons (pv 1) (pa_cons (pv 2) (pa_cons (pe_g (PromO.call G__law_pick (hr.mono (by decide)) (passA (E := E))) (by rfl) T.g__law_pick T.k__law_pick (pa_cons (pv 0) (pa_cons (pe_lst (pa_cons pe_int (pa_cons pe_int (pa_cons pe_int (pa_cons pe_int (pa_cons (pe_un un_neg pe_int) (pa_cons pe_int pa_nil))))))) pa_nil))) pa_nil))))) pss_nil))), ?_⟩
  exact fn_of1 (F := F__law_span) (envU := fun _ => List.replicate 3 .no) h (fun l_pen_here => rfl) (fun p c l_pen_here => (ss_asg (se_cl srl_sp0 (sa_cons se_var (sa_cons (se_lst (sa_cons se_int (sa_cons se_int (sa_cons se_int (sa_cons se_int (sa_cons se_int (sa_cons se_int (sa_cons se_int sa_nil)))))))) sa_nil))) (fun l_halves0 => (ss_asg (se_cl srl_sp0 (sa_cons se_var (sa_cons (se_lst (sa_cons se_int (sa_cons se_int (sa_cons se_int (sa_cons se_int (sa_cons se_int (sa_cons se_int (sa_cons (se_un sr_neg se_int) (sa_cons (se_un sr_neg se_int) (sa_cons (se_un sr_neg se_int) (sa_cons (se_cl srl_sp0 (sa_cons se_var (sa_cons se_int sa_nil))) sa_nil))))))))))) sa_nil))) (fun l_more19 => (ss_ret (se_tup (sa_cons se_var (sa_cons se_var (sa_cons (se_cl srl_sp0 (sa_cons se_var (sa_cons (se_lst (sa_cons se_int (sa_cons se_int (sa_cons se_int (sa_cons se_int (sa_cons (se_un sr_neg se_int) (sa_cons se_int sa_nil))))))) sa_nil))) sa_nil))))))))))
abbrev N__law_weight : List Str := ["_law_part", "_law_one"]
theorem sc__law_weight : FnScope N__law_weight ["_law_part"] (defScope s__law_weight) := ⟨rfl, rfl, rfl, by decide +kernel, rfl, by decide +kernel, by decide +kernel⟩
def F__law_weight : Nat → D → Tr D
  | 0 => fun _ => .bad
  | r + 1 => fun l_part => fin (bdF (W' := Unit) (bd (bd (bd (bd (.ok l_part) fun v1 => (bd (.ok (.int 0)) fun v2 => ixD v1 v2)) fun v3 => (bd (.ok (.str "change")) fun v4 => eqD v3 v4)) asB) fun k => if k = true then (bd (.ok (.int 1)) fun d => .ok (.rt d)) else (.ok (.nx ()))) fun (w5 : Unit) => (bdF (W' := Unit) (bd (bd (bd (bd (.ok l_part) fun v6 => (bd (.ok (.int 0)) fun v7 => ixD v6 v7)) fun v8 => (bd (.ok (.str "stretch")) fun v9 => eqD v8 v9)) asB) fun k => if k = true then (bd (bd (bd (bd (.ok (.int 1)) fun v15 => (bd (bd (bd (.ok l_part) fun v11 => (bd (.ok (.int 2)) fun v12 => ixD v11 v12)) fun v13 => (bd (.ok (.int 0)) fun v14 => ixD v13 v14)) fun v16 => addD v15 v16)) fun v23 => (bd (bd (bd (bd (bd (.ok l_part) fun v17 => (bd (.ok (.int 2)) fun v18 => ixD v17 v18)) fun v19 => (bd (.ok (.int 1)) fun v20 => ixD v19 v20)) fun v21 => (bd (.ok []) fun r22 => .ok (v21 :: r22))) (ul1 absD)) fun v24 => addD v23 v24)) fun v31 => (bd (bd (bd (bd (bd (.ok l_part) fun v25 => (bd (.ok (.int 2)) fun v26 => ixD v25 v26)) fun v27 => (bd (.ok (.int 2)) fun v28 => ixD v27 v28)) fun v29 => (bd (.ok []) fun r30 => .ok (v29 :: r30))) (ul1 absD)) fun v32 => addD v31 v32)) fun d => .ok (.rt d)) else (.ok (.nx ()))) fun (w10 : Unit) => (bd (bd (bd (.ok l_part) fun v33 => (bd (.ok (.int 1)) fun v34 => ixD v33 v34)) fun v42 => (bd (bd (bd (bd (bd (bd (.ok l_part) fun v35 => (bd (.ok (.int 2)) fun v36 => ixD v35 v36)) itD) fun ds => bd (lcF (fun l_one36 => nox (bd (bd (bd (.ok l_one36) fun v38 => (bd (.ok []) fun r39 => .ok (v38 :: r39))) (ul1 (F__law_weight r))) fun y => .ok (some y))) ds) fun r => .ok (.lst r)) fun v40 => (bd (.ok []) fun r41 => .ok (v40 :: r41))) (ul1 sumD)) fun v43 => mulD v42 v43)) fun d => .ok (.rt d))))
theorem ok__law_weight (F : FnA K d__law_weight fd) (T : Tx K mg) (bn : Binds K fd ["_law_part"] [])  : ∀ r : Nat, FnOk P w K mg base CX0 (1 + 1 * r) (d__law_weight.adr K) fd ["_law_part"] (spF K Tb (ul1 (F__law_weight r)))
  | 0 => fn_bad ul1_bad
  | r + 1 => by
    have G__law_weight : PromO P w K mg base CX0 (1 + 1 * r) (gd "_law_weight" K) [] (spF K Tb (ul1 (F__law_weight r))) := ⟨fd, _, [], ok__law_weight F T bn  r, bn, .nil⟩
    rw [show 1 + 1 * (r + 1) = (1 + 1 * r + 0) + 1 by omega]
    refine fnO0 F sc__law_weight (fun vs H Q E h => spF_len len1 h) (fun cdv A outer s H vs Q E hr h => ?_)
    refine ⟨_, (pss_cons (ps_if (pt_cmpR (op_eqA (K := K) rfl hr.units) (pe_ix (ix_seqK (K := K) rfl) (pv 0) pe_int (fun _ _ => rfl)) pe_str (nomark _))
      (pss_cons (ps_ret pe_int) pss_nil) pss_nil)
      (pss_cons (ps_if (pt_cmpR (op_eqA (K := K) rfl hr.units) (pe_ix (ix_seqK (K := K) rfl) (pv 0) pe_int (fun _ _ => rfl)) pe_str (nomark _))
      (pss_cons (ps_ret (pe_op (op_addA (K := K) rfl) (pe_op (op_addA (K := K) rfl) (pe_op (op_addA (K := K) rfl) pe_int (pe_ix (ix_seqK (K := K) rfl) (pe_ix (ix_seqK (K := K) rfl) (pv 0) pe_int (fun _ _ => rfl)) pe_int (fun _ _ => rfl))) (pe_callB cr_abs (by rfl) T.f_abs (by decide +kernel) (pa_cons (pe_ix (ix_seqK (K := K) rfl) (pe_ix (ix_seqK (K := K) rfl) (pv 0) pe_int (fun _ _ => rfl)) pe_int (fun _ _ => rfl)) pa_nil))) (pe_callB cr_abs (by rfl) T.f_abs (by decide +kernel) (pa_cons (pe_ix (ix_seqK (K := K) rfl) (pe_ix (ix_seqK (K := K) rfl) (pv 0) pe_int (fun _ _ => rfl)) pe_int (fun _ _ => rfl)) pa_nil)))) pss_nil) pss_nil)
      (pss_cons (ps_ret (pe_op op_mulA (pe_ix (ix_seqK (K := K) rfl) (pv 0) pe_int (fun _ _ => rfl)) (pe_callB (cr_sumK (K := K) rfl rfl) (by rfl) T.f_sum (by decide +kernel) (pa_cons (pe_lc (own := [("_law_one", 1)]) (g := gName 1) (by rfl) sc__law_weight.nd (pi_seq (K := K) rfl (pe_ix (ix_seqK (K := K) rfl) (pv 0) pe_int (fun _ _ => rfl))) (blkOk_by (own := [("_law_one", 1)]) (N := N__law_weight) (sc := defScope s__law_weight) (by decide +kernel)) (fun _ _ _ _ _ => pg_name (i := 1) sc__law_weight.nd rfl (Or.inl rfl)) (fun _ _ _ _ _ => pts_nil) (fun _ _ _ _ _ => (pe_g (PromO.call G__law_weight (hr.mono (by omega)) (passA (E := EF))) (by rfl) T.g__law_weight T.k__law_weight (pa_cons (pv 1) pa_nil)))) pa_nil)))) pss_nil))), ?_⟩
    exact fn_of1 (F := F__law_weight (r + 1)) (envU := fun _ => List.replicate 2 .no) h (fun l_part => rfl) (fun p c l_part => (ss_if (fun (w5 : Unit) => [.fz l_part, .no]) (sb_tst (se_op sr_eq (se_op sr_ix se_var se_int) (se_str (by decide)))) (ss_ret se_int) (ss_nx (.s (.s .nil))) (fun (w5 : Unit) => (ss_if (fun (w10 : Unit) => [.fz l_part, .no]) (sb_tst (se_op sr_eq (se_op sr_ix se_var se_int) (se_str (by decide)))) (ss_ret (se_op sr_add (se_op sr_add (se_op sr_add se_int (se_op sr_ix (se_op sr_ix se_var se_int) se_int)) (se_cb srl_abs (sa_cons (se_op sr_ix (se_op sr_ix se_var se_int) se_int) sa_nil))) (se_cb srl_abs (sa_cons (se_op sr_ix (se_op sr_ix se_var se_int) se_int) sa_nil)))) (ss_nx (.s (.s .nil))) (fun (w10 : Unit) => (ss_ret (se_op sr_mul (se_op sr_ix se_var se_int) (se_cb srl_sum (sa_cons (se_lc (si_seq (se_op sr_ix se_var se_int)) (fun l_one36 => (sc_map (se_cl srl_sp0 (sa_cons se_var sa_nil))))) sa_nil)))))))))
abbrev N__law_step : List Str := ["_law_pen_here", "_law_deep_here", "_law_heavy", "_law_manner", "_law_edge", "_law_times", "_law_rest", "_law_k", "_law_one"]
theorem sc__law_step : FnScope N__law_step ["_law_pen_here", "_law_deep_here"] (defScope s__law_step) := ⟨rfl, rfl, rfl, by decide +kernel, rfl, by decide +kernel, by decide +kernel⟩
def F__law_step : Nat → D → D → Tr D
  | 0 => fun _ _ => .bad
  | r + 1 => fun l_pen_here l_deep_here => fin (bd (bd (bd (bd (.ok l_pen_here) fun v3 => (bd (bd (.ok (.int 6)) fun v1 => (bd (.ok []) fun r2 => .ok (v1 :: r2))) fun r4 => .ok (v3 :: r4))) (ul2 F_draw)) fun v17 => (bd (bd (bd (bd (.ok l_pen_here) fun v13 => (bd (bd (bd (bd (.ok (.str "front")) fun v9 => (bd (bd (.ok (.str "front")) fun v7 => (bd (bd (.ok (.str "back")) fun v5 => (bd (.ok []) fun r6 => .ok (v5 :: r6))) fun r8 => .ok (v7 :: r8))) fun r10 => .ok (v9 :: r10))) fun ds => if ds.length ≤ sizeLine then .ok (.lst ds) else .bad) fun v11 => (bd (.ok []) fun r12 => .ok (v11 :: r12))) fun r14 => .ok (v13 :: r14))) (ul2 F__law_pick)) fun v15 => (bd (.ok []) fun r16 => .ok (v15 :: r16))) fun r18 => .ok (v17 :: r18))) (ul2 fun l_manner18 l_edge18 => (bdF (W' := Unit) (bd (bd (bd (.ok l_manner18) fun v20 => (bd (.ok (.int 3)) fun v21 => ltD v20 v21)) asB) fun k => if k = true then (bd (bd (bd (.ok (.str "change")) fun v33 => (bd (bd (bd (bd (.ok l_pen_here) fun v23 => (bd (.ok []) fun r24 => .ok (v23 :: r24))) (ul1 F__law_places)) fun v31 => (bd (bd (bd (bd (.ok l_pen_here) fun v25 => (bd (.ok []) fun r26 => .ok (v25 :: r26))) (ul1 F__law_places)) fun v29 => (bd (bd (.ok l_edge18) fun v27 => (bd (.ok []) fun r28 => .ok (v27 :: r28))) fun r30 => .ok (v29 :: r30))) fun r32 => .ok (v31 :: r32))) fun r34 => .ok (v33 :: r34))) fun ds => if ds.length ≤ sizeLine then .ok (.tup ds) else .bad) fun d => .ok (.rt d)) else (.ok (.nx ()))) fun (w22 : Unit) => (bdF (W' := Unit) (bd (bd (bd (bd (.ok l_manner18) fun v35 => (bd (.ok (.int 5)) fun v36 => ltD v35 v36)) asB) fun k => if k = true then .ok true else (bd (bd (.ok l_deep_here) fun v37 => (bd (.ok (.int 0)) fun v38 => eqD v37 v38)) asB)) fun k => if k = true then (bd (bd (bd (.ok (.str "stretch")) fun v60 => (bd (bd (bd (bd (.ok l_pen_here) fun v42 => (bd (bd (.ok (.int 2)) fun v40 => (bd (.ok []) fun r41 => .ok (v40 :: r41))) fun r43 => .ok (v42 :: r43))) (ul2 F_draw)) fun v58 => (bd (bd (bd (bd (.ok l_pen_here) fun v44 => (bd (.ok []) fun r45 => .ok (v44 :: r45))) (ul1 F__law_span)) fun v56 => (bd (bd (.ok l_edge18) fun v54 => (bd (bd (bd (bd (bd (.ok l_pen_here) fun v48 => (bd (bd (.ok (.int 3)) fun v46 => (bd (.ok []) fun r47 => .ok (v46 :: r47))) fun r49 => .ok (v48 :: r49))) (ul2 F_draw)) fun v50 => (bd (.ok (.int 0)) fun v51 => eqD v50 v51)) fun v52 => (bd (.ok []) fun r53 => .ok (v52 :: r53))) fun r55 => .ok (v54 :: r55))) fun r57 => .ok (v56 :: r57))) fun r59 => .ok (v58 :: r59))) fun r61 => .ok (v60 :: r61))) fun ds => if ds.length ≤ sizeLine then .ok (.tup ds) else .bad) fun d => .ok (.rt d)) else (.ok (.nx ()))) fun (w39 : Unit) => (bd (bd (bd (bd (.ok l_pen_here) fun v74 => (bd (bd (bd (bd (.ok (.int 0)) fun v70 => (bd (bd (.ok (.int 1)) fun v68 => (bd (bd (.ok (.int 2)) fun v66 => (bd (bd (.ok (.int 2)) fun v64 => (bd (bd (.ok (.int 3)) fun v62 => (bd (.ok []) fun r63 => .ok (v62 :: r63))) fun r65 => .ok (v64 :: r65))) fun r67 => .ok (v66 :: r67))) fun r69 => .ok (v68 :: r69))) fun r71 => .ok (v70 :: r71))) fun ds => if ds.length ≤ sizeLine then .ok (.lst ds) else .bad) fun v72 => (bd (.ok []) fun r73 => .ok (v72 :: r73))) fun r75 => .ok (v74 :: r75))) (ul2 F__law_pick)) fun v91 => (bd (bd (bd (bd (bd (bd (bd (.ok l_pen_here) fun v78 => (bd (bd (.ok (.int 3)) fun v76 => (bd (.ok []) fun r77 => .ok (v76 :: r77))) fun r79 => .ok (v78 :: r79))) (ul2 F_draw)) fun v80 => (bd (.ok []) fun r81 => .ok (v80 :: r81))) (ul1 rg1)) fun ds => bd (lcF (fun l_k81 => nox (bd (bd (bd (.ok l_pen_here) fun v87 => (bd (bd (bd (.ok l_deep_here) fun v83 => (bd (.ok (.int 1)) fun v84 => subD v83 v84)) fun v85 => (bd (.ok []) fun r86 => .ok (v85 :: r86))) fun r88 => .ok (v87 :: r88))) (ul2 (F__law_step r))) fun y => .ok (some y))) ds) fun r => .ok (.lst r)) fun v89 => (bd (.ok []) fun r90 => .ok (v89 :: r90))) fun r92 => .ok (v91 :: r92))) (ul2 fun l_times92 l_rest92 => (bd (bd (.ok l_times92) fun v100 => (bd (bd (bd (bd (bd (.ok l_rest92) itD) fun ds => bd (lcF (fun l_one94 => nox (bd (bd (bd (.ok l_one94) fun v96 => (bd (.ok []) fun r97 => .ok (v96 :: r97))) (ul1 (F__law_weight 5))) fun y => .ok (some y))) ds) fun r => .ok (.lst r)) fun v98 => (bd (.ok []) fun r99 => .ok (v98 :: r99))) (ul1 sumD)) fun v101 => mulD v100 v101)) fun l_heavy93 => (bd (bd (bd (bd (.ok l_heavy93) fun v102 => (bd (.ok (.int 40)) fun v103 => leD v102 v103)) asB) fun k => if k = true then (bd (bd (.ok (.str "block")) fun v108 => (bd (bd (.ok l_times92) fun v106 => (bd (bd (.ok l_rest92) fun v104 => (bd (.ok []) fun r105 => .ok (v104 :: r105))) fun r107 => .ok (v106 :: r107))) fun r109 => .ok (v108 :: r109))) fun ds => if ds.length ≤ sizeLine then .ok (.tup ds) else .bad) else (bd (bd (.ok (.str "block")) fun v116 => (bd (bd (.ok (.int 1)) fun v114 => (bd (bd (bd (.ok l_rest92) fun v110 => (bd (.ok none) fun lo => bd (bd (.ok (.int 1)) asI) fun hi => slD v110 lo hi)) fun v112 => (bd (.ok []) fun r113 => .ok (v112 :: r113))) fun r115 => .ok (v114 :: r115))) fun r117 => .ok (v116 :: r117))) fun ds => if ds.length ≤ sizeLine then .ok (.tup ds) else .bad)) fun d => .ok (.rt d)))))))))
theorem ok__law_step (F : FnA K d__law_step fd) (T : Tx K mg) (bn : Binds K fd ["_law_pen_here", "_law_deep_here"] []) (G__law_draw : PromO P w K mg base CX0 1 (gd "_law_draw" K) [] (spF K Tb (ul2 F_draw))) (G__law_pick : PromO P w K mg base CX0 2 (gd "_law_pick" K) [] (spF K Tb (ul2 F__law_pick))) (G__law_places : PromO P w K mg base CX0 3 (gd "_law_places" K) [] (spF K Tb (ul1 F__law_places))) (G__law_span : PromO P w K mg base CX0 3 (gd "_law_span" K) [] (spF K Tb (ul1 F__law_span))) (G__law_weight : PromO P w K mg base CX0 6 (gd "_law_weight" K) [] (spF K Tb (ul1 (F__law_weight 5)))) : ∀ r : Nat, FnOk P w K mg base CX0 (7 + 1 * r) (d__law_step.adr K) fd ["_law_pen_here", "_law_deep_here"] (spF K Tb (ul2 (F__law_step r)))
  | 0 => fn_bad ul2_bad
  | r + 1 => by
    have G__law_step : PromO P w K mg base CX0 (7 + 1 * r) (gd "_law_step" K) [] (spF K Tb (ul2 (F__law_step r))) := ⟨fd, _, [], ok__law_step F T bn G__law_draw G__law_pick G__law_places G__law_span G__law_weight r, bn, .nil⟩
    rw [show 7 + 1 * (r + 1) = (7 + 1 * r + 0) + 1 by omega]
    refine fnO0 F sc__law_step (fun vs H Q E h => spF_len len2 h) (fun cdv A outer s H vs Q E hr h => ?_)
    refine ⟨_, (pss_cons (ps_par (i := 3) (j := 4) (by rfl) sc__law_step.nd rfl rfl (by decide) rfl rfl (pa_cons (pe_g (PromO.call G__law_draw (hr.mono (by omega)) (passA (E := E))) (by rfl) T.g__law_draw T.k__law_draw (pa_cons (pv 0) (pa_cons pe_int pa_nil))) (pa_cons (pe_g (PromO.call G__law_pick (hr.mono (by omega)) (passA (E := E))) (by rfl) T.g__law_pick T.k__law_pick (pa_cons (pv 0) (pa_cons (pe_lst (pa_cons pe_str (pa_cons pe_str (pa_cons pe_str pa_nil)))) pa_nil))) pa_nil)) (by rfl))
      (pss_cons (ps_if (pt_cmpR op_lt (pv 3) pe_int (nomark _))
      (pss_cons (ps_ret (pe_tup (pa_cons pe_str (pa_cons (pe_g (PromO.call G__law_places (hr.mono (by omega)) (passA (E := E))) (by rfl) T.g__law_places T.k__law_places (pa_cons (pv 0) pa_nil)) (pa_cons (pe_g (PromO.call G__law_places (hr.mono (by omega)) (passA (E := E))) (by rfl) T.g__law_places T.k__law_places (pa_cons (pv 0) pa_nil)) (pa_cons (pv 4) pa_nil)))))) pss_nil) pss_nil)
      (pss_cons (ps_if (PW.pt (pw_or (pt_cmpR op_lt (pv 3) pe_int (nomark _)) (pw_or1 (pt_cmpR (op_eqA (K := K) rfl hr.units) (pv 1) pe_int (nomark _)))))
      (pss_cons (ps_ret (pe_tup (pa_cons pe_str (pa_cons (pe_g (PromO.call G__law_draw (hr.mono (by omega)) (passA (E := E))) (by rfl) T.g__law_draw T.k__law_draw (pa_cons (pv 0) (pa_cons pe_int pa_nil))) (pa_cons (pe_g (PromO.call G__law_span (hr.mono (by omega)) (passA (E := E))) (by rfl) T.g__law_span T.k__law_span (pa_cons (pv 0) pa_nil)) (pa_cons (pv 4) (pa_cons (pe_cmpR (op_eqA (K := K) rfl hr.units) (pe_g (PromO.call G__law_draw (hr.mono (by omega)) (passA (E := E))) (by rfl) T.g__law_draw T.k__law_draw (pa_cons (pv 0) (pa_cons pe_int pa_nil))) pe_int (nomark _)) pa_nil))))))) pss_nil) pss_nil)
      (pss_cons (ps_par (i := 5) (j := 6) (by rfl) sc__law_step.nd rfl rfl (by decide) rfl rfl (pa_cons (pe_g (PromO.call G__law_pick (hr.mono (by omega)) (passA (E := E))) (by rfl) T.g__law_pick T.k__law_pick (pa_cons (pv 0) (pa_cons (pe_lst (pa_cons pe_int (pa_cons pe_int (pa_cons pe_int (pa_cons pe_int (pa_cons pe_int pa_nil)))))) pa_nil))) (pa_cons (pe_lc (own := [("_law_k", 7)]) (g := gName 7) (by rfl) sc__law_step.nd (pi_range1 (by rfl) T.f_range (pa_cons (pe_g (PromO.call G__law_draw (hr.mono (by omega)) (passA (E := E))) (by rfl) T.g__law_draw T.k__law_draw (pa_cons (pv 0) (pa_cons pe_int pa_nil))) pa_nil)) (blkOk_by (own := [("_law_k", 7)]) (N := N__law_step) (sc := defScope s__law_step) (by decide +kernel)) (fun _ _ _ _ _ => pg_name (i := 7) sc__law_step.nd rfl (Or.inl rfl)) (fun _ _ _ _ _ => pts_nil) (fun _ _ _ _ _ => (pe_g (PromO.call G__law_step (hr.mono (by omega)) (passA (E := EF))) (by rfl) T.g__law_step T.k__law_step (pa_cons (pv 0) (pa_cons (pe_op op_sub (pv 1) pe_int) pa_nil))))) pa_nil)) (by rfl))
      (pss_cons (ps_set (i := 2) sc__law_step.nd rfl (.inl rfl) (pe_op op_mulA (pv 5) (pe_callB (cr_sumK (K := K) rfl rfl) (by rfl) T.f_sum (by decide +kernel) (pa_cons (pe_lc (own := [("_law_one", 8)]) (g := gName 8) (by rfl) sc__law_step.nd (pi_seq (K := K) rfl (pv 6)) (blkOk_by (own := [("_law_one", 8)]) (N := N__law_step) (sc := defScope s__law_step) (by decide +kernel)) (fun _ _ _ _ _ => pg_name (i := 8) sc__law_step.nd rfl (Or.inl rfl)) (fun _ _ _ _ _ => pts_nil) (fun _ _ _ _ _ => (pe_g (PromO.call G__law_weight (hr.mono (by omega)) (passA (E := EF))) (by rfl) T.g__law_weight T.k__law_weight (pa_cons (pv 8) pa_nil)))) pa_nil))))
      (pss_cons (ps_ret (pe_ifExp (pt_cmpR op_le (pv 2) pe_int (nomark _)) (pe_tup (pa_cons pe_str (pa_cons (pv 5) (pa_cons (pv 6) pa_nil)))) (pe_tup (pa_cons pe_str (pa_cons pe_int (pa_cons (pe_slice (sl_all (K := K) rfl) (pv 6) po_none (po_some pe_int)) pa_nil)))))) pss_nil)))))), ?_⟩
    exact fn_of2 (F := F__law_step (r + 1)) (envU := fun _ => List.replicate 9 .no) h (fun l_pen_here l_deep_here => rfl) (fun p c l_pen_here l_deep_here => (ss_par (sa_cons (se_cl srl_sp0 (sa_cons se_var (sa_cons se_int sa_nil))) (sa_cons (se_cl srl_sp0 (sa_cons se_var (sa_cons (se_lst (sa_cons (se_str (by decide)) (sa_cons (se_str (by decide)) (sa_cons (se_str (by decide)) sa_nil)))) sa_nil))) sa_nil)) (fun l_manner18 l_edge18 => (ss_if (fun (w22 : Unit) => [.fz l_pen_here, .fz l_deep_here, .no, .fz l_manner18, .fz l_edge18, .no, .no, .no, .no]) (sb_tst (se_op sr_lt se_var se_int)) (ss_ret (se_tup (sa_cons (se_str (by decide)) (sa_cons (se_cl srl_sp0 (sa_cons se_var sa_nil)) (sa_cons (se_cl srl_sp0 (sa_cons se_var sa_nil)) (sa_cons se_var sa_nil)))))) (ss_nx (.s (.s (.s (.s (.s (.s (.s (.s (.s .nil)))))))))) (fun (w22 : Unit) => (ss_if (fun (w39 : Unit) => [.fz l_pen_here, .fz l_deep_here, .no, .fz l_manner18, .fz l_edge18, .no, .no, .no, .no]) (sb_or (sb_tst (se_op sr_lt se_var se_int)) (sb_tst (se_op sr_eq se_var se_int))) (ss_ret (se_tup (sa_cons (se_str (by decide)) (sa_cons (se_cl srl_sp0 (sa_cons se_var (sa_cons se_int sa_nil))) (sa_cons (se_cl srl_sp0 (sa_cons se_var sa_nil)) (sa_cons se_var (sa_cons (se_op sr_eq (se_cl srl_sp0 (sa_cons se_var (sa_cons se_int sa_nil))) se_int) sa_nil))))))) (ss_nx (.s (.s (.s (.s (.s (.s (.s (.s (.s .nil)))))))))) (fun (w39 : Unit) => (ss_par (sa_cons (se_cl srl_sp0 (sa_cons se_var (sa_cons (se_lst (sa_cons se_int (sa_cons se_int (sa_cons se_int (sa_cons se_int (sa_cons se_int sa_nil)))))) sa_nil))) (sa_cons (se_lc (si_rg1 (sa_cons (se_cl srl_sp0 (sa_cons se_var (sa_cons se_int sa_nil))) sa_nil)) (fun l_k81 => (sc_map (se_cl srl_sp0 (sa_cons se_var (sa_cons (se_op sr_sub se_var se_int) sa_nil)))))) sa_nil)) (fun l_times92 l_rest92 => (ss_asg (se_op sr_mul se_var (se_cb srl_sum (sa_cons (se_lc (si_seq se_var) (fun l_one94 => (sc_map (se_cl srl_sp0 (sa_cons se_var sa_nil))))) sa_nil))) (fun l_heavy93 => (ss_ret (se_if (sb_tst (se_op sr_le se_var se_int)) (se_tup (sa_cons (se_str (by decide)) (sa_cons se_var (sa_cons se_var sa_nil)))) (se_tup (sa_cons (se_str (by decide)) (sa_cons se_int (sa_cons (se_sl se_var so_none (so_some se_int)) sa_nil)))))))))))))))))
abbrev N__law_said : List Str := ["_law_part", "_law_one"]
theorem sc__law_said : FnScope N__law_said ["_law_part"] (defScope s__law_said) := ⟨rfl, rfl, rfl, by decide +kernel, rfl, by decide +kernel, by decide +kernel⟩
def F__law_said : Nat → D → Tr D
  | 0 => fun _ => .bad
  | r + 1 => fun l_part => fin (bd (bd (bd (bd (bd (.ok l_part) fun v1 => (bd (.ok (.int 0)) fun v2 => ixD v1 v2)) fun v3 => (bd (.ok (.str "block")) fun v4 => neD v3 v4)) asB) fun k => if k = true then (.ok (.int 1)) else (bd (.ok (.int 1)) fun v12 => (bd (bd (bd (bd (bd (bd (.ok l_part) fun v5 => (bd (.ok (.int 2)) fun v6 => ixD v5 v6)) itD) fun ds => bd (lcF (fun l_one6 => nox (bd (bd (bd (.ok l_one6) fun v8 => (bd (.ok []) fun r9 => .ok (v8 :: r9))) (ul1 (F__law_said r))) fun y => .ok (some y))) ds) fun r => .ok (.lst r)) fun v10 => (bd (.ok []) fun r11 => .ok (v10 :: r11))) (ul1 sumD)) fun v13 => addD v12 v13))) fun d => .ok (.rt d))
theorem ok__law_said (F : FnA K d__law_said fd) (T : Tx K mg) (bn : Binds K fd ["_law_part"] [])  : ∀ r : Nat, FnOk P w K mg base CX0 (1 + 1 * r) (d__law_said.adr K) fd ["_law_part"] (spF K Tb (ul1 (F__law_said r)))
  | 0 => fn_bad ul1_bad
  | r + 1 => by
    have G__law_said : PromO P w K mg base CX0 (1 + 1 * r) (gd "_law_said" K) [] (spF K Tb (ul1 (F__law_said r))) := ⟨fd, _, [], ok__law_said F T bn  r, bn, .nil⟩
    rw [show 1 + 1 * (r + 1) = (1 + 1 * r + 0) + 1 by omega]
    refine fnO0 F sc__law_said (fun vs H Q E h => spF_len len1 h) (fun cdv A outer s H vs Q E hr h => ?_)
    refine ⟨_, (pss_cons (ps_ret (pe_ifExp (pt_cmpR (op_neA (K := K) rfl hr.units) (pe_ix (ix_seqK (K := K) rfl) (pv 0) pe_int (fun _ _ => rfl)) pe_str (nomark _)) pe_int (pe_op (op_addA (K := K) rfl) pe_int (pe_callB (cr_sumK (K := K) rfl rfl) (by rfl) T.f_sum (by decide +kernel) (pa_cons (pe_lc (own := [("_law_one", 1)]) (g := gName 1) (by rfl) sc__law_said.nd (pi_seq (K := K) rfl (pe_ix (ix_seqK (K := K) rfl) (pv 0) pe_int (fun _ _ => rfl))) (blkOk_by (own := [("_law_one", 1)]) (N := N__law_said) (sc := defScope s__law_said) (by decide +kernel)) (fun _ _ _ _ _ => pg_name (i := 1) sc__law_said.nd rfl (Or.inl rfl)) (fun _ _ _ _ _ => pts_nil) (fun _ _ _ _ _ => (pe_g (PromO.call G__law_said (hr.mono (by omega)) (passA (E := EF))) (by rfl) T.g__law_said T.k__law_said (pa_cons (pv 1) pa_nil)))) pa_nil))))) pss_nil), ?_⟩
    exact fn_of1 (F := F__law_said (r + 1)) (envU := fun _ => List.replicate 2 .no) h (fun l_part => rfl) (fun p c l_part => (ss_ret (se_if (sb_tst (se_op sr_ne (se_op sr_ix se_var se_int) (se_str (by decide)))) se_int (se_op sr_add se_int (se_cb srl_sum (sa_cons (se_lc (si_seq (se_op sr_ix se_var se_int)) (fun l_one6 => (sc_map (se_cl srl_sp0 (sa_cons se_var sa_nil))))) sa_nil))))))
abbrev N__law_parts : List Str := ["_law_pen_here", "_law_many", "_law_cap", "_law_k", "_law_found", "_law_heavy", "_law_long", "_law_part"]
theorem sc__law_parts : FnScope N__law_parts ["_law_pen_here", "_law_many", "_law_cap"] (defScope s__law_parts) := ⟨rfl, rfl, rfl, by decide +kernel, rfl, by decide +kernel, by decide +kernel⟩
def F__law_parts (l_pen_here l_many l_cap : D) : Tr D :=
  fin (bdF (bd (bd (bd (bd (bd (.ok l_pen_here) fun v11 => (bd (bd (bd (.ok l_many) fun v7 => (bd (.ok (.int 1)) fun v8 => addD v7 v8)) fun v9 => (bd (.ok []) fun r10 => .ok (v9 :: r10))) fun r12 => .ok (v11 :: r12))) (ul2 F_draw)) fun v13 => (bd (.ok []) fun r14 => .ok (v13 :: r14))) (ul1 rg1)) fun ds => forF (fun (d16 : D) (w15 : List D × D × D) => (bd (bd (bd (.ok l_pen_here) fun v21 => (bd (bd (.ok (.int 2)) fun v19 => (bd (.ok []) fun r20 => .ok (v19 :: r20))) fun r22 => .ok (v21 :: r22))) (ul2 (F__law_step 5))) fun l_part17 => (bdF (W' := List D × D × D) (bd (bd (bd (bd (bd (.ok w15.2.1) fun v25 => (bd (bd (bd (.ok l_part17) fun v23 => (bd (.ok []) fun r24 => .ok (v23 :: r24))) (ul1 (F__law_weight 5))) fun v26 => addD v25 v26)) fun v27 => (bd (.ok l_cap) fun v28 => leD v27 v28)) asB) fun k => if k = true then (bd (bd (bd (.ok w15.2.2) fun v31 => (bd (bd (bd (.ok l_part17) fun v29 => (bd (.ok []) fun r30 => .ok (v29 :: r30))) (ul1 (F__law_said 5))) fun v32 => addD v31 v32)) fun v33 => (bd (.ok (.int 12)) fun v34 => leD v33 v34)) asB) else .ok false) fun k => if k = true then (bd (.ok l_part17) fun (v36 : D) => if w15.1.length < sizeLine then (bd (bd (bd (.ok w15.2.1) fun v39 => (bd (bd (bd (.ok l_part17) fun v37 => (bd (.ok []) fun r38 => .ok (v37 :: r38))) (ul1 (F__law_weight 5))) fun v40 => addD v39 v40)) fun v47 => (bd (bd (bd (.ok w15.2.2) fun v43 => (bd (bd (bd (.ok l_part17) fun v41 => (bd (.ok []) fun r42 => .ok (v41 :: r42))) (ul1 (F__law_said 5))) fun v44 => addD v43 v44)) fun v45 => (bd (.ok []) fun r46 => .ok (v45 :: r46))) fun r48 => .ok (v47 :: r48))) (ul2 fun l_heavy48 l_long48 => (.ok (.nx ((w15.1 ++ [v36]), l_heavy48, l_long48))))) else .bad) else (.ok (.nx (w15.1, w15.2.1, w15.2.2)))) fun (w35 : List D × D × D) => (.ok (.nx (w35.1, w35.2.1, w35.2.2)))))) ds ([], (.int 0), (.int 0))) fun (w15 : List D × D × D) => (bd (.ok (.lst w15.1)) fun d => .ok (.rt d)))
theorem ok__law_parts (F : FnA K d__law_parts fd) (T : Tx K mg) (G__law_draw : PromO P w K mg base CX0 1 (gd "_law_draw" K) [] (spF K Tb (ul2 F_draw))) (G__law_step : PromO P w K mg base CX0 12 (gd "_law_step" K) [] (spF K Tb (ul2 (F__law_step 5)))) (G__law_weight : PromO P w K mg base CX0 6 (gd "_law_weight" K) [] (spF K Tb (ul1 (F__law_weight 5)))) (G__law_said : PromO P w K mg base CX0 6 (gd "_law_said" K) [] (spF K Tb (ul1 (F__law_said 5)))) : FnOk P w K mg base CX0 13 (d__law_parts.adr K) fd ["_law_pen_here", "_law_many", "_law_cap"] (spF K Tb (ul3 F__law_parts)) := by
  refine fnO0 F sc__law_parts (fun vs H Q E h => spF_len len3 h) (fun cdv A outer s H vs Q E hr h => ?_)
  refine ⟨_, (pss_cons (ps_par3 (i := 4) (j := 5) (l := 6) (by rfl) sc__law_parts.nd rfl rfl rfl (by decide) (by decide) (by decide) rfl rfl rfl (pa_cons (pe_lst pa_nil) (pa_cons pe_int (pa_cons pe_int pa_nil))) (by rfl))
      (pss_cons (ps_for PassesOwn.never rfl (pi_range1 (by rfl) T.f_range (pa_cons (pe_g (PromO.call G__law_draw (hr.mono (by decide)) (passA (E := E))) (by rfl) T.g__law_draw T.k__law_draw (pa_cons (pv 0) (pa_cons (pe_op (op_addA (K := K) rfl) (pv 1) pe_int) pa_nil))) pa_nil)) (pg_name (i := 3) sc__law_parts.nd rfl (.inl rfl))
      (pss_cons (ps_set (i := 7) sc__law_parts.nd rfl (.inl rfl) (pe_g (PromO.call G__law_step (hr.mono (by decide)) (passA (E := E))) (by rfl) T.g__law_step T.k__law_step (pa_cons (pv 0) (pa_cons pe_int pa_nil))))
      (pss_cons (ps_if (PW.pt (pw_and (pt_cmpR op_le (pe_op (op_addA (K := K) rfl) (pv 5) (pe_g (PromO.call G__law_weight (hr.mono (by decide)) (passA (E := E))) (by rfl) T.g__law_weight T.k__law_weight (pa_cons (pv 7) pa_nil))) (pv 2) (nomark _)) (pw_and1 (pt_cmpR op_le (pe_op (op_addA (K := K) rfl) (pv 6) (pe_g (PromO.call G__law_said (hr.mono (by decide)) (passA (E := E))) (by rfl) T.g__law_said T.k__law_said (pa_cons (pv 7) pa_nil))) pe_int (nomark _)))))
      (pss_cons (ps_expr (pe_bm PySem.F.plainAttrs_list PySem.F.slot_list_append PySem.F.type_list_append mt_append (pv 4) (pa_cons (pv 7) pa_nil)))
      (pss_cons (ps_par (i := 5) (j := 6) (by rfl) sc__law_parts.nd rfl rfl (by decide) rfl rfl (pa_cons (pe_op (op_addA (K := K) rfl) (pv 5) (pe_g (PromO.call G__law_weight (hr.mono (by decide)) (passA (E := E))) (by rfl) T.g__law_weight T.k__law_weight (pa_cons (pv 7) pa_nil))) (pa_cons (pe_op (op_addA (K := K) rfl) (pv 6) (pe_g (PromO.call G__law_said (hr.mono (by decide)) (passA (E := E))) (by rfl) T.g__law_said T.k__law_said (pa_cons (pv 7) pa_nil))) pa_nil)) (by rfl))
      pss_nil)) pss_nil)
      pss_nil)))
      (pss_cons (ps_ret (pv 4)) pss_nil))), ?_⟩
  exact fn_of3 (F := F__law_parts) (envU := fun _ => List.replicate 8 .no) h (fun l_pen_here l_many l_cap => rfl) (fun p c l_pen_here l_many l_cap => (ss_par3L (cst_int _) (cst_int _) (ss_for (fun (w15 : List D × D × D) => [.fz l_pen_here, .fz l_many, .fz l_cap, .no, .ow w15.1, .fz w15.2.1, .fz w15.2.2, .no]) (si_rg1 (sa_cons (se_cl srl_sp0 (sa_cons se_var (sa_cons (se_op sr_add se_var se_int) sa_nil))) sa_nil)) (.s (.s (.s (.s (.s (.s (.s (.s .nil)))))))) (fun (d16 : D) (w15 : List D × D × D) => (sx_name (ss_asg (se_cl srl_sp0 (sa_cons se_var (sa_cons se_int sa_nil))) (fun l_part17 => (ss_if (fun (w35 : List D × D × D) => [.fz l_pen_here, .fz l_many, .fz l_cap, .fz d16, .ow w35.1, .fz w35.2.1, .fz w35.2.2, .fz l_part17]) (sb_and (sb_tst (se_op sr_le (se_op sr_add se_var (se_cl srl_sp0 (sa_cons se_var sa_nil))) se_var)) (sb_tst (se_op sr_le (se_op sr_add se_var (se_cl srl_sp0 (sa_cons se_var sa_nil))) se_int))) (ss_app se_var (fun v36 => (ss_par (sa_cons (se_op sr_add se_var (se_cl srl_sp0 (sa_cons se_var sa_nil))) (sa_cons (se_op sr_add se_var (se_cl srl_sp0 (sa_cons se_var sa_nil))) sa_nil)) (fun l_heavy48 l_long48 => (ss_nx (.s (.s (.s (.s (.s (.s (.s (.s .nil))))))))))))) (ss_nx (.s (.s (.s (.s (.s (.s (.s (.s .nil))))))))) (fun (w35 : List D × D × D) => (ss_nx (.s (.s (.s (.n (.s (.s (.s (.n .nil))))))))))))))) (fun (w15 : List D × D × D) => (ss_fz (i := 4) rfl (ss_ret se_var))))))
abbrev N__law_made : List Str := ["_law_part", "_law_one"]
theorem sc__law_made : FnScope N__law_made ["_law_part"] (defScope s__law_made) := ⟨rfl, rfl, rfl, by decide +kernel, rfl, by decide +kernel, by decide +kernel⟩
def F__law_made : Nat → D → Tr D
  | 0 => fun _ => .bad
  | r + 1 => fun l_part => fin (bdF (W' := Unit) (bd (bd (bd (bd (.ok l_part) fun v1 => (bd (.ok (.int 0)) fun v2 => ixD v1 v2)) fun v3 => (bd (.ok (.str "change")) fun v4 => eqD v3 v4)) asB) fun k => if k = true then (bd (bd (bd (bd (.ok l_part) fun v6 => (bd (.ok (.int 1)) fun v7 => ixD v6 v7)) fun v16 => (bd (bd (bd (.ok l_part) fun v8 => (bd (.ok (.int 2)) fun v9 => ixD v8 v9)) fun v14 => (bd (bd (bd (.ok l_part) fun v10 => (bd (.ok (.int 3)) fun v11 => ixD v10 v11)) fun v12 => (bd (.ok []) fun r13 => .ok (v12 :: r13))) fun r15 => .ok (v14 :: r15))) fun r17 => .ok (v16 :: r17))) (fun ds => bd ((fun fs => ul3 (F_Change___init__ fs)) [] ds) fun fs => .ok (.obj "Change" fs))) fun d => .ok (.rt d)) else (.ok (.nx ()))) fun (w5 : Unit) => (bdF (W' := Unit) (bd (bd (bd (bd (.ok l_part) fun v18 => (bd (.ok (.int 0)) fun v19 => ixD v18 v19)) fun v20 => (bd (.ok (.str "stretch")) fun v21 => eqD v20 v21)) asB) fun k => if k = true then (bd (bd (bd (bd (.ok l_part) fun v23 => (bd (.ok (.int 1)) fun v24 => ixD v23 v24)) fun v53 => (bd (bd (bd (bd (bd (bd (.ok l_part) fun v25 => (bd (.ok (.int 2)) fun v26 => ixD v25 v26)) fun v27 => (bd (.ok (.int 0)) fun v28 => ixD v27 v28)) fun v41 => (bd (bd (bd (bd (.ok l_part) fun v29 => (bd (.ok (.int 2)) fun v30 => ixD v29 v30)) fun v31 => (bd (.ok (.int 1)) fun v32 => ixD v31 v32)) fun v39 => (bd (bd (bd (bd (.ok l_part) fun v33 => (bd (.ok (.int 2)) fun v34 => ixD v33 v34)) fun v35 => (bd (.ok (.int 2)) fun v36 => ixD v35 v36)) fun v37 => (bd (.ok []) fun r38 => .ok (v37 :: r38))) fun r40 => .ok (v39 :: r40))) fun r42 => .ok (v41 :: r42))) (fun ds => bd ((fun fs => ul3 (F_Span___init__ fs)) [] ds) fun fs => .ok (.obj "Span" fs))) fun v51 => (bd (bd (bd (.ok l_part) fun v43 => (bd (.ok (.int 3)) fun v44 => ixD v43 v44)) fun v49 => (bd (bd (bd (.ok l_part) fun v45 => (bd (.ok (.int 4)) fun v46 => ixD v45 v46)) fun v47 => (bd (.ok []) fun r48 => .ok (v47 :: r48))) fun r50 => .ok (v49 :: r50))) fun r52 => .ok (v51 :: r52))) fun r54 => .ok (v53 :: r54))) (fun ds => bd ((fun fs => ul4 (F_Stretch___init__ fs)) [] ds) fun fs => .ok (.obj "Stretch" fs))) fun d => .ok (.rt d)) else (.ok (.nx ()))) fun (w22 : Unit) => (bd (nox (bd (bd (bd (.ok l_part) fun v55 => (bd (.ok (.int 1)) fun v56 => ixD v55 v56)) fun v64 => (bd (bd (bd (bd (bd (.ok l_part) fun v57 => (bd (.ok (.int 2)) fun v58 => ixD v57 v58)) itD) fun ds => bd (lcF (fun l_one58 => nox (bd (bd (bd (.ok l_one58) fun v60 => (bd (.ok []) fun r61 => .ok (v60 :: r61))) (ul1 (F__law_made r))) fun y => .ok (some y))) ds) fun r => .ok (.lst r)) fun v62 => (bd (.ok []) fun r63 => .ok (v62 :: r63))) fun r65 => .ok (v64 :: r65))) (ul2 F_Block_of))) fun d => .ok (.rt d))))
theorem ok__law_made (F : FnA K d__law_made fd) (T : Tx K mg) (bn : Binds K fd ["_law_part"] []) (G_Change___init__ : PromO P w K mg base CX0 4 (md "Change" "__init__" K) [] (spI K Tb "Change" (fun fs => ul3 (F_Change___init__ fs)))) (G_Stretch___init__ : PromO P w K mg base CX0 3 (md "Stretch" "__init__" K) [] (spI K Tb "Stretch" (fun fs => ul4 (F_Stretch___init__ fs)))) (G_Span___init__ : PromO P w K mg base CX0 3 (md "Span" "__init__" K) [] (spI K Tb "Span" (fun fs => ul3 (F_Span___init__ fs)))) (G_Block_of : PromO P w K mg base (L2.CX P w) 25 (clsG "Block" "of" K) [] (spK K Tb "Block" (ul2 F_Block_of))) : ∀ r : Nat, FnOk P w K mg base CX0 (26 + 1 * r) (d__law_made.adr K) fd ["_law_part"] (spF K Tb (ul1 (F__law_made r)))
  | 0 => fn_bad ul1_bad
  | r + 1 => by
    have G__law_made : PromO P w K mg base CX0 (26 + 1 * r) (gd "_law_made" K) [] (spF K Tb (ul1 (F__law_made r))) := ⟨fd, _, [], ok__law_made F T bn G_Change___init__ G_Stretch___init__ G_Span___init__ G_Block_of r, bn, .nil⟩
    rw [show 26 + 1 * (r + 1) = (26 + 1 * r + 0) + 1 by omega]
    refine fnO0 F sc__law_made (fun vs H Q E h => spF_len len1 h) (fun cdv A outer s H vs Q E hr h => ?_)
    refine ⟨_, (pss_cons (ps_if (pt_cmpR (op_eqA (K := K) rfl hr.units) (pe_ix (ix_seqK (K := K) rfl) (pv 0) pe_int (fun _ _ => rfl)) pe_str (nomark _))
      (pss_cons (ps_ret (pe_g (PromO.make T.mk_Change G_Change___init__ (hr.mono (by omega)) (passA (E := E))) (by rfl) T.g_Change T.k_Change (pa_cons (pe_ix (ix_seqK (K := K) rfl) (pv 0) pe_int (fun _ _ => rfl)) (pa_cons (pe_ix (ix_seqK (K := K) rfl) (pv 0) pe_int (fun _ _ => rfl)) (pa_cons (pe_ix (ix_seqK (K := K) rfl) (pv 0) pe_int (fun _ _ => rfl)) pa_nil))))) pss_nil) pss_nil)
      (pss_cons (ps_if (pt_cmpR (op_eqA (K := K) rfl hr.units) (pe_ix (ix_seqK (K := K) rfl) (pv 0) pe_int (fun _ _ => rfl)) pe_str (nomark _))
      (pss_cons (ps_ret (pe_g (PromO.make T.mk_Stretch G_Stretch___init__ (hr.mono (by omega)) (passA (E := E))) (by rfl) T.g_Stretch T.k_Stretch (pa_cons (pe_ix (ix_seqK (K := K) rfl) (pv 0) pe_int (fun _ _ => rfl)) (pa_cons (pe_g (PromO.make T.mk_Span G_Span___init__ (hr.mono (by omega)) (passA (E := E))) (by rfl) T.g_Span T.k_Span (pa_cons (pe_ix (ix_seqK (K := K) rfl) (pe_ix (ix_seqK (K := K) rfl) (pv 0) pe_int (fun _ _ => rfl)) pe_int (fun _ _ => rfl)) (pa_cons (pe_ix (ix_seqK (K := K) rfl) (pe_ix (ix_seqK (K := K) rfl) (pv 0) pe_int (fun _ _ => rfl)) pe_int (fun _ _ => rfl)) (pa_cons (pe_ix (ix_seqK (K := K) rfl) (pe_ix (ix_seqK (K := K) rfl) (pv 0) pe_int (fun _ _ => rfl)) pe_int (fun _ _ => rfl)) pa_nil)))) (pa_cons (pe_ix (ix_seqK (K := K) rfl) (pv 0) pe_int (fun _ _ => rfl)) (pa_cons (pe_ix (ix_seqK (K := K) rfl) (pv 0) pe_int (fun _ _ => rfl)) pa_nil)))))) pss_nil) pss_nil)
      (pss_cons (ps_ret (pe_cm (pe_glob (v := .ref _) rfl T.g_Block rfl) T.cm_Block_of G_Block_of (hr.mono (by omega)) passF (pa_cons (pe_ix (ix_seqK (K := K) rfl) (pv 0) pe_int (fun _ _ => rfl)) (pa_cons (pe_lc (own := [("_law_one", 1)]) (g := gName 1) (by rfl) sc__law_made.nd (pi_seq (K := K) rfl (pe_ix (ix_seqK (K := K) rfl) (pv 0) pe_int (fun _ _ => rfl))) (blkOk_by (own := [("_law_one", 1)]) (N := N__law_made) (sc := defScope s__law_made) (by decide +kernel)) (fun _ _ _ _ _ => pg_name (i := 1) sc__law_made.nd rfl (Or.inl rfl)) (fun _ _ _ _ _ => pts_nil) (fun _ _ _ _ _ => (pe_g (PromO.call G__law_made (hr.mono (by omega)) (passA (E := EF))) (by rfl) T.g__law_made T.k__law_made (pa_cons (pv 1) pa_nil)))) pa_nil)))) pss_nil))), ?_⟩
    exact fn_of1 (F := F__law_made (r + 1)) (envU := fun _ => List.replicate 2 .no) h (fun l_part => rfl) (fun p c l_part => (ss_if (fun (w5 : Unit) => [.fz l_part, .no]) (sb_tst (se_op sr_eq (se_op sr_ix se_var se_int) (se_str (by decide)))) (ss_ret (se_cl srl_mk0 (sa_cons (se_op sr_ix se_var se_int) (sa_cons (se_op sr_ix se_var se_int) (sa_cons (se_op sr_ix se_var se_int) sa_nil))))) (ss_nx (.s (.s .nil))) (fun (w5 : Unit) => (ss_if (fun (w22 : Unit) => [.fz l_part, .no]) (sb_tst (se_op sr_eq (se_op sr_ix se_var se_int) (se_str (by decide)))) (ss_ret (se_cl srl_mk0 (sa_cons (se_op sr_ix se_var se_int) (sa_cons (se_cl srl_mk0 (sa_cons (se_op sr_ix (se_op sr_ix se_var se_int) se_int) (sa_cons (se_op sr_ix (se_op sr_ix se_var se_int) se_int) (sa_cons (se_op sr_ix (se_op sr_ix se_var se_int) se_int) sa_nil)))) (sa_cons (se_op sr_ix se_var se_int) (sa_cons (se_op sr_ix se_var se_int) sa_nil)))))) (ss_nx (.s (.s .nil))) (fun (w22 : Unit) => (ss_ret (se_nox (se_cm (sa_cons (se_op sr_ix se_var se_int) (sa_cons (se_lc (si_seq (se_op sr_ix se_var se_int)) (fun l_one58 => (sc_map (se_cl srl_sp0 (sa_cons se_var sa_nil))))) sa_nil))))))))))
end
end Lw
end
section
set_option Elab.async false
set_option linter.all false
set_option maxRecDepth 100000
set_option maxHeartbeats 4000000
set_option pp.maxSteps 600
namespace Lw
open PySem PySem.Spec PyProof.Rows L2 Gh Gp
section
variable {P : Program} {w : World} {K : PySem.W.Frag} {mg : Str → Option Value} {base : Heap} {f : Addr} {fd : FuncData} {Tb : List (Addr × Str)}
abbrev N__law_heard : List Str := ["_law_ask", "error", "_law_told", "_law_caught"]
theorem sc__law_heard : FnScope N__law_heard ["_law_ask"] (defScope s__law_heard) := ⟨rfl, rfl, rfl, by decide +kernel, rfl, by decide +kernel, by decide +kernel⟩
def ex__law_heard (cl cn : Str) : Option Bool := match ([("TooMany", [("TooMany", true), ("BadStep", false)]), ("BadStep", [("BadStep", true)])] : List (Str × List (Str × Bool))).lookup cn with
  | some l => l.lookup cl
  | none => none
theorem exT__law_heard (T : Tx K mg) : ∀ cl cn b, ex__law_heard cl cn = some b → PySem.W.exmOne K (.ref (gd cl K)) (.ref (gd cn K)) = some b := by
  intro cl cn b h
  unfold ex__law_heard at h
  split at h
  · rename_i l h2
    exact (look_cons h2).elim (fun e => by obtain ⟨rfl, rfl⟩ := e; exact (look_cons h).elim (fun e => by obtain ⟨rfl, rfl⟩ := e; exact T.xm_TooMany_TooMany) (fun h => (look_cons h).elim (fun e => by obtain ⟨rfl, rfl⟩ := e; exact T.xm_BadStep_TooMany) (fun h => nomatch h))) (fun h2 => (look_cons h2).elim (fun e => by obtain ⟨rfl, rfl⟩ := e; exact (look_cons h).elim (fun e => by obtain ⟨rfl, rfl⟩ := e; exact T.xm_BadStep_BadStep) (fun h => nomatch h)) (fun h2 => nomatch h2))
  · cases h
def cs__law_heard : List Cl := [("TooMany", some 1, [.s "many", .f "what", .f "most"]), ("BadStep", some 1, [.s "step", .f "at"]), ("HuntError", none, [.s "other"])]
def F__law_heard (m : Tr D) : Tr D := tryT m (fun d => nox (fin (bd (bd (bd (bd (.ok .non) fun (v1 : D) => (bd (.ok .non) fun (v2 : D) => (match v2 with | .non => .ok (.bl (isN v1)) | _ => .bad))) asB) fun k => if k = true then (.ok d) else (.ok .non)) fun d => .ok (.rt d)))) (fun cl fs => bd (pickC ex__law_heard cs__law_heard cl fs) fun d => nox (fin (bd (bd (bd (bd (.ok d) fun (v3 : D) => (bd (.ok .non) fun (v4 : D) => (match v4 with | .non => .ok (.bl (isN v3)) | _ => .bad))) asB) fun k => if k = true then .bad else (.ok d)) fun d => .ok (.rt d))))
theorem ok__law_heard {X : Cx} {Tb : List (Addr × Str)} (T : Tx X.K X.mg) {g : Addr} {cdv : Value} {q : Str} : LamX.GivesTo X N__law_heard "_law_heard" (defScope s__law_heard) g cdv (defBody s__law_heard) "_law_ask" q (THd X.K Tb F__law_heard) := by
  intro f c' s H Q tl act hc h
  obtain ⟨p, c, U, b, m, wd, u, ha, al⟩ := h
  refine ⟨_, pss_cons (ps_asg (pe_tup (pa_cons pe_non (pa_cons pe_non pa_nil))) (pg_tup rfl (pgs_cons (pg_name (i := 2) sc__law_heard.nd rfl (.inl rfl)) (pgs_cons (pg_name (i := 3) sc__law_heard.nd rfl (.inl rfl)) pgs_nil)))) (pss_cons (ps_try_mk (X := (cxOf C8.CX0 X.prog X.w X.K X.mg X.base N__law_heard "_law_heard" (defScope s__law_heard) g cdv X.A X.stack s H C8.E0).nox) (l := cs__law_heard.map (clTS X.K 3)) (Wout := fun _ _ _ _ => False) (tb := fun W => tTry 4 (fun E => (tAsg (tAct f c' q (tl E)) (gName 2))) W) rfl rfl rfl sc__law_heard.nd LamX.takes0 (fun W pn xe tk _ => try_act 4 rfl tk fun E ⟨W', tk', hW⟩ => pss_one (ps_set (i := 2) sc__law_heard.nd rfl (.inl rfl) (act W' pn xe E _ _ tk' hW))) (HdsK.as (i := 1) rfl rfl ⟨rfl, by decide, .inl T.g_TooMany⟩ (fun a oe cls d pn hz hf => pss_one (ps_set (i := 3) sc__law_heard.nd rfl (.inl rfl) (pe_lst (pa_cons pe_str (pa_cons (pe_xf T.xf_TooMany T.n_TooMany_what hz hf (pv 1)) (pa_cons (pe_xf T.xf_TooMany T.n_TooMany_most hz hf (pv 1)) pa_nil)))))) (HdsK.as (i := 1) rfl rfl ⟨rfl, by decide, .inl T.g_BadStep⟩ (fun a oe cls d pn hz hf => pss_one (ps_set (i := 3) sc__law_heard.nd rfl (.inl rfl) (pe_lst (pa_cons pe_str (pa_cons (pe_xf T.xf_BadStep T.n_BadStep_at hz hf (pv 1)) pa_nil))))) (HdsK.no ⟨rfl, by decide, .inl T.g_HuntError⟩ (fun a oe cls d pn hz hf => pss_one (ps_set (i := 3) sc__law_heard.nd rfl (.inl rfl) (pe_lst (pa_cons pe_str pa_nil)))) .nil))))
      (pss_cons (ps_ret (pe_ifExp (pt_cmpR or_isN (pv 3) pe_non (nomark _)) (pv 2) (pv 3))) pss_nil)), ?_⟩
  exact heardM2 (g := ⟨X.K, Tb, p, c⟩) (n := 4) (i := 2) (j := 3) (ex := ex__law_heard) (cs := cs__law_heard) (envU := fun _ => List.replicate 4 .no) rfl (by decide) (by decide) (by decide) (by decide) (by decide) (by decide) (exT__law_heard T) (fun d => (ss_ret (se_if (sb_tst (se_op sr_isN se_var se_non)) se_var se_var))) (fun d => (ss_ret (se_if (sb_tst (se_op sr_isN se_var se_non)) se_bad se_var))) hc ha wd u al
abbrev N__law_deep : List Str := ["_law_parts_here", "_law_found", "_law_part", "_law_deep_here"]
theorem sc__law_deep : FnScope N__law_deep ["_law_parts_here"] (defScope s__law_deep) := ⟨rfl, rfl, rfl, by decide +kernel, rfl, by decide +kernel, by decide +kernel⟩
def F__law_deep : Nat → D → Tr D
  | 0 => fun _ => .bad
  | r + 1 => fun l_parts_here => fin (bd (.ok (.int 0)) fun l_found0 => (bdF (bd (bd (.ok l_parts_here) itD) fun ds => forF (fun (d3 : D) (w2 : D) => (bd (bd (bd (bd (bd (.ok d3) fun v6 => (bd (.ok (.int 0)) fun v7 => ixD v6 v7)) fun v8 => (bd (.ok (.str "block")) fun v9 => eqD v8 v9)) asB) fun k => if k = true then (bd (.ok (.int 1)) fun v14 => (bd (bd (bd (bd (.ok d3) fun v10 => (bd (.ok (.int 2)) fun v11 => ixD v10 v11)) fun v12 => (bd (.ok []) fun r13 => .ok (v12 :: r13))) (ul1 (F__law_deep r))) fun v15 => addD v14 v15)) else (.ok (.int 1))) fun l_deep_here4 => (bd (bd (bd (bd (.ok l_deep_here4) fun v17 => (bd (.ok w2) fun v18 => gtD v17 v18)) asB) fun k => if k = true then (.ok l_deep_here4) else (.ok w2)) fun l_found15 => (.ok (.nx l_found15))))) ds l_found0) fun (w2 : D) => (bd (.ok w2) fun d => .ok (.rt d))))
theorem ok__law_deep (F : FnA K d__law_deep fd) (T : Tx K mg) (bn : Binds K fd ["_law_parts_here"] [])  : ∀ r : Nat, FnOk P w K mg base CX0 (1 + 1 * r) (d__law_deep.adr K) fd ["_law_parts_here"] (spF K Tb (ul1 (F__law_deep r)))
  | 0 => fn_bad ul1_bad
  | r + 1 => by
    have G__law_deep : PromO P w K mg base CX0 (1 + 1 * r) (gd "_law_deep" K) [] (spF K Tb (ul1 (F__law_deep r))) := ⟨fd, _, [], ok__law_deep F T bn  r, bn, .nil⟩
    rw [show 1 + 1 * (r + 1) = (1 + 1 * r + 0) + 1 by omega]
    refine fnO0 F sc__law_deep (fun vs H Q E h => spF_len len1 h) (fun cdv A outer s H vs Q E hr h => ?_)
    refine ⟨_, (pss_cons (ps_set (i := 1) sc__law_deep.nd rfl (.inl rfl) pe_int)
      (pss_cons (ps_for PassesOwn.never rfl (pi_seq (K := K) rfl (pv 0)) (pg_name (i := 2) sc__law_deep.nd rfl (.inl rfl))
      (pss_cons (ps_set (i := 3) sc__law_deep.nd rfl (.inl rfl) (pe_ifExp (pt_cmpR (op_eqA (K := K) rfl hr.units) (pe_ix (ix_seqK (K := K) rfl) (pv 2) pe_int (fun _ _ => rfl)) pe_str (nomark _)) (pe_op (op_addA (K := K) rfl) pe_int (pe_g (PromO.call G__law_deep (hr.mono (by omega)) (passA (E := E))) (by rfl) T.g__law_deep T.k__law_deep (pa_cons (pe_ix (ix_seqK (K := K) rfl) (pv 2) pe_int (fun _ _ => rfl)) pa_nil))) pe_int))
      (pss_cons (ps_set (i := 1) sc__law_deep.nd rfl (.inl rfl) (pe_ifExp (pt_cmpR op_gt (pv 3) (pv 1) (nomark _)) (pv 3) (pv 1)))
      pss_nil)))
      (pss_cons (ps_ret (pv 1)) pss_nil))), ?_⟩
    exact fn_of1 (F := F__law_deep (r + 1)) (envU := fun _ => List.replicate 4 .no) h (fun l_parts_here => rfl) (fun p c l_parts_here => (ss_asg se_int (fun l_found0 => (ss_for (fun (w2 : D) => [.fz l_parts_here, .fz w2, .no, .no]) (si_seq se_var) (.s (.s (.s (.s .nil)))) (fun (d3 : D) (w2 : D) => (sx_name (ss_asg (se_if (sb_tst (se_op sr_eq (se_op sr_ix se_var se_int) (se_str (by decide)))) (se_op sr_add se_int (se_cl srl_sp0 (sa_cons (se_op sr_ix se_var se_int) sa_nil))) se_int) (fun l_deep_here4 => (ss_asg (se_if (sb_tst (se_op sr_gt se_var se_var)) se_var se_var) (fun l_found15 => (ss_nx (.s (.s (.n (.n .nil))))))))))) (fun (w2 : D) => (ss_ret se_var))))))
abbrev N__law_kept_right : List Str := ["_law_pen_here", "_law_parts_here", "_law_kept", "_law_block", "_law_steps", "_law_times", "_law_part"]
theorem sc__law_kept_right : FnScope N__law_kept_right ["_law_pen_here"] (defScope s__law_kept_right) := ⟨rfl, rfl, rfl, by decide +kernel, rfl, by decide +kernel, by decide +kernel⟩
def F__law_kept_right (l_pen_here : D) : Tr D :=
  fin (bd (bd (bd (.ok l_pen_here) fun v6 => (bd (bd (.ok (.int 4)) fun v4 => (bd (bd (.ok (.int 6)) fun v2 => (bd (.ok []) fun r3 => .ok (v2 :: r3))) fun r5 => .ok (v4 :: r5))) fun r7 => .ok (v6 :: r7))) (ul3 F__law_parts)) fun l_parts_here0 => (bd (bd (bd (bd (.ok l_parts_here0) itD) fun ds => lcF (fun l_part7 => nox (bd (bd (bd (.ok l_part7) fun v9 => (bd (.ok []) fun r10 => .ok (v9 :: r10))) (ul1 (F__law_made 5))) fun y => .ok (some y))) ds) fun ds25 => bd (bd (bd (bd (.ok l_pen_here) fun v21 => (bd (bd (bd (bd (.ok (.int 0)) fun v17 => (bd (bd (.ok (.int 1)) fun v15 => (bd (bd (.ok (.int 2)) fun v13 => (bd (bd (.ok (.int 12)) fun v11 => (bd (.ok []) fun r12 => .ok (v11 :: r12))) fun r14 => .ok (v13 :: r14))) fun r16 => .ok (v15 :: r16))) fun r18 => .ok (v17 :: r18))) fun ds => if ds.length ≤ sizeLine then .ok (.lst ds) else .bad) fun v19 => (bd (.ok []) fun r20 => .ok (v19 :: r20))) fun r22 => .ok (v21 :: r22))) (ul2 F__law_pick)) fun v23 => (bd (.ok []) fun r24 => .ok (v23 :: r24))) fun r26 => .ok (.lst ds25 :: r26)) (ul2 fun l_steps26o l_times26 => uoD (fun l_steps26 => (bd (.ok (.lst l_steps26)) fun l_kept27 => (bd (nox (F__law_heard (pk (bd (bd (.ok l_times26) fun v34 => (bd (bd (.ok (.lst l_steps26)) fun v32 => (bd (.ok []) fun r33 => .ok (v32 :: r33))) fun r35 => .ok (v34 :: r35))) (ul2 F_Block_of))))) fun l_block30 => (bdF (W' := Unit) (bd (bd (bd (bd (bd (.ok l_block30) fun d => bd (opt (isi_Block d)) fun k => .ok (.bl k)) asB) fun k => .ok (!k)) fun k => if k = true then .ok true else (bd (bd (bd (bd (.ok l_block30) fun d => bd (opt (isi_Step d)) fun k => .ok (.bl k)) asB) fun k => .ok (!k)) fun k => if k = true then .ok true else (bd (bd (bd (.ok l_block30) fun d => bd (opt (isi_Holder d)) fun k => .ok (.bl k)) asB) fun k => .ok (!k)))) fun k => if k = true then (bd (bd (bd (bd (.ok l_parts_here0) fun v37 => (bd (bd (.ok []) fun ds => if ds.length ≤ sizeLine then .ok (.lst ds) else .bad) fun v38 => neD v37 v38)) asB) fun k => if k = true then (bd (bd (bd (bd (bd (.ok l_parts_here0) fun v39 => (bd (.ok []) fun r40 => .ok (v39 :: r40))) (ul1 (F__law_deep 5))) fun v41 => (bd (.ok (.int 2)) fun v42 => gtD v41 v42)) asB) fun k => if k = true then (bd (.ok l_block30) fun v49 => (bd (bd (bd (.ok (.str "many")) fun v47 => (bd (bd (.ok (.str "deep")) fun v45 => (bd (bd (.ok (.int 3)) fun v43 => (bd (.ok []) fun r44 => .ok (v43 :: r44))) fun r46 => .ok (v45 :: r46))) fun r48 => .ok (v47 :: r48))) fun ds => if ds.length ≤ sizeLine then .ok (.lst ds) else .bad) fun v50 => eqD v49 v50)) else .ok (.bl false)) else .ok (.bl false)) fun d => .ok (.rt d)) else (.ok (.nx ()))) fun (w36 : Unit) => (bd (bd (.ok []) (fun ds => bd ((fun fs => ul3 (F_Change___init__ fs)) [] (ds ++ [.tup [], .tup [], .str "front"])) fun fs => .ok (.obj "Change" fs))) fun (v51 : D) => if l_steps26.length < sizeLine then (bdF (W' := Unit) (bd (bd (bd (bd (bd (bd (bd (.ok l_block30) (fldD "Block" "times")) fun v52 => (bd (.ok []) fun r53 => .ok (v52 :: r53))) (ul1 reprD)) fun v56 => (bd (bd (bd (.ok l_times26) fun v54 => (bd (.ok []) fun r55 => .ok (v54 :: r55))) (ul1 reprD)) fun v57 => neD v56 v57)) asB) fun k => if k = true then .ok true else (bd (bd (bd (.ok l_block30) (fldD "Block" "steps")) fun v60 => (bd (bd (bd (.ok l_kept27) fun v58 => (bd (.ok []) fun r59 => .ok (v58 :: r59))) (ul1 tupD)) fun v61 => bd (eqTD [("Change", (ul2 F_Change___eq__)), ("Stretch", (ul2 F_Stretch___eq__)), ("Block", (ul2 (F_Block___eq__ 5)))] v60 v61) notD)) asB)) fun k => if k = true then (bd (.ok (.bl false)) fun d => .ok (.rt d)) else (.ok (.nx ()))) fun (w62 : Unit) => (bdF (W' := Unit) (bd (bd (bd (bd (.ok l_block30) fun v69 => (bd (nox (bd (bd (.ok l_times26) fun v67 => (bd (bd (bd (bd (.ok l_kept27) fun v63 => (bd (.ok []) fun r64 => .ok (v63 :: r64))) (ul1 tupD)) fun v65 => (bd (.ok []) fun r66 => .ok (v65 :: r66))) fun r68 => .ok (v67 :: r68))) (ul2 F_Block_of))) fun v70 => neO "Block" eqr_Block (ul2 (F_Block___eq__ 5)) v69 v70)) asB) fun k => if k = true then .ok true else (bd (bd (bd (.ok l_block30) fun v71 => (bd (.ok l_kept27) fun v72 => eqO "Block" eqr_Block (ul2 (F_Block___eq__ 5)) v71 v72)) asB) fun k => if k = true then .ok true else (bd (bd (bd (.ok l_block30) fun v73 => (bd (.ok .non) fun v74 => neO "Block" eqr_Block (ul2 (F_Block___eq__ 5)) v73 v74)) asB) fun k => .ok (!k)))) fun k => if k = true then (bd (.ok (.bl false)) fun d => .ok (.rt d)) else (.ok (.nx ()))) fun (w75 : Unit) => (bdF (W' := Unit) (bd (bd (bd (bd (.ok l_kept27) fun v76 => (bd (bd (.ok []) fun ds => if ds.length ≤ sizeLine then .ok (.lst ds) else .bad) fun v77 => neNil v76 v77)) asB) fun k => if k = true then (bd (bd (.ok l_block30) fun v84 => (bd (nox (bd (bd (.ok l_times26) fun v82 => (bd (bd (bd (.ok l_kept27) fun v78 => (bd (.ok none) fun lo => bd (bd (bd (.ok (.int 1)) negD) asI) fun hi => slD v78 lo hi)) fun v80 => (bd (.ok []) fun r81 => .ok (v80 :: r81))) fun r83 => .ok (v82 :: r83))) (ul2 F_Block_of))) fun v85 => eqO "Block" eqr_Block (ul2 (F_Block___eq__ 5)) v84 v85)) asB) else .ok false) fun k => if k = true then (bd (.ok (.bl false)) fun d => .ok (.rt d)) else (.ok (.nx ()))) fun (w86 : Unit) => (bd (bd (nox (bd (bd (bd (bd (bd (.ok l_times26) fun v87 => (bd (.ok (.int 0)) fun v88 => gtD v87 v88)) asB) fun k => if k = true then (bd (.ok l_times26) fun v89 => (bd (.ok (.int 1)) fun v90 => subD v89 v90)) else (.ok (.int 1))) fun v93 => (bd (bd (.ok l_kept27) fun v91 => (bd (.ok []) fun r92 => .ok (v91 :: r92))) fun r94 => .ok (v93 :: r94))) (ul2 F_Block_of))) fun v95 => (bd (.ok l_block30) fun v96 => neO "Block" eqr_Block (ul2 (F_Block___eq__ 5)) v95 v96)) fun d => .ok (.rt d))))) else .bad))))) l_steps26o)))
theorem ok__law_kept_right (F : FnA K d__law_kept_right fd) (T : Tx K mg) (G__law_parts : PromO P w K mg base CX0 13 (gd "_law_parts" K) [] (spF K Tb (ul3 F__law_parts))) (G__law_made : PromO P w K mg base CX0 31 (gd "_law_made" K) [] (spF K Tb (ul1 (F__law_made 5)))) (G__law_pick : PromO P w K mg base CX0 2 (gd "_law_pick" K) [] (spF K Tb (ul2 F__law_pick))) (GH__law_heard : HrdP K d__law_heard ["_law_ask"]) (LD__law_kept_right : LamD base mg K Tb d__law_kept_right ("_law_kept_right", none)) (G_Block_of : PromO P w K mg base (L2.CX P w) 25 (clsG "Block" "of" K) [] (spK K Tb "Block" (ul2 F_Block_of))) (G__law_deep : PromO P w K mg base CX0 6 (gd "_law_deep" K) [] (spF K Tb (ul1 (F__law_deep 5)))) (GD_Change___init___0 : PromO P w K mg base CX0 4 (md "Change" "__init__" K) [V.ref (He.dflAt (("Change", some "__init__")) 0 K), V.ref (He.dflAt (("Change", some "__init__")) 1 K), V.str "front"] (spI K Tb "Change" (fun fs => ul3 (F_Change___init__ fs)))) (G_Change___eq__ : PromO P w K mg base CX0 1 (md "Change" "__eq__" K) [] (spF K Tb (ul2 F_Change___eq__))) (G_Stretch___eq__ : PromO P w K mg base CX0 2 (md "Stretch" "__eq__" K) [] (spF K Tb (ul2 F_Stretch___eq__))) (G_Block___eq__ : PromO P w K mg base CX0 14 (md "Block" "__eq__" K) [] (spF K Tb (ul2 (F_Block___eq__ 5)))) : FnG P w K mg base CX0 32 (d__law_kept_right.adr K) fd ["_law_pen_here"] (spF K Tb (ul1 F__law_kept_right)) := by
  obtain ⟨fdH, FH, hbH⟩ := GH__law_heard
  obtain ⟨ocH, odH, dVH, kVH, docH, pmH, anH, cdvH, ctH, oslH, rfl, lkH, hcH, _, _⟩ := FH.ex
  have ecode : fd.code = .ref (He.cT K ("_law_kept_right", none)).1 := codeOf_fn (p := ("_law_kept_right", none)) F
  refine fnG1 F sc__law_kept_right (fun vs H Q E h => spF_len len1 h) (fun cdv A outer s H vs Q E hcdv hr hg h => ?_)
  have hcode : cdv = .ref (He.cT K ("_law_kept_right", none)).1 := hcdv.trans ecode
  have hu100 := Nat.lt_of_le_of_lt (Nat.add_le_add_left (show 102 ≤ 16 * 31 + 200 by decide) _) (show _ + (16 * 31 + 200) < cLine from hr.un)
  refine ⟨_, (pss_cons (ps_set (i := 1) sc__law_kept_right.nd rfl (.inl rfl) (pe_g (PromO.call G__law_parts (hr.mono (by decide)) (passA (E := E))) (by rfl) T.g__law_parts T.k__law_parts (pa_cons (pv 0) (pa_cons pe_int (pa_cons pe_int pa_nil)))))
      (pss_cons (ps_parC (i := 4) (j := 5) (by rfl) sc__law_kept_right.nd rfl rfl (.inr rfl) (.inr rfl) (pa_cons (pe_lc (own := [("_law_part", 6)]) (g := gName 6) (by rfl) sc__law_kept_right.nd (pi_seq (K := K) rfl (pv 1)) (blkOk_by (own := [("_law_part", 6)]) (N := N__law_kept_right) (sc := defScope s__law_kept_right) (by decide +kernel)) (fun _ _ _ _ _ => pg_name (i := 6) sc__law_kept_right.nd rfl (Or.inl rfl)) (fun _ _ _ _ _ => pts_nil) (fun _ _ _ _ _ => (pe_g (PromO.call G__law_made (hr.mono (by decide)) (passA (E := EF))) (by rfl) T.g__law_made T.k__law_made (pa_cons (pv 6) pa_nil)))) (pa_cons (pe_g (PromO.call G__law_pick (hr.mono (by decide)) (passA (E := E))) (by rfl) T.g__law_pick T.k__law_pick (pa_cons (pv 0) (pa_cons (pe_lst (pa_cons pe_int (pa_cons pe_int (pa_cons pe_int (pa_cons pe_int pa_nil))))) pa_nil))) pa_nil)) (by rfl))
      (pss_cons (ps_set (i := 2) sc__law_kept_right.nd rfl (.inl rfl) (pe_callTy (cr_listOf (K := K) rfl) (by rfl) T.f_list (by decide +kernel) (pa_cons (pv 4) pa_nil)))
      (pss_cons (ps_set (i := 3) sc__law_kept_right.nd rfl (.inl rfl) (LamX.pe_lamcall (T := Tb) (k := 29) (by rfl) T.g__law_heard T.k__law_heard lkH hcH hbH sc__law_heard rfl (.inl rfl) (ok__law_heard (Tb := Tb) T) LD__law_kept_right.tb hcode LD__law_kept_right.mem LD__law_kept_right.hu (hr.mono (by decide)) (LamX.lamS_by (by show LamX.lamSB (defScope s__law_kept_right) _ = true; decide +kernel)) rfl (fun _ _ _ _ _ => rfl) (fun A outer s H E f c' hr => (pe_cm (pe_glob (v := .ref _) rfl T.g_Block rfl) T.cm_Block_of G_Block_of (hr.mono (by decide)) (pass_on rfl rfl rfl rfl) (pa_cons (pv 5) (pa_cons (pv 4) pa_nil))))))
      (pss_cons (ps_if (PW.pt (pw_or (pt_not (pt_val (pe_callB (call_isiZ (K := K) rfl) (by rfl) T.f_isinstance (by decide +kernel) (pa_cons (pv 3) (pa_cons (pe_glob (v := .ref _) rfl T.g_Block rfl) pa_nil))))) (pw_or (pt_not (pt_val (pe_callB (call_isiZ (K := K) rfl) (by rfl) T.f_isinstance (by decide +kernel) (pa_cons (pv 3) (pa_cons (pe_glob (v := .ref _) rfl T.g_Step rfl) pa_nil))))) (pw_or1 (pt_not (pt_val (pe_callB (call_isiZ (K := K) rfl) (by rfl) T.f_isinstance (by decide +kernel) (pa_cons (pv 3) (pa_cons (pe_glob (v := .ref _) rfl T.g_Holder rfl) pa_nil)))))))))
      (pss_cons (ps_ret (pe_and (pe_cmpR (op_neA (K := K) rfl hr.units) (pv 1) (pe_lst pa_nil) (nomark _)) (pe_and (pe_cmpR op_gt (pe_g (PromO.call G__law_deep (hr.mono (by decide)) (passA (E := E))) (by rfl) T.g__law_deep T.k__law_deep (pa_cons (pv 1) pa_nil)) pe_int (nomark _)) (pe_one (pe_cmpR (op_eqA (K := K) rfl hr.units) (pv 3) (pe_lst (pa_cons pe_str (pa_cons pe_str (pa_cons pe_int pa_nil)))) (nomark _)))))) pss_nil) pss_nil)
      (pss_cons (ps_expr (pe_bm PySem.F.plainAttrs_list PySem.F.slot_list_append PySem.F.type_list_append mt_append (pv 4) (pa_cons (pe_g0 (PromO.make T.mk_Change GD_Change___init___0 (hr.mono (by decide)) (passA (E := E))) (by rfl) T.g_Change T.k_Change) pa_nil)))
      (pss_cons (ps_if (PW.pt (pw_or (pt_cmpR (op_neA (K := K) rfl hr.units) (pe_callB (call_show (K := K) rfl hu100 hg) (by rfl) T.f_repr (by decide +kernel) (pa_cons (pe_f (pv 3) T.cl_Block T.n_Block_times) pa_nil)) (pe_callB (call_show (K := K) rfl hu100 hg) (by rfl) T.f_repr (by decide +kernel) (pa_cons (pv 5) pa_nil)) (nomark _)) (pw_or1 (pt_cmpR (op_neT (K := K) (n := 30) (owns := [(gd "Change" K, spF K Tb (ul2 F_Change___eq__)), (gd "Stretch" K, spF K Tb (ul2 F_Stretch___eq__)), (gd "Block" K, spF K Tb (ul2 (F_Block___eq__ 5)))]) rfl (hr.mono (by omega)) (passA (E := E)) (fun q h => by simp only [List.mem_cons, List.mem_nil_iff, or_false] at h; rcases h with rfl | rfl | rfl; exact ownQ_of T.mt_Change___eq__ G_Change___eq__ (by omega); exact ownQ_of T.mt_Stretch___eq__ G_Stretch___eq__ (by omega); exact ownQ_of T.mt_Block___eq__ G_Block___eq__ (by omega))) (pe_f (pv 3) T.cl_Block T.n_Block_steps) (pe_callTy (cr_tupOf (K := K) rfl) (by rfl) T.f_tuple (by decide +kernel) (pa_cons (pv 2) pa_nil)) (nomark _)))))
      (pss_cons (ps_ret pe_bl) pss_nil) pss_nil)
      (pss_cons (ps_if (PW.pt (pw_or (pt_cmpR (op_neO (K := K) rfl T.mt_Block___eq__ T.ne_Block G_Block___eq__ (hr.mono (by decide)) (passA (E := E))) (pv 3) (pe_cm (pe_glob (v := .ref _) rfl T.g_Block rfl) T.cm_Block_of G_Block_of (hr.mono (by decide)) passF (pa_cons (pv 5) (pa_cons (pe_callTy (cr_tupOf (K := K) rfl) (by rfl) T.f_tuple (by decide +kernel) (pa_cons (pv 2) pa_nil)) pa_nil))) (nomark _)) (pw_or (pt_cmpR (op_eqO (K := K) rfl T.mt_Block___eq__ hr.units0 (PromO.call G_Block___eq__ (hr.mono (by decide)) (passA (E := E)))) (pv 3) (pv 2) (nomark _)) (pw_or1 (pt_not (pt_cmpR (op_neO (K := K) rfl T.mt_Block___eq__ T.ne_Block G_Block___eq__ (hr.mono (by decide)) (passA (E := E))) (pv 3) pe_non (nomark _)))))))
      (pss_cons (ps_ret pe_bl) pss_nil) pss_nil)
      (pss_cons (ps_if (PW.pt (pw_and (pt_cmpR (op_neNil (K := K) rfl hr.units) (pv 2) (pe_lst pa_nil) (nomark _)) (pw_and1 (pt_cmpR (op_eqO (K := K) rfl T.mt_Block___eq__ hr.units0 (PromO.call G_Block___eq__ (hr.mono (by decide)) (passA (E := E)))) (pv 3) (pe_cm (pe_glob (v := .ref _) rfl T.g_Block rfl) T.cm_Block_of G_Block_of (hr.mono (by decide)) passF (pa_cons (pv 5) (pa_cons (pe_slice (sl_all (K := K) rfl) (pv 2) po_none (po_some (pe_un un_neg pe_int))) pa_nil))) (nomark _)))))
      (pss_cons (ps_ret pe_bl) pss_nil) pss_nil)
      (pss_cons (ps_ret (pe_cmpR (op_neO (K := K) rfl T.mt_Block___eq__ T.ne_Block G_Block___eq__ (hr.mono (by decide)) (passA (E := E))) (pe_cm (pe_glob (v := .ref _) rfl T.g_Block rfl) T.cm_Block_of G_Block_of (hr.mono (by decide)) passF (pa_cons (pe_ifExp (pt_cmpR op_gt (pv 5) pe_int (nomark _)) (pe_op op_sub (pv 5) pe_int) pe_int) (pa_cons (pv 2) pa_nil))) (pv 3) (nomark _))) pss_nil)))))))))), ?_⟩
  exact fn_of1 (F := F__law_kept_right) (envU := fun _ => List.replicate 7 .no) h (fun l_pen_here => rfl) (fun p c l_pen_here => (ss_asg (se_cl srl_sp0 (sa_cons se_var (sa_cons se_int (sa_cons se_int sa_nil)))) (fun l_parts_here0 => (ss_par2q0 (sq_here (sn_lc (si_seq se_var) (fun l_part7 => (sc_map (se_cl srl_sp0 (sa_cons se_var sa_nil))))) (sa_cons (se_cl srl_sp0 (sa_cons se_var (sa_cons (se_lst (sa_cons se_int (sa_cons se_int (sa_cons se_int (sa_cons se_int sa_nil))))) sa_nil))) sa_nil)) (fun l_steps26 l_times26 => (ss_asg se_listOw (fun l_kept27 => (ss_asg (se_lam fun E => (se_lend (i := 4) (se_cm (sa_cons se_var (sa_cons se_var sa_nil))))) (fun l_block30 => (ss_if (fun (w36 : Unit) => [.fz l_pen_here, .fz l_parts_here0, .fz l_kept27, .fz l_block30, .ow l_steps26, .fz l_times26, .no]) (sb_or (sb_not (sb_tb (se_isi (.own _) (isT_Block T) se_var))) (sb_or (sb_not (sb_tb (se_isi (.own _) (isT_Step T) se_var))) (sb_not (sb_tb (se_isi (.own _) (isT_Holder T) se_var))))) (ss_ret (se_andV (se_op sr_ne se_var (se_lst sa_nil)) (se_andV (se_op sr_gt (se_cl srl_sp0 (sa_cons se_var sa_nil)) se_int) (se_op sr_eq se_var (se_lst (sa_cons (se_str (by decide)) (sa_cons (se_str (by decide)) (sa_cons se_int sa_nil)))))))) (ss_nx (.s (.s (.s (.s (.s (.s (.s .nil)))))))) (fun (w36 : Unit) => (ss_app (se_cl (srl_mk fun _ _ => (.cons (den_dt T.dt_Change___init___0) (.cons (den_dt T.dt_Change___init___1) (.cons (.str _ (by decide)) .nil)))) sa_nil) (fun v51 => (ss_if (fun (w62 : Unit) => [.fz l_pen_here, .fz l_parts_here0, .fz l_kept27, .fz l_block30, .ow (l_steps26 ++ [v51]), .fz l_times26, .no]) (sb_or (sb_tst (se_op sr_ne (se_cb srl_repr (sa_cons (se_un sr_fld se_var) sa_nil)) (se_cb srl_repr (sa_cons se_var sa_nil)))) (sb_tst (se_op (sr_neT (sr_eqT (es := [("Change", (ul2 F_Change___eq__)), ("Stretch", (ul2 F_Stretch___eq__)), ("Block", (ul2 (F_Block___eq__ 5)))]) (fun q h q2 h2 => by simp only [List.mem_cons, List.mem_nil_iff, or_false] at h h2; (rcases h with rfl | rfl | rfl <;> rcases h2 with rfl | rfl | rfl); exact T.nf_Change_Change; exact T.nf_Change_Stretch; exact T.nf_Change_Block; exact T.nf_Stretch_Change; exact T.nf_Stretch_Stretch; exact T.nf_Stretch_Block; exact T.nf_Block_Change; exact T.nf_Block_Stretch; exact T.nf_Block_Block))) (se_un sr_fld se_var) (se_cb srl_tup (sa_cons se_var sa_nil))))) (ss_ret se_bl) (ss_nx (.s (.s (.s (.s (.s (.s (.s .nil)))))))) (fun (w62 : Unit) => (ss_if (fun (w75 : Unit) => [.fz l_pen_here, .fz l_parts_here0, .fz l_kept27, .fz l_block30, .ow (l_steps26 ++ [v51]), .fz l_times26, .no]) (sb_or (sb_tst (se_op (sr_neO (eqR_Block T)) se_var (se_nox (se_cm (sa_cons se_var (sa_cons (se_cb srl_tup (sa_cons se_var sa_nil)) sa_nil)))))) (sb_or (sb_tst (se_op (sr_eqO (eqR_Block T) srl_sp0) se_var se_var)) (sb_not (sb_tst (se_op (sr_neO (eqR_Block T)) se_var se_non))))) (ss_ret se_bl) (ss_nx (.s (.s (.s (.s (.s (.s (.s .nil)))))))) (fun (w75 : Unit) => (ss_if (fun (w86 : Unit) => [.fz l_pen_here, .fz l_parts_here0, .fz l_kept27, .fz l_block30, .ow (l_steps26 ++ [v51]), .fz l_times26, .no]) (sb_and (sb_tst (se_op sr_neNil se_var (se_lst sa_nil))) (sb_tst (se_op (sr_eqO (eqR_Block T) srl_sp0) se_var (se_nox (se_cm (sa_cons se_var (sa_cons (se_sl se_var so_none (so_some (se_un sr_neg se_int))) sa_nil))))))) (ss_ret se_bl) (ss_nx (.s (.s (.s (.s (.s (.s (.s .nil)))))))) (fun (w86 : Unit) => (ss_ret (se_op (sr_neO (eqR_Block T)) (se_nox (se_cm (sa_cons (se_if (sb_tst (se_op sr_gt se_var se_int)) (se_op sr_sub se_var se_int) se_int) (sa_cons se_var sa_nil)))) se_var)))))))))))))))))))))
abbrev N__law_spoilt_right : List Str := ["_law_pen_here", "_law_steps", "_law_at", "_law_odd", "_law_bent"]
theorem sc__law_spoilt_right : FnScope N__law_spoilt_right ["_law_pen_here"] (defScope s__law_spoilt_right) := ⟨rfl, rfl, rfl, by decide +kernel, rfl, by decide +kernel, by decide +kernel⟩
def F__law_spoilt_right (l_pen_here : D) : Tr D :=
  fin (bd (bd (bd (bd (bd (.ok []) (fun ds => bd ((fun fs => ul3 (F_Change___init__ fs)) [] (ds ++ [.tup [], .tup [], .str "front"])) fun fs => .ok (.obj "Change" fs))) fun v22 => (bd (bd (bd (bd (.ok (.int 0)) fun v6 => (bd (bd (bd (bd (.ok (.int 1)) fun v2 => (bd (.ok []) fun r3 => .ok (v2 :: r3))) (fun ds => bd ((fun fs => ul3 (F_Span___init__ fs)) [] (ds ++ [.int 0, .int 0])) fun fs => .ok (.obj "Span" fs))) fun v4 => (bd (.ok []) fun r5 => .ok (v4 :: r5))) fun r7 => .ok (v6 :: r7))) (fun ds => bd ((fun fs => ul4 (F_Stretch___init__ fs)) [] (ds ++ [.str "front", .bl false])) fun fs => .ok (.obj "Stretch" fs))) fun v20 => (bd (bd (bd (bd (bd (bd (.ok (.int 1)) fun v8 => (bd (.ok []) fun r9 => .ok (v8 :: r9))) fun ds => if ds.length ≤ sizeLine then .ok (.tup ds) else .bad) fun v10 => (bd (.ok []) fun r11 => .ok (v10 :: r11))) (fun ds => bd ((fun fs => ul3 (F_Change___init__ fs)) [] (ds ++ [.tup [], .str "front"])) fun fs => .ok (.obj "Change" fs))) fun v18 => (bd (bd (nox (bd (bd (.ok (.int 2)) fun v14 => (bd (bd (bd (.ok []) (fun ds => bd ((fun fs => ul3 (F_Change___init__ fs)) [] (ds ++ [.tup [], .tup [], .str "front"])) fun fs => .ok (.obj "Change" fs))) fun v12 => (bd (.ok []) fun r13 => .ok (v12 :: r13))) fun r15 => .ok (v14 :: r15))) fun ds => stD 1 ds fun es => bd ((fun fs => ul2 (F_Block___init__ fs)) [] es) fun fs => .ok (.obj "Block" fs))) fun v16 => (bd (.ok []) fun r17 => .ok (v16 :: r17))) fun r19 => .ok (v18 :: r19))) fun r21 => .ok (v20 :: r21))) fun r23 => .ok (v22 :: r23))) fun ds => if ds.length ≤ sizeLine then .ok (.lst ds) else .bad) fun v24 => (bd (.ok none) fun lo => bd (bd (bd (.ok (.int 1)) fun v30 => (bd (bd (bd (.ok l_pen_here) fun v28 => (bd (bd (.ok (.int 4)) fun v26 => (bd (.ok []) fun r27 => .ok (v26 :: r27))) fun r29 => .ok (v28 :: r29))) (ul2 F_draw)) fun v31 => addD v30 v31)) asI) fun hi => slD v24 lo hi)) fun l_steps0 => (bd (bd (bd (.ok l_pen_here) fun v37 => (bd (bd (bd (bd (.ok l_steps0) fun v33 => (bd (.ok []) fun r34 => .ok (v33 :: r34))) (ul1 lenD)) fun v35 => (bd (.ok []) fun r36 => .ok (v35 :: r36))) fun r38 => .ok (v37 :: r38))) (ul2 F_draw)) fun l_at31 => (bd (bd (bd (.ok l_pen_here) fun v62 => (bd (bd (bd (bd (.ok .non) fun v58 => (bd (bd (.ok (.int 0)) fun v56 => (bd (bd (.ok (.str "change")) fun v54 => (bd (bd (bd (bd (bd (.ok []) (fun ds => bd ((fun fs => ul3 (F_Change___init__ fs)) [] (ds ++ [.tup [], .tup [], .str "front"])) fun fs => .ok (.obj "Change" fs))) fun v40 => (bd (.ok []) fun r41 => .ok (v40 :: r41))) fun ds => if ds.length ≤ sizeLine then .ok (.lst ds) else .bad) fun v52 => (bd (bd (nox (bd (.ok []) fun ds => stD 0 ds fun es => bd ((fun fs => ul1 (F_Program___init__ fs)) [] es) fun fs => .ok (.obj "Program" fs))) fun v50 => (bd (bd (bd (bd (.ok (.int 1)) fun v42 => (bd (.ok []) fun r43 => .ok (v42 :: r43))) (fun ds => bd ((fun fs => ul3 (F_Span___init__ fs)) [] (ds ++ [.int 0, .int 0])) fun fs => .ok (.obj "Span" fs))) fun v48 => (bd (bd (bd (bd (bd (.ok []) (fun ds => bd ((fun fs => ul3 (F_Change___init__ fs)) [] (ds ++ [.tup [], .tup [], .str "front"])) fun fs => .ok (.obj "Change" fs))) fun v44 => (bd (.ok []) fun r45 => .ok (v44 :: r45))) fun ds => if ds.length ≤ sizeLine then .ok (.tup ds) else .bad) fun v46 => (bd (.ok []) fun r47 => .ok (v46 :: r47))) fun r49 => .ok (v48 :: r49))) fun r51 => .ok (v50 :: r51))) fun r53 => .ok (v52 :: r53))) fun r55 => .ok (v54 :: r55))) fun r57 => .ok (v56 :: r57))) fun r59 => .ok (v58 :: r59))) fun ds => if ds.length ≤ sizeLine then .ok (.lst ds) else .bad) fun v60 => (bd (.ok []) fun r61 => .ok (v60 :: r61))) fun r63 => .ok (v62 :: r63))) (ul2 F__law_pick)) fun l_odd38 => (bd (bd (bd (bd (bd (.ok l_steps0) fun v65 => (bd (.ok none) fun lo => bd (bd (.ok l_at31) asI) fun hi => slD v65 lo hi)) fun v69 => (bd (bd (bd (.ok l_odd38) fun v67 => (bd (.ok []) fun r68 => .ok (v67 :: r68))) fun ds => if ds.length ≤ sizeLine then .ok (.lst ds) else .bad) fun v70 => addD v69 v70)) fun v73 => (bd (bd (.ok l_steps0) fun v71 => (bd (bd (.ok l_at31) asI) fun lo => bd (.ok none) fun hi => slD v71 lo hi)) fun v74 => addD v73 v74)) fun v83 => (bd (bd (bd (bd (.ok .non) fun v75 => (bd (.ok []) fun r76 => .ok (v75 :: r76))) fun ds => if ds.length ≤ sizeLine then .ok (.lst ds) else .bad) fun v81 => (bd (bd (bd (.ok l_pen_here) fun v79 => (bd (bd (.ok (.int 2)) fun v77 => (bd (.ok []) fun r78 => .ok (v77 :: r78))) fun r80 => .ok (v79 :: r80))) (ul2 F_draw)) fun v82 => mulD v81 v82)) fun v84 => addD v83 v84)) fun l_bent63 => (bdF (W' := Unit) (bd (bd (bd (nox (F__law_heard (bd (bd (bd (bd (.ok l_pen_here) fun v87 => (bd (bd (.ok (.int 13)) fun v85 => (bd (.ok []) fun r86 => .ok (v85 :: r86))) fun r88 => .ok (v87 :: r88))) (ul2 F_draw)) fun v91 => (bd (bd (.ok l_bent63) fun v89 => (bd (.ok []) fun r90 => .ok (v89 :: r90))) fun r92 => .ok (v91 :: r92))) (ul2 F_Block_of)))) fun v97 => (bd (bd (bd (.ok (.str "step")) fun v95 => (bd (bd (.ok l_at31) fun v93 => (bd (.ok []) fun r94 => .ok (v93 :: r94))) fun r96 => .ok (v95 :: r96))) fun ds => if ds.length ≤ sizeLine then .ok (.lst ds) else .bad) fun v98 => neD v97 v98)) asB) fun k => if k = true then (bd (.ok (.bl false)) fun d => .ok (.rt d)) else (.ok (.nx ()))) fun (w99 : Unit) => (bd (bd (bd (.ok l_pen_here) fun v119 => (bd (bd (bd (bd (bd (.ok (.int 1)) negD) fun v115 => (bd (bd (.ok (.int 13)) fun v113 => (bd (bd (.ok (.bl true)) fun v111 => (bd (bd (.ok .non) fun v109 => (bd (bd (.ok (.str "2")) fun v107 => (bd (bd (bd (bd (.ok (.int 2)) fun v101 => (bd (.ok []) fun r102 => .ok (v101 :: r102))) fun ds => if ds.length ≤ sizeLine then .ok (.lst ds) else .bad) fun v105 => (bd (bd (.ok (.int 100000000000000000000)) fun v103 => (bd (.ok []) fun r104 => .ok (v103 :: r104))) fun r106 => .ok (v105 :: r106))) fun r108 => .ok (v107 :: r108))) fun r110 => .ok (v109 :: r110))) fun r112 => .ok (v111 :: r112))) fun r114 => .ok (v113 :: r114))) fun r116 => .ok (v115 :: r116))) fun ds => if ds.length ≤ sizeLine then .ok (.lst ds) else .bad) fun v117 => (bd (.ok []) fun r118 => .ok (v117 :: r118))) fun r120 => .ok (v119 :: r120))) (ul2 F__law_pick)) fun l_odd99 => (bd (bd (nox (F__law_heard (bd (bd (.ok l_odd99) fun v131 => (bd (bd (bd (bd (.ok l_pen_here) fun v127 => (bd (bd (bd (bd (.ok l_steps0) fun v123 => (bd (bd (.ok l_bent63) fun v121 => (bd (.ok []) fun r122 => .ok (v121 :: r122))) fun r124 => .ok (v123 :: r124))) fun ds => if ds.length ≤ sizeLine then .ok (.lst ds) else .bad) fun v125 => (bd (.ok []) fun r126 => .ok (v125 :: r126))) fun r128 => .ok (v127 :: r128))) (ul2 F__law_pick)) fun v129 => (bd (.ok []) fun r130 => .ok (v129 :: r130))) fun r132 => .ok (v131 :: r132))) (ul2 F_Block_of)))) fun v137 => (bd (bd (bd (.ok (.str "step")) fun v135 => (bd (bd (.ok (.str "times")) fun v133 => (bd (.ok []) fun r134 => .ok (v133 :: r134))) fun r136 => .ok (v135 :: r136))) fun ds => if ds.length ≤ sizeLine then .ok (.lst ds) else .bad) fun v138 => eqD v137 v138)) fun d => .ok (.rt d))))))))
theorem ok__law_spoilt_right (F : FnA K d__law_spoilt_right fd) (T : Tx K mg) (GD_Change___init___0 : PromO P w K mg base CX0 4 (md "Change" "__init__" K) [V.ref (He.dflAt (("Change", some "__init__")) 0 K), V.ref (He.dflAt (("Change", some "__init__")) 1 K), V.str "front"] (spI K Tb "Change" (fun fs => ul3 (F_Change___init__ fs)))) (GD_Stretch___init___0 : PromO P w K mg base CX0 3 (md "Stretch" "__init__" K) [V.str "front", V.bl false] (spI K Tb "Stretch" (fun fs => ul4 (F_Stretch___init__ fs)))) (GD_Span___init___0 : PromO P w K mg base CX0 3 (md "Span" "__init__" K) [V.int 0, V.int 0] (spI K Tb "Span" (fun fs => ul3 (F_Span___init__ fs)))) (GD_Change___init___1 : PromO P w K mg base CX0 4 (md "Change" "__init__" K) [V.ref (He.dflAt (("Change", some "__init__")) 1 K), V.str "front"] (spI K Tb "Change" (fun fs => ul3 (F_Change___init__ fs)))) (G_Block___init__ : FnR P w K mg base (L2.CX P w) 23 (md "Block" "__init__" K) (starSp 2 (spI K Tb "Block" (fun fs => ul2 (F_Block___init__ fs))))) (G__law_draw : PromO P w K mg base CX0 1 (gd "_law_draw" K) [] (spF K Tb (ul2 F_draw))) (G__law_pick : PromO P w K mg base CX0 2 (gd "_law_pick" K) [] (spF K Tb (ul2 F__law_pick))) (G_Program___init__ : FnR P w K mg base (L2.CX P w) 27 (md "Program" "__init__" K) (starSp 1 (spI K Tb "Program" (fun fs => ul1 (F_Program___init__ fs))))) (GH__law_heard : HrdP K d__law_heard ["_law_ask"]) (LD__law_spoilt_right : LamD base mg K Tb d__law_spoilt_right ("_law_spoilt_right", none)) (G_Block_of : PromO P w K mg base (L2.CX P w) 25 (clsG "Block" "of" K) [] (spK K Tb "Block" (ul2 F_Block_of))) : FnOk P w K mg base CX0 29 (d__law_spoilt_right.adr K) fd ["_law_pen_here"] (spF K Tb (ul1 F__law_spoilt_right)) := by
  obtain ⟨fdH, FH, hbH⟩ := GH__law_heard
  obtain ⟨ocH, odH, dVH, kVH, docH, pmH, anH, cdvH, ctH, oslH, rfl, lkH, hcH, _, _⟩ := FH.ex
  have ecode : fd.code = .ref (He.cT K ("_law_spoilt_right", none)).1 := codeOf_fn (p := ("_law_spoilt_right", none)) F
  refine fnO1 F sc__law_spoilt_right (fun vs H Q E h => spF_len len1 h) (fun cdv A outer s H vs Q E hcdv hr h => ?_)
  have hcode : cdv = .ref (He.cT K ("_law_spoilt_right", none)).1 := hcdv.trans ecode
  refine ⟨_, (pss_cons (ps_set (i := 1) sc__law_spoilt_right.nd rfl (.inr rfl) (pe_slice (sl_all (K := K) rfl) (pe_lst (pa_cons (pe_g0 (PromO.make T.mk_Change GD_Change___init___0 (hr.mono (by decide)) (passA (E := E))) (by rfl) T.g_Change T.k_Change) (pa_cons (pe_g (PromO.make T.mk_Stretch GD_Stretch___init___0 (hr.mono (by decide)) (passA (E := E))) (by rfl) T.g_Stretch T.k_Stretch (pa_cons pe_int (pa_cons (pe_g (PromO.make T.mk_Span GD_Span___init___0 (hr.mono (by decide)) (passA (E := E))) (by rfl) T.g_Span T.k_Span (pa_cons pe_int pa_nil)) pa_nil))) (pa_cons (pe_g (PromO.make T.mk_Change GD_Change___init___1 (hr.mono (by decide)) (passA (E := E))) (by rfl) T.g_Change T.k_Change (pa_cons (pe_tup (pa_cons pe_int pa_nil)) pa_nil)) (pa_cons (pe_mkR T.mk_Block G_Block___init__ (hr.mono (by decide)) (by rfl) T.g_Block passF (pa_cons pe_int (pa_cons (pe_g0 (PromO.make T.mk_Change GD_Change___init___0 (hr.mono (by decide)) (passA (E := EF))) (by rfl) T.g_Change T.k_Change) pa_nil))) pa_nil))))) po_none (po_some (pe_op (op_addA (K := K) rfl) pe_int (pe_g (PromO.call G__law_draw (hr.mono (by decide)) (passA (E := E))) (by rfl) T.g__law_draw T.k__law_draw (pa_cons (pv 0) (pa_cons pe_int pa_nil)))))))
      (pss_cons (ps_set (i := 2) sc__law_spoilt_right.nd rfl (.inl rfl) (pe_g (PromO.call G__law_draw (hr.mono (by decide)) (passA (E := E))) (by rfl) T.g__law_draw T.k__law_draw (pa_cons (pv 0) (pa_cons (pe_callB (cr_len (K := K) rfl) (by rfl) T.f_len (by decide +kernel) (pa_cons (pv 1) pa_nil)) pa_nil))))
      (pss_cons (ps_set (i := 3) sc__law_spoilt_right.nd rfl (.inr rfl) (pe_g (PromO.call G__law_pick (hr.mono (by decide)) (passA (E := E))) (by rfl) T.g__law_pick T.k__law_pick (pa_cons (pv 0) (pa_cons (pe_lst (pa_cons pe_non (pa_cons pe_int (pa_cons pe_str (pa_cons (pe_lst (pa_cons (pe_g0 (PromO.make T.mk_Change GD_Change___init___0 (hr.mono (by decide)) (passA (E := E))) (by rfl) T.g_Change T.k_Change) pa_nil)) (pa_cons (pe_mkR0 T.mk_Program G_Program___init__ (hr.mono (by decide)) (by rfl) T.g_Program passF) (pa_cons (pe_g (PromO.make T.mk_Span GD_Span___init___0 (hr.mono (by decide)) (passA (E := E))) (by rfl) T.g_Span T.k_Span (pa_cons pe_int pa_nil)) (pa_cons (pe_tup (pa_cons (pe_g0 (PromO.make T.mk_Change GD_Change___init___0 (hr.mono (by decide)) (passA (E := E))) (by rfl) T.g_Change T.k_Change) pa_nil)) pa_nil)))))))) pa_nil))))
      (pss_cons (ps_set (i := 4) sc__law_spoilt_right.nd rfl (.inr rfl) (pe_op (op_addA (K := K) rfl) (pe_op (op_addA (K := K) rfl) (pe_op (op_addA (K := K) rfl) (pe_slice (sl_all (K := K) rfl) (pv 1) po_none (po_some (pv 2))) (pe_lst (pa_cons (pv 3) pa_nil))) (pe_slice (sl_all (K := K) rfl) (pv 1) (po_some (pv 2)) po_none)) (pe_op op_mulA (pe_lst (pa_cons pe_non pa_nil)) (pe_g (PromO.call G__law_draw (hr.mono (by decide)) (passA (E := E))) (by rfl) T.g__law_draw T.k__law_draw (pa_cons (pv 0) (pa_cons pe_int pa_nil))))))
      (pss_cons (ps_if (pt_cmpR (op_neA (K := K) rfl hr.units) (LamX.pe_lamcall (T := Tb) (k := 26) (by rfl) T.g__law_heard T.k__law_heard lkH hcH hbH sc__law_heard rfl (.inl rfl) (ok__law_heard (Tb := Tb) T) LD__law_spoilt_right.tb hcode LD__law_spoilt_right.mem LD__law_spoilt_right.hu (hr.mono (by decide)) (LamX.lamS_by (by show LamX.lamSB (defScope s__law_spoilt_right) _ = true; decide +kernel)) rfl (fun _ _ _ _ _ => rfl) (fun A outer s H E f c' hr => (pe_cm (pe_glob (v := .ref _) rfl T.g_Block rfl) T.cm_Block_of G_Block_of (hr.mono (by decide)) (pass_on rfl rfl rfl rfl) (pa_cons (pe_g (PromO.call G__law_draw (hr.mono (by decide)) (passA (E := E))) (by rfl) T.g__law_draw T.k__law_draw (pa_cons (pv 0) (pa_cons pe_int pa_nil))) (pa_cons (pv 4) pa_nil))))) (pe_lst (pa_cons pe_str (pa_cons (pv 2) pa_nil))) (nomark _))
      (pss_cons (ps_ret pe_bl) pss_nil) pss_nil)
      (pss_cons (ps_set (i := 3) sc__law_spoilt_right.nd rfl (.inr rfl) (pe_g (PromO.call G__law_pick (hr.mono (by decide)) (passA (E := E))) (by rfl) T.g__law_pick T.k__law_pick (pa_cons (pv 0) (pa_cons (pe_lst (pa_cons (pe_un un_neg pe_int) (pa_cons pe_int (pa_cons pe_bl (pa_cons pe_non (pa_cons pe_str (pa_cons (pe_lst (pa_cons pe_int pa_nil)) (pa_cons (pe_op (op_powK 100000000000000000000) pe_int pe_int) pa_nil)))))))) pa_nil))))
      (pss_cons (ps_ret (pe_cmpR (op_eqA (K := K) rfl hr.units) (LamX.pe_lamcall (T := Tb) (k := 26) (by rfl) T.g__law_heard T.k__law_heard lkH hcH hbH sc__law_heard rfl (.inl rfl) (ok__law_heard (Tb := Tb) T) LD__law_spoilt_right.tb hcode LD__law_spoilt_right.mem LD__law_spoilt_right.hu (hr.mono (by decide)) (LamX.lamS_by (by show LamX.lamSB (defScope s__law_spoilt_right) _ = true; decide +kernel)) rfl (fun _ _ _ _ _ => rfl) (fun A outer s H E f c' hr => (pe_cm (pe_glob (v := .ref _) rfl T.g_Block rfl) T.cm_Block_of G_Block_of (hr.mono (by decide)) (pass_on rfl rfl rfl rfl) (pa_cons (pv 3) (pa_cons (pe_g (PromO.call G__law_pick (hr.mono (by decide)) (passA (E := E))) (by rfl) T.g__law_pick T.k__law_pick (pa_cons (pv 0) (pa_cons (pe_lst (pa_cons (pv 1) (pa_cons (pv 4) pa_nil))) pa_nil))) pa_nil))))) (pe_lst (pa_cons pe_str (pa_cons pe_str pa_nil))) (nomark _))) pss_nil))))))), ?_⟩
  exact fn_of1 (F := F__law_spoilt_right) (envU := fun _ => List.replicate 5 .no) h (fun l_pen_here => rfl) (fun p c l_pen_here => (ss_asg (se_sl (se_lst (sa_cons (se_cl (srl_mk fun _ _ => (.cons (den_dt T.dt_Change___init___0) (.cons (den_dt T.dt_Change___init___1) (.cons (.str _ (by decide)) .nil)))) sa_nil) (sa_cons (se_cl (srl_mk fun _ _ => (.cons (.str _ (by decide)) (.cons (.bl _) .nil))) (sa_cons se_int (sa_cons (se_cl (srl_mk fun _ _ => (.cons (.int _) (.cons (.int _) .nil))) (sa_cons se_int sa_nil)) sa_nil))) (sa_cons (se_cl (srl_mk fun _ _ => (.cons (den_dt T.dt_Change___init___1) (.cons (.str _ (by decide)) .nil))) (sa_cons (se_tup (sa_cons se_int sa_nil)) sa_nil)) (sa_cons (se_nox (se_cl srl_mkR (sa_cons se_int (sa_cons (se_cl (srl_mk fun _ _ => (.cons (den_dt T.dt_Change___init___0) (.cons (den_dt T.dt_Change___init___1) (.cons (.str _ (by decide)) .nil)))) sa_nil) sa_nil)))) sa_nil))))) so_none (so_some (se_op sr_add se_int (se_cl srl_sp0 (sa_cons se_var (sa_cons se_int sa_nil)))))) (fun l_steps0 => (ss_asg (se_cl srl_sp0 (sa_cons se_var (sa_cons (se_cb srl_len (sa_cons se_var sa_nil)) sa_nil))) (fun l_at31 => (ss_asg (se_cl srl_sp0 (sa_cons se_var (sa_cons (se_lst (sa_cons se_non (sa_cons se_int (sa_cons (se_str (by decide)) (sa_cons (se_lst (sa_cons (se_cl (srl_mk fun _ _ => (.cons (den_dt T.dt_Change___init___0) (.cons (den_dt T.dt_Change___init___1) (.cons (.str _ (by decide)) .nil)))) sa_nil) sa_nil)) (sa_cons (se_nox (se_cl srl_mkR sa_nil)) (sa_cons (se_cl (srl_mk fun _ _ => (.cons (.int _) (.cons (.int _) .nil))) (sa_cons se_int sa_nil)) (sa_cons (se_tup (sa_cons (se_cl (srl_mk fun _ _ => (.cons (den_dt T.dt_Change___init___0) (.cons (den_dt T.dt_Change___init___1) (.cons (.str _ (by decide)) .nil)))) sa_nil) sa_nil)) sa_nil)))))))) sa_nil))) (fun l_odd38 => (ss_asg (se_op sr_add (se_op sr_add (se_op sr_add (se_sl se_var so_none (so_some se_var)) (se_lst (sa_cons se_var sa_nil))) (se_sl se_var (so_some se_var) so_none)) (se_op sr_mul (se_lst (sa_cons se_non sa_nil)) (se_cl srl_sp0 (sa_cons se_var (sa_cons se_int sa_nil))))) (fun l_bent63 => (ss_if (fun (w99 : Unit) => [.fz l_pen_here, .fz l_steps0, .fz l_at31, .fz l_odd38, .fz l_bent63]) (sb_tst (se_op sr_ne (se_lam fun E => (se_cm (sa_cons (se_cl srl_sp0 (sa_cons se_var (sa_cons se_int sa_nil))) (sa_cons se_var sa_nil)))) (se_lst (sa_cons (se_str (by decide)) (sa_cons se_var sa_nil))))) (ss_ret se_bl) (ss_nx (.s (.s (.s (.s (.s .nil)))))) (fun (w99 : Unit) => (ss_asg (se_cl srl_sp0 (sa_cons se_var (sa_cons (se_lst (sa_cons (se_un sr_neg se_int) (sa_cons se_int (sa_cons se_bl (sa_cons se_non (sa_cons (se_str (by decide)) (sa_cons (se_lst (sa_cons se_int sa_nil)) (sa_cons (se_powK (by decide) (by decide) (by decide)) sa_nil)))))))) sa_nil))) (fun l_odd99 => (ss_ret (se_op sr_eq (se_lam fun E => (se_cm (sa_cons se_var (sa_cons (se_cl srl_sp0 (sa_cons se_var (sa_cons (se_lst (sa_cons se_var (sa_cons se_var sa_nil))) sa_nil))) sa_nil)))) (se_lst (sa_cons (se_str (by decide)) (sa_cons (se_str (by decide)) sa_nil))))))))))))))))))
abbrev N__law_bounds_right : List Str := ["_law_pen_here", "_law_weight_here", "_law_some", "_law_most", "_law_told", "_law_one", "_law_heavy", "_law_times", "_law_steps", "_law_word"]
theorem sc__law_bounds_right : FnScope N__law_bounds_right ["_law_pen_here"] (defScope s__law_bounds_right) := ⟨rfl, rfl, rfl, by decide +kernel, rfl, by decide +kernel, by decide +kernel⟩
def F__law_bounds_right (l_pen_here : D) : Tr D :=
  fin (bd (bd (bd (.ok []) (fun ds => bd ((fun fs => ul3 (F_Change___init__ fs)) [] (ds ++ [.tup [], .tup [], .str "front"])) fun fs => .ok (.obj "Change" fs))) fun v25 => (bd (bd (bd (bd (.ok (.int 0)) fun v21 => (bd (bd (bd (bd (bd (bd (.ok l_pen_here) fun v3 => (bd (bd (.ok (.int 2)) fun v1 => (bd (.ok []) fun r2 => .ok (v1 :: r2))) fun r4 => .ok (v3 :: r4))) (ul2 F_draw)) fun v17 => (bd (bd (bd (bd (.ok l_pen_here) fun v11 => (bd (bd (bd (bd (.ok (.int 6)) fun v7 => (bd (bd (bd (.ok (.int 6)) negD) fun v5 => (bd (.ok []) fun r6 => .ok (v5 :: r6))) fun r8 => .ok (v7 :: r8))) fun ds => if ds.length ≤ sizeLine then .ok (.lst ds) else .bad) fun v9 => (bd (.ok []) fun r10 => .ok (v9 :: r10))) fun r12 => .ok (v11 :: r12))) (ul2 F__law_pick)) fun v15 => (bd (bd (.ok (.int 1)) fun v13 => (bd (.ok []) fun r14 => .ok (v13 :: r14))) fun r16 => .ok (v15 :: r16))) fun r18 => .ok (v17 :: r18))) (fun ds => bd ((fun fs => ul3 (F_Span___init__ fs)) [] ds) fun fs => .ok (.obj "Span" fs))) fun v19 => (bd (.ok []) fun r20 => .ok (v19 :: r20))) fun r22 => .ok (v21 :: r22))) (fun ds => bd ((fun fs => ul4 (F_Stretch___init__ fs)) [] (ds ++ [.str "front", .bl false])) fun fs => .ok (.obj "Stretch" fs))) fun v23 => (bd (.ok []) fun r24 => .ok (v23 :: r24))) fun r26 => .ok (v25 :: r26))) (ul2 fun l_one26 l_heavy26 => (bd (bd (.ok (.int 8)) fun v30 => (bd (nox (bd (bd (.ok l_heavy26) (fldD "Stretch" "span")) fun o29 => (isO "Span" o29 fun _ => (ul1 F_Span_halves) [o29]))) fun v31 => addD v30 v31)) fun l_weight_here27 => (bd (bd (bd (bd (bd (.ok (.int 1)) fun v41 => (bd (bd (bd (bd (bd (.ok l_one26) fun v33 => (bd (.ok []) fun r34 => .ok (v33 :: r34))) fun ds => if ds.length ≤ sizeLine then .ok (.lst ds) else .bad) fun v35 => (bd (.ok (.int 39)) fun v36 => mulD v35 v36)) fun v39 => (bd (bd (.ok .non) fun v37 => (bd (.ok []) fun r38 => .ok (v37 :: r38))) fun r40 => .ok (v39 :: r40))) fun r42 => .ok (v41 :: r42))) fun ds => if ds.length ≤ sizeLine then .ok (.tup ds) else .bad) fun v67 => (bd (bd (bd (bd (.ok (.int 1)) fun v51 => (bd (bd (bd (bd (bd (.ok l_one26) fun v43 => (bd (.ok []) fun r44 => .ok (v43 :: r44))) fun ds => if ds.length ≤ sizeLine then .ok (.lst ds) else .bad) fun v45 => (bd (.ok (.int 40)) fun v46 => mulD v45 v46)) fun v49 => (bd (bd (.ok (.str "said")) fun v47 => (bd (.ok []) fun r48 => .ok (v47 :: r48))) fun r50 => .ok (v49 :: r50))) fun r52 => .ok (v51 :: r52))) fun ds => if ds.length ≤ sizeLine then .ok (.tup ds) else .bad) fun v65 => (bd (bd (bd (bd (.ok (.int 0)) fun v61 => (bd (bd (bd (bd (bd (.ok l_one26) fun v53 => (bd (.ok []) fun r54 => .ok (v53 :: r54))) fun ds => if ds.length ≤ sizeLine then .ok (.lst ds) else .bad) fun v55 => (bd (.ok (.int 40)) fun v56 => mulD v55 v56)) fun v59 => (bd (bd (.ok (.str "said")) fun v57 => (bd (.ok []) fun r58 => .ok (v57 :: r58))) fun r60 => .ok (v59 :: r60))) fun r62 => .ok (v61 :: r62))) fun ds => if ds.length ≤ sizeLine then .ok (.tup ds) else .bad) fun v63 => (bd (.ok []) fun r64 => .ok (v63 :: r64))) fun r66 => .ok (v65 :: r66))) fun r68 => .ok (v67 :: r68))) fun ds => if ds.length ≤ sizeLine then .ok (.lst ds) else .bad) fun l_some31 => (bd (bd (.ok l_some31) fun v100 => (bd (bd (bd (bd (bd (.ok (.int 2)) fun v78 => (bd (bd (bd (bd (bd (.ok l_one26) fun v70 => (bd (.ok []) fun r71 => .ok (v70 :: r71))) fun ds => if ds.length ≤ sizeLine then .ok (.lst ds) else .bad) fun v72 => (bd (.ok (.int 39)) fun v73 => mulD v72 v73)) fun v76 => (bd (bd (.ok .non) fun v74 => (bd (.ok []) fun r75 => .ok (v74 :: r75))) fun r77 => .ok (v76 :: r77))) fun r79 => .ok (v78 :: r79))) fun ds => if ds.length ≤ sizeLine then .ok (.tup ds) else .bad) fun v98 => (bd (bd (bd (bd (.ok (.int 12)) fun v94 => (bd (bd (bd (bd (bd (.ok l_heavy26) fun v80 => (bd (.ok []) fun r81 => .ok (v80 :: r81))) fun ds => if ds.length ≤ sizeLine then .ok (.lst ds) else .bad) fun v88 => (bd (bd (.ok (.int 1)) fun v86 => (bd (bd (.ok (.int 80)) fun v84 => (bd (bd (.ok (.int 12)) fun v82 => (bd (.ok l_weight_here27) fun v83 => mulD v82 v83)) fun v85 => divD v84 v85)) fun v87 => addD v86 v87)) fun v89 => mulD v88 v89)) fun v92 => (bd (bd (.ok (.str "weight")) fun v90 => (bd (.ok []) fun r91 => .ok (v90 :: r91))) fun r93 => .ok (v92 :: r93))) fun r95 => .ok (v94 :: r95))) fun ds => if ds.length ≤ sizeLine then .ok (.tup ds) else .bad) fun v96 => (bd (.ok []) fun r97 => .ok (v96 :: r97))) fun r99 => .ok (v98 :: r99))) fun ds => if ds.length ≤ sizeLine then .ok (.lst ds) else .bad) fun v101 => addD v100 v101)) fun l_some68 => (bd (bd (.ok l_some68) fun v133 => (bd (bd (bd (bd (bd (.ok (.int 12)) fun v113 => (bd (bd (bd (bd (nox (bd (bd (.ok (.int 10)) fun v105 => (bd (bd (.ok l_one26) fun v103 => (bd (.ok []) fun r104 => .ok (v103 :: r104))) fun r106 => .ok (v105 :: r106))) fun ds => stD 1 ds fun es => bd ((fun fs => ul2 (F_Block___init__ fs)) [] es) fun fs => .ok (.obj "Block" fs))) fun v107 => (bd (.ok []) fun r108 => .ok (v107 :: r108))) fun ds => if ds.length ≤ sizeLine then .ok (.lst ds) else .bad) fun v111 => (bd (bd (.ok (.str "weight")) fun v109 => (bd (.ok []) fun r110 => .ok (v109 :: r110))) fun r112 => .ok (v111 :: r112))) fun r114 => .ok (v113 :: r114))) fun ds => if ds.length ≤ sizeLine then .ok (.tup ds) else .bad) fun v131 => (bd (bd (bd (bd (.ok (.int 3)) fun v127 => (bd (bd (bd (bd (bd (nox (bd (bd (.ok (.int 0)) fun v117 => (bd (bd (.ok l_heavy26) fun v115 => (bd (.ok []) fun r116 => .ok (v115 :: r116))) fun r118 => .ok (v117 :: r118))) fun ds => stD 1 ds fun es => bd ((fun fs => ul2 (F_Block___init__ fs)) [] es) fun fs => .ok (.obj "Block" fs))) fun v119 => (bd (.ok []) fun r120 => .ok (v119 :: r120))) fun ds => if ds.length ≤ sizeLine then .ok (.lst ds) else .bad) fun v121 => (bd (.ok (.int 19)) fun v122 => mulD v121 v122)) fun v125 => (bd (bd (.ok .non) fun v123 => (bd (.ok []) fun r124 => .ok (v123 :: r124))) fun r126 => .ok (v125 :: r126))) fun r128 => .ok (v127 :: r128))) fun ds => if ds.length ≤ sizeLine then .ok (.tup ds) else .bad) fun v129 => (bd (.ok []) fun r130 => .ok (v129 :: r130))) fun r132 => .ok (v131 :: r132))) fun ds => if ds.length ≤ sizeLine then .ok (.lst ds) else .bad) fun v134 => addD v133 v134)) fun l_some101 => (bd (bd (.ok l_some101) fun v166 => (bd (bd (bd (bd (bd (.ok (.int 12)) fun v144 => (bd (bd (bd (bd (bd (.ok l_one26) fun v136 => (bd (.ok []) fun r137 => .ok (v136 :: r137))) fun ds => if ds.length ≤ sizeLine then .ok (.lst ds) else .bad) fun v138 => (bd (.ok (.int 11)) fun v139 => mulD v138 v139)) fun v142 => (bd (bd (.ok (.str "done")) fun v140 => (bd (.ok []) fun r141 => .ok (v140 :: r141))) fun r143 => .ok (v142 :: r143))) fun r145 => .ok (v144 :: r145))) fun ds => if ds.length ≤ sizeLine then .ok (.tup ds) else .bad) fun v164 => (bd (bd (bd (bd (.ok (.int 1)) fun v160 => (bd (bd (bd (bd (nox (bd (bd (.ok (.int 1)) fun v152 => (bd (bd (nox (bd (bd (.ok (.int 1)) fun v148 => (bd (bd (.ok l_one26) fun v146 => (bd (.ok []) fun r147 => .ok (v146 :: r147))) fun r149 => .ok (v148 :: r149))) fun ds => stD 1 ds fun es => bd ((fun fs => ul2 (F_Block___init__ fs)) [] es) fun fs => .ok (.obj "Block" fs))) fun v150 => (bd (.ok []) fun r151 => .ok (v150 :: r151))) fun r153 => .ok (v152 :: r153))) fun ds => stD 1 ds fun es => bd ((fun fs => ul2 (F_Block___init__ fs)) [] es) fun fs => .ok (.obj "Block" fs))) fun v154 => (bd (.ok []) fun r155 => .ok (v154 :: r155))) fun ds => if ds.length ≤ sizeLine then .ok (.lst ds) else .bad) fun v158 => (bd (bd (.ok (.str "deep")) fun v156 => (bd (.ok []) fun r157 => .ok (v156 :: r157))) fun r159 => .ok (v158 :: r159))) fun r161 => .ok (v160 :: r161))) fun ds => if ds.length ≤ sizeLine then .ok (.tup ds) else .bad) fun v162 => (bd (.ok []) fun r163 => .ok (v162 :: r163))) fun r165 => .ok (v164 :: r165))) fun ds => if ds.length ≤ sizeLine then .ok (.lst ds) else .bad) fun v167 => addD v166 v167)) fun l_some134 => (bd (bd (.ok l_some134) fun v207 => (bd (bd (bd (bd (bd (.ok (.int 0)) fun v185 => (bd (bd (bd (bd (nox (bd (bd (.ok (.int 0)) fun v177 => (bd (bd (nox (bd (bd (.ok (.int 0)) fun v173 => (bd (bd (nox (bd (bd (.ok (.int 0)) fun v169 => (bd (.ok []) fun r170 => .ok (v169 :: r170))) fun ds => stD 1 ds fun es => bd ((fun fs => ul2 (F_Block___init__ fs)) [] es) fun fs => .ok (.obj "Block" fs))) fun v171 => (bd (.ok []) fun r172 => .ok (v171 :: r172))) fun r174 => .ok (v173 :: r174))) fun ds => stD 1 ds fun es => bd ((fun fs => ul2 (F_Block___init__ fs)) [] es) fun fs => .ok (.obj "Block" fs))) fun v175 => (bd (.ok []) fun r176 => .ok (v175 :: r176))) fun r178 => .ok (v177 :: r178))) fun ds => stD 1 ds fun es => bd ((fun fs => ul2 (F_Block___init__ fs)) [] es) fun fs => .ok (.obj "Block" fs))) fun v179 => (bd (.ok []) fun r180 => .ok (v179 :: r180))) fun ds => if ds.length ≤ sizeLine then .ok (.lst ds) else .bad) fun v183 => (bd (bd (.ok (.str "deep")) fun v181 => (bd (.ok []) fun r182 => .ok (v181 :: r182))) fun r184 => .ok (v183 :: r184))) fun r186 => .ok (v185 :: r186))) fun ds => if ds.length ≤ sizeLine then .ok (.tup ds) else .bad) fun v205 => (bd (bd (bd (bd (.ok (.int 12)) fun v201 => (bd (bd (bd (bd (nox (bd (bd (.ok (.int 1)) fun v193 => (bd (bd (nox (bd (bd (.ok (.int 1)) fun v189 => (bd (bd (.ok l_heavy26) fun v187 => (bd (.ok []) fun r188 => .ok (v187 :: r188))) fun r190 => .ok (v189 :: r190))) fun ds => stD 1 ds fun es => bd ((fun fs => ul2 (F_Block___init__ fs)) [] es) fun fs => .ok (.obj "Block" fs))) fun v191 => (bd (.ok []) fun r192 => .ok (v191 :: r192))) fun r194 => .ok (v193 :: r194))) fun ds => stD 1 ds fun es => bd ((fun fs => ul2 (F_Block___init__ fs)) [] es) fun fs => .ok (.obj "Block" fs))) fun v195 => (bd (.ok []) fun r196 => .ok (v195 :: r196))) fun ds => if ds.length ≤ sizeLine then .ok (.lst ds) else .bad) fun v199 => (bd (bd (.ok (.str "weight")) fun v197 => (bd (.ok []) fun r198 => .ok (v197 :: r198))) fun r200 => .ok (v199 :: r200))) fun r202 => .ok (v201 :: r202))) fun ds => if ds.length ≤ sizeLine then .ok (.tup ds) else .bad) fun v203 => (bd (.ok []) fun r204 => .ok (v203 :: r204))) fun r206 => .ok (v205 :: r206))) fun ds => if ds.length ≤ sizeLine then .ok (.lst ds) else .bad) fun v208 => addD v207 v208)) fun l_some167 => (bd (bd (.ok l_some167) fun v238 => (bd (bd (bd (bd (bd (.ok (.int 1)) fun v220 => (bd (bd (bd (bd (nox (bd (bd (.ok (.int 1)) fun v212 => (bd (bd (.ok l_one26) fun v210 => (bd (.ok []) fun r211 => .ok (v210 :: r211))) fun r213 => .ok (v212 :: r213))) fun ds => stD 1 ds fun es => bd ((fun fs => ul2 (F_Block___init__ fs)) [] es) fun fs => .ok (.obj "Block" fs))) fun v214 => (bd (.ok []) fun r215 => .ok (v214 :: r215))) fun ds => if ds.length ≤ sizeLine then .ok (.lst ds) else .bad) fun v218 => (bd (bd (.ok .non) fun v216 => (bd (.ok []) fun r217 => .ok (v216 :: r217))) fun r219 => .ok (v218 :: r219))) fun r221 => .ok (v220 :: r221))) fun ds => if ds.length ≤ sizeLine then .ok (.tup ds) else .bad) fun v236 => (bd (bd (bd (bd (.ok (.int 1)) fun v232 => (bd (bd (bd (bd (bd (.ok l_heavy26) fun v222 => (bd (.ok []) fun r223 => .ok (v222 :: r223))) fun ds => if ds.length ≤ sizeLine then .ok (.lst ds) else .bad) fun v226 => (bd (bd (.ok (.int 80)) fun v224 => (bd (.ok l_weight_here27) fun v225 => divD v224 v225)) fun v227 => mulD v226 v227)) fun v230 => (bd (bd (.ok .non) fun v228 => (bd (.ok []) fun r229 => .ok (v228 :: r229))) fun r231 => .ok (v230 :: r231))) fun r233 => .ok (v232 :: r233))) fun ds => if ds.length ≤ sizeLine then .ok (.tup ds) else .bad) fun v234 => (bd (.ok []) fun r235 => .ok (v234 :: r235))) fun r237 => .ok (v236 :: r237))) fun ds => if ds.length ≤ sizeLine then .ok (.lst ds) else .bad) fun v239 => addD v238 v239)) fun l_some208 => (bd (bd (.ok l_some208) fun v273 => (bd (bd (bd (bd (bd (.ok (.int 0)) fun v253 => (bd (bd (bd (bd (bd (nox (bd (bd (.ok (.int 12)) fun v243 => (bd (bd (.ok l_one26) fun v241 => (bd (.ok []) fun r242 => .ok (v241 :: r242))) fun r244 => .ok (v243 :: r244))) fun ds => stD 1 ds fun es => bd ((fun fs => ul2 (F_Block___init__ fs)) [] es) fun fs => .ok (.obj "Block" fs))) fun v245 => (bd (.ok []) fun r246 => .ok (v245 :: r246))) fun ds => if ds.length ≤ sizeLine then .ok (.lst ds) else .bad) fun v247 => (bd (.ok (.int 7)) fun v248 => mulD v247 v248)) fun v251 => (bd (bd (.ok .non) fun v249 => (bd (.ok []) fun r250 => .ok (v249 :: r250))) fun r252 => .ok (v251 :: r252))) fun r254 => .ok (v253 :: r254))) fun ds => if ds.length ≤ sizeLine then .ok (.tup ds) else .bad) fun v271 => (bd (bd (bd (bd (.ok (.int 0)) fun v267 => (bd (bd (bd (bd (bd (nox (bd (bd (.ok (.int 12)) fun v257 => (bd (bd (.ok l_one26) fun v255 => (bd (.ok []) fun r256 => .ok (v255 :: r256))) fun r258 => .ok (v257 :: r258))) fun ds => stD 1 ds fun es => bd ((fun fs => ul2 (F_Block___init__ fs)) [] es) fun fs => .ok (.obj "Block" fs))) fun v259 => (bd (.ok []) fun r260 => .ok (v259 :: r260))) fun ds => if ds.length ≤ sizeLine then .ok (.lst ds) else .bad) fun v261 => (bd (.ok (.int 11)) fun v262 => mulD v261 v262)) fun v265 => (bd (bd (.ok .non) fun v263 => (bd (.ok []) fun r264 => .ok (v263 :: r264))) fun r266 => .ok (v265 :: r266))) fun r268 => .ok (v267 :: r268))) fun ds => if ds.length ≤ sizeLine then .ok (.tup ds) else .bad) fun v269 => (bd (.ok []) fun r270 => .ok (v269 :: r270))) fun r272 => .ok (v271 :: r272))) fun ds => if ds.length ≤ sizeLine then .ok (.lst ds) else .bad) fun v274 => addD v273 v274)) fun l_some239 => (bd (.ok (.dic [(.inr "said", .int 40), (.inr "done", .int 120), (.inr "weight", .int 80), (.inr "deep", .int 3)])) fun l_most274 => (bd (bd (bd (.ok l_pen_here) fun v278 => (bd (bd (.ok l_some239) fun v276 => (bd (.ok []) fun r277 => .ok (v276 :: r277))) fun r279 => .ok (v278 :: r279))) (ul2 F__law_pick)) fun d281 => un3 d281 fun l_times279 l_steps279 l_word279 => (bd (nox (F__law_heard (bd (bd (.ok l_times279) fun v285 => (bd (bd (.ok l_steps279) fun v283 => (bd (.ok []) fun r284 => .ok (v283 :: r284))) fun r286 => .ok (v285 :: r286))) (ul2 F_Block_of)))) fun l_told281 => (bdF (W' := Unit) (bd (bd (bd (.ok l_word279) fun (v287 : D) => (bd (.ok .non) fun (v288 : D) => (match v288 with | .non => .ok (.bl (isN v287)) | _ => .bad))) asB) fun k => if k = true then (bd (bd (bd (bd (.ok l_told281) fun d => bd (opt (isi_Block d)) fun k => .ok (.bl k)) asB) fun k => if k = true then (bd (bd (nox (bd (bd (.ok l_told281) fun v290 => (bd (.ok []) fun r291 => .ok (v290 :: r291))) fun ds => stD 0 ds fun es => bd ((fun fs => ul1 (F_Program___init__ fs)) [] es) fun fs => .ok (.obj "Program" fs))) (fldD "Program" "steps")) fun v294 => (bd (bd (bd (.ok l_told281) fun v292 => (bd (.ok []) fun r293 => .ok (v292 :: r293))) fun ds => if ds.length ≤ sizeLine then .ok (.tup ds) else .bad) fun v295 => eqTD [("Change", (ul2 F_Change___eq__)), ("Stretch", (ul2 F_Stretch___eq__)), ("Block", (ul2 (F_Block___eq__ 5)))] v294 v295)) else .ok (.bl false)) fun d => .ok (.rt d)) else (.ok (.nx ()))) fun (w289 : Unit) => (bd (bd (.ok l_told281) fun v304 => (bd (bd (bd (.ok (.str "many")) fun v302 => (bd (bd (.ok l_word279) fun v300 => (bd (bd (bd (.ok l_most274) fun v296 => (bd (.ok l_word279) fun v297 => getK v296 v297)) fun v298 => (bd (.ok []) fun r299 => .ok (v298 :: r299))) fun r301 => .ok (v300 :: r301))) fun r303 => .ok (v302 :: r303))) fun ds => if ds.length ≤ sizeLine then .ok (.lst ds) else .bad) fun v305 => eqD v304 v305)) fun d => .ok (.rt d))))))))))))))))
theorem ok__law_bounds_right (F : FnA K d__law_bounds_right fd) (T : Tx K mg) (GD_Change___init___0 : PromO P w K mg base CX0 4 (md "Change" "__init__" K) [V.ref (He.dflAt (("Change", some "__init__")) 0 K), V.ref (He.dflAt (("Change", some "__init__")) 1 K), V.str "front"] (spI K Tb "Change" (fun fs => ul3 (F_Change___init__ fs)))) (GD_Stretch___init___0 : PromO P w K mg base CX0 3 (md "Stretch" "__init__" K) [V.str "front", V.bl false] (spI K Tb "Stretch" (fun fs => ul4 (F_Stretch___init__ fs)))) (G_Span___init__ : PromO P w K mg base CX0 3 (md "Span" "__init__" K) [] (spI K Tb "Span" (fun fs => ul3 (F_Span___init__ fs)))) (G__law_draw : PromO P w K mg base CX0 1 (gd "_law_draw" K) [] (spF K Tb (ul2 F_draw))) (G__law_pick : PromO P w K mg base CX0 2 (gd "_law_pick" K) [] (spF K Tb (ul2 F__law_pick))) (G_Span_halves : PromO P w K mg base CX0 1 (propG "Span" "halves" K) [] (spF K Tb (ul1 F_Span_halves))) (G_Block___init__ : FnR P w K mg base (L2.CX P w) 23 (md "Block" "__init__" K) (starSp 2 (spI K Tb "Block" (fun fs => ul2 (F_Block___init__ fs))))) (GH__law_heard : HrdP K d__law_heard ["_law_ask"]) (LD__law_bounds_right : LamD base mg K Tb d__law_bounds_right ("_law_bounds_right", none)) (G_Block_of : PromO P w K mg base (L2.CX P w) 25 (clsG "Block" "of" K) [] (spK K Tb "Block" (ul2 F_Block_of))) (G_Program___init__ : FnR P w K mg base (L2.CX P w) 27 (md "Program" "__init__" K) (starSp 1 (spI K Tb "Program" (fun fs => ul1 (F_Program___init__ fs))))) (G_Change___eq__ : PromO P w K mg base CX0 1 (md "Change" "__eq__" K) [] (spF K Tb (ul2 F_Change___eq__))) (G_Stretch___eq__ : PromO P w K mg base CX0 2 (md "Stretch" "__eq__" K) [] (spF K Tb (ul2 F_Stretch___eq__))) (G_Block___eq__ : PromO P w K mg base CX0 14 (md "Block" "__eq__" K) [] (spF K Tb (ul2 (F_Block___eq__ 5)))) : FnOk P w K mg base CX0 29 (d__law_bounds_right.adr K) fd ["_law_pen_here"] (spF K Tb (ul1 F__law_bounds_right)) := by
  obtain ⟨fdH, FH, hbH⟩ := GH__law_heard
  obtain ⟨ocH, odH, dVH, kVH, docH, pmH, anH, cdvH, ctH, oslH, rfl, lkH, hcH, _, _⟩ := FH.ex
  have ecode : fd.code = .ref (He.cT K ("_law_bounds_right", none)).1 := codeOf_fn (p := ("_law_bounds_right", none)) F
  refine fnO1 F sc__law_bounds_right (fun vs H Q E h => spF_len len1 h) (fun cdv A outer s H vs Q E hcdv hr h => ?_)
  have hcode : cdv = .ref (He.cT K ("_law_bounds_right", none)).1 := hcdv.trans ecode
  refine ⟨_, (pss_cons (ps_par (i := 5) (j := 6) (by rfl) sc__law_bounds_right.nd rfl rfl (by decide) rfl rfl (pa_cons (pe_g0 (PromO.make T.mk_Change GD_Change___init___0 (hr.mono (by decide)) (passA (E := E))) (by rfl) T.g_Change T.k_Change) (pa_cons (pe_g (PromO.make T.mk_Stretch GD_Stretch___init___0 (hr.mono (by decide)) (passA (E := E))) (by rfl) T.g_Stretch T.k_Stretch (pa_cons pe_int (pa_cons (pe_g (PromO.make T.mk_Span G_Span___init__ (hr.mono (by decide)) (passA (E := E))) (by rfl) T.g_Span T.k_Span (pa_cons (pe_g (PromO.call G__law_draw (hr.mono (by decide)) (passA (E := E))) (by rfl) T.g__law_draw T.k__law_draw (pa_cons (pv 0) (pa_cons pe_int pa_nil))) (pa_cons (pe_g (PromO.call G__law_pick (hr.mono (by decide)) (passA (E := E))) (by rfl) T.g__law_pick T.k__law_pick (pa_cons (pv 0) (pa_cons (pe_lst (pa_cons pe_int (pa_cons (pe_un un_neg pe_int) pa_nil))) pa_nil))) (pa_cons pe_int pa_nil)))) pa_nil))) pa_nil)) (by rfl))
      (pss_cons (ps_set (i := 1) sc__law_bounds_right.nd rfl (.inl rfl) (pe_op (op_addA (K := K) rfl) pe_int (pe_po (pe_f (pv 6) T.cl_Stretch T.n_Stretch_span) T.cl_Span T.pr_Span_halves G_Span_halves (hr.mono (by decide)) (passA (E := EF)))))
      (pss_cons (ps_set (i := 2) sc__law_bounds_right.nd rfl (.inl rfl) (pe_lst (pa_cons (pe_tup (pa_cons pe_int (pa_cons (pe_op op_mulA (pe_lst (pa_cons (pv 5) pa_nil)) pe_int) (pa_cons pe_non pa_nil)))) (pa_cons (pe_tup (pa_cons pe_int (pa_cons (pe_op op_mulA (pe_lst (pa_cons (pv 5) pa_nil)) pe_int) (pa_cons pe_str pa_nil)))) (pa_cons (pe_tup (pa_cons pe_int (pa_cons (pe_op op_mulA (pe_lst (pa_cons (pv 5) pa_nil)) pe_int) (pa_cons pe_str pa_nil)))) pa_nil)))))
      (pss_cons (ps_set (i := 2) sc__law_bounds_right.nd rfl (.inl rfl) (pe_op (op_addA (K := K) rfl) (pv 2) (pe_lst (pa_cons (pe_tup (pa_cons pe_int (pa_cons (pe_op op_mulA (pe_lst (pa_cons (pv 5) pa_nil)) pe_int) (pa_cons pe_non pa_nil)))) (pa_cons (pe_tup (pa_cons pe_int (pa_cons (pe_op op_mulA (pe_lst (pa_cons (pv 6) pa_nil)) (pe_op (op_addA (K := K) rfl) pe_int (pe_op op_fdivW pe_int (pe_op op_mulA pe_int (pv 1))))) (pa_cons pe_str pa_nil)))) pa_nil)))))
      (pss_cons (ps_set (i := 2) sc__law_bounds_right.nd rfl (.inl rfl) (pe_op (op_addA (K := K) rfl) (pv 2) (pe_lst (pa_cons (pe_tup (pa_cons pe_int (pa_cons (pe_lst (pa_cons (pe_mkR T.mk_Block G_Block___init__ (hr.mono (by decide)) (by rfl) T.g_Block passF (pa_cons pe_int (pa_cons (pv 5) pa_nil))) pa_nil)) (pa_cons pe_str pa_nil)))) (pa_cons (pe_tup (pa_cons pe_int (pa_cons (pe_op op_mulA (pe_lst (pa_cons (pe_mkR T.mk_Block G_Block___init__ (hr.mono (by decide)) (by rfl) T.g_Block passF (pa_cons pe_int (pa_cons (pv 6) pa_nil))) pa_nil)) pe_int) (pa_cons pe_non pa_nil)))) pa_nil)))))
      (pss_cons (ps_set (i := 2) sc__law_bounds_right.nd rfl (.inl rfl) (pe_op (op_addA (K := K) rfl) (pv 2) (pe_lst (pa_cons (pe_tup (pa_cons pe_int (pa_cons (pe_op op_mulA (pe_lst (pa_cons (pv 5) pa_nil)) pe_int) (pa_cons pe_str pa_nil)))) (pa_cons (pe_tup (pa_cons pe_int (pa_cons (pe_lst (pa_cons (pe_mkR T.mk_Block G_Block___init__ (hr.mono (by decide)) (by rfl) T.g_Block passF (pa_cons pe_int (pa_cons (pe_mkR T.mk_Block G_Block___init__ (hr.mono (by decide)) (by rfl) T.g_Block passF (pa_cons pe_int (pa_cons (pv 5) pa_nil))) pa_nil))) pa_nil)) (pa_cons pe_str pa_nil)))) pa_nil)))))
      (pss_cons (ps_set (i := 2) sc__law_bounds_right.nd rfl (.inl rfl) (pe_op (op_addA (K := K) rfl) (pv 2) (pe_lst (pa_cons (pe_tup (pa_cons pe_int (pa_cons (pe_lst (pa_cons (pe_mkR T.mk_Block G_Block___init__ (hr.mono (by decide)) (by rfl) T.g_Block passF (pa_cons pe_int (pa_cons (pe_mkR T.mk_Block G_Block___init__ (hr.mono (by decide)) (by rfl) T.g_Block passF (pa_cons pe_int (pa_cons (pe_mkR T.mk_Block G_Block___init__ (hr.mono (by decide)) (by rfl) T.g_Block passF (pa_cons pe_int pa_nil)) pa_nil))) pa_nil))) pa_nil)) (pa_cons pe_str pa_nil)))) (pa_cons (pe_tup (pa_cons pe_int (pa_cons (pe_lst (pa_cons (pe_mkR T.mk_Block G_Block___init__ (hr.mono (by decide)) (by rfl) T.g_Block passF (pa_cons pe_int (pa_cons (pe_mkR T.mk_Block G_Block___init__ (hr.mono (by decide)) (by rfl) T.g_Block passF (pa_cons pe_int (pa_cons (pv 6) pa_nil))) pa_nil))) pa_nil)) (pa_cons pe_str pa_nil)))) pa_nil)))))
      (pss_cons (ps_set (i := 2) sc__law_bounds_right.nd rfl (.inl rfl) (pe_op (op_addA (K := K) rfl) (pv 2) (pe_lst (pa_cons (pe_tup (pa_cons pe_int (pa_cons (pe_lst (pa_cons (pe_mkR T.mk_Block G_Block___init__ (hr.mono (by decide)) (by rfl) T.g_Block passF (pa_cons pe_int (pa_cons (pv 5) pa_nil))) pa_nil)) (pa_cons pe_non pa_nil)))) (pa_cons (pe_tup (pa_cons pe_int (pa_cons (pe_op op_mulA (pe_lst (pa_cons (pv 6) pa_nil)) (pe_op op_fdivW pe_int (pv 1))) (pa_cons pe_non pa_nil)))) pa_nil)))))
      (pss_cons (ps_set (i := 2) sc__law_bounds_right.nd rfl (.inl rfl) (pe_op (op_addA (K := K) rfl) (pv 2) (pe_lst (pa_cons (pe_tup (pa_cons pe_int (pa_cons (pe_op op_mulA (pe_lst (pa_cons (pe_mkR T.mk_Block G_Block___init__ (hr.mono (by decide)) (by rfl) T.g_Block passF (pa_cons pe_int (pa_cons (pv 5) pa_nil))) pa_nil)) pe_int) (pa_cons pe_non pa_nil)))) (pa_cons (pe_tup (pa_cons pe_int (pa_cons (pe_op op_mulA (pe_lst (pa_cons (pe_mkR T.mk_Block G_Block___init__ (hr.mono (by decide)) (by rfl) T.g_Block passF (pa_cons pe_int (pa_cons (pv 5) pa_nil))) pa_nil)) pe_int) (pa_cons pe_non pa_nil)))) pa_nil)))))
      (pss_cons (ps_set (i := 3) sc__law_bounds_right.nd rfl (.inl rfl) (pe_disp (pps_cons pe_str pe_int (pps_cons pe_str pe_int (pps_cons pe_str pe_int (pps_cons pe_str pe_int pps_nil)))) (by rfl) (by rfl) (by intro z; cases z) (by decide)))
      (pss_cons (ps_asg (pe_g (PromO.call G__law_pick (hr.mono (by decide)) (passA (E := E))) (by rfl) T.g__law_pick T.k__law_pick (pa_cons (pv 0) (pa_cons (pv 2) pa_nil))) (pg_tup rfl (pgs_cons (pg_name (i := 7) sc__law_bounds_right.nd rfl (.inr rfl)) (pgs_cons (pg_name (i := 8) sc__law_bounds_right.nd rfl (.inr rfl)) (pgs_cons (pg_name (i := 9) sc__law_bounds_right.nd rfl (.inl rfl)) pgs_nil)))))
      (pss_cons (ps_set (i := 4) sc__law_bounds_right.nd rfl (.inl rfl) (LamX.pe_lamcall (T := Tb) (k := 26) (by rfl) T.g__law_heard T.k__law_heard lkH hcH hbH sc__law_heard rfl (.inl rfl) (ok__law_heard (Tb := Tb) T) LD__law_bounds_right.tb hcode LD__law_bounds_right.mem LD__law_bounds_right.hu (hr.mono (by decide)) (LamX.lamS_by (by show LamX.lamSB (defScope s__law_bounds_right) _ = true; decide +kernel)) rfl (fun _ _ _ _ _ => rfl) (fun A outer s H E f c' hr => (pe_cm (pe_glob (v := .ref _) rfl T.g_Block rfl) T.cm_Block_of G_Block_of (hr.mono (by decide)) (pass_on rfl rfl rfl rfl) (pa_cons (pv 7) (pa_cons (pv 8) pa_nil))))))
      (pss_cons (ps_if (pt_cmpR or_isN (pv 9) pe_non (nomark _))
      (pss_cons (ps_ret (pe_and (pe_callB (call_isiZ (K := K) rfl) (by rfl) T.f_isinstance (by decide +kernel) (pa_cons (pv 4) (pa_cons (pe_glob (v := .ref _) rfl T.g_Block rfl) pa_nil))) (pe_one (pe_cmpR (op_eqT (K := K) (n := 27) (owns := [(gd "Change" K, spF K Tb (ul2 F_Change___eq__)), (gd "Stretch" K, spF K Tb (ul2 F_Stretch___eq__)), (gd "Block" K, spF K Tb (ul2 (F_Block___eq__ 5)))]) rfl (hr.mono (by omega)) (passA (E := E)) (fun q h => by simp only [List.mem_cons, List.mem_nil_iff, or_false] at h; rcases h with rfl | rfl | rfl; exact ownQ_of T.mt_Change___eq__ G_Change___eq__ (by omega); exact ownQ_of T.mt_Stretch___eq__ G_Stretch___eq__ (by omega); exact ownQ_of T.mt_Block___eq__ G_Block___eq__ (by omega))) (pe_f (pe_mkR T.mk_Program G_Program___init__ (hr.mono (by decide)) (by rfl) T.g_Program passF (pa_cons (pv 4) pa_nil)) T.cl_Program T.n_Program_steps) (pe_tup (pa_cons (pv 4) pa_nil)) (nomark _))))) pss_nil) pss_nil)
      (pss_cons (ps_ret (pe_cmpR (op_eqA (K := K) rfl hr.units) (pv 4) (pe_lst (pa_cons pe_str (pa_cons (pv 9) (pa_cons (pe_dget (Nat.lt_of_le_of_lt (Nat.add_le_add_left (show 1 ≤ 64 by decide) _) hr.units) (pv 3) (pv 9) (fun _ _ => rfl)) pa_nil)))) (nomark _))) pss_nil)))))))))))))), ?_⟩
  exact fn_of1 (F := F__law_bounds_right) (envU := fun _ => List.replicate 10 .no) h (fun l_pen_here => rfl) (fun p c l_pen_here => (ss_par (sa_cons (se_cl (srl_mk fun _ _ => (.cons (den_dt T.dt_Change___init___0) (.cons (den_dt T.dt_Change___init___1) (.cons (.str _ (by decide)) .nil)))) sa_nil) (sa_cons (se_cl (srl_mk fun _ _ => (.cons (.str _ (by decide)) (.cons (.bl _) .nil))) (sa_cons se_int (sa_cons (se_cl srl_mk0 (sa_cons (se_cl srl_sp0 (sa_cons se_var (sa_cons se_int sa_nil))) (sa_cons (se_cl srl_sp0 (sa_cons se_var (sa_cons (se_lst (sa_cons se_int (sa_cons (se_un sr_neg se_int) sa_nil))) sa_nil))) (sa_cons se_int sa_nil)))) sa_nil))) sa_nil)) (fun l_one26 l_heavy26 => (ss_asg (se_op sr_add se_int (se_nox (se_pr (se_un sr_fld se_var)))) (fun l_weight_here27 => (ss_asg (se_lst (sa_cons (se_tup (sa_cons se_int (sa_cons (se_op sr_mul (se_lst (sa_cons se_var sa_nil)) se_int) (sa_cons se_non sa_nil)))) (sa_cons (se_tup (sa_cons se_int (sa_cons (se_op sr_mul (se_lst (sa_cons se_var sa_nil)) se_int) (sa_cons (se_str (by decide)) sa_nil)))) (sa_cons (se_tup (sa_cons se_int (sa_cons (se_op sr_mul (se_lst (sa_cons se_var sa_nil)) se_int) (sa_cons (se_str (by decide)) sa_nil)))) sa_nil)))) (fun l_some31 => (ss_asg (se_op sr_add se_var (se_lst (sa_cons (se_tup (sa_cons se_int (sa_cons (se_op sr_mul (se_lst (sa_cons se_var sa_nil)) se_int) (sa_cons se_non sa_nil)))) (sa_cons (se_tup (sa_cons se_int (sa_cons (se_op sr_mul (se_lst (sa_cons se_var sa_nil)) (se_op sr_add se_int (se_op sr_div se_int (se_op sr_mul se_int se_var)))) (sa_cons (se_str (by decide)) sa_nil)))) sa_nil)))) (fun l_some68 => (ss_asg (se_op sr_add se_var (se_lst (sa_cons (se_tup (sa_cons se_int (sa_cons (se_lst (sa_cons (se_nox (se_cl srl_mkR (sa_cons se_int (sa_cons se_var sa_nil)))) sa_nil)) (sa_cons (se_str (by decide)) sa_nil)))) (sa_cons (se_tup (sa_cons se_int (sa_cons (se_op sr_mul (se_lst (sa_cons (se_nox (se_cl srl_mkR (sa_cons se_int (sa_cons se_var sa_nil)))) sa_nil)) se_int) (sa_cons se_non sa_nil)))) sa_nil)))) (fun l_some101 => (ss_asg (se_op sr_add se_var (se_lst (sa_cons (se_tup (sa_cons se_int (sa_cons (se_op sr_mul (se_lst (sa_cons se_var sa_nil)) se_int) (sa_cons (se_str (by decide)) sa_nil)))) (sa_cons (se_tup (sa_cons se_int (sa_cons (se_lst (sa_cons (se_nox (se_cl srl_mkR (sa_cons se_int (sa_cons (se_nox (se_cl srl_mkR (sa_cons se_int (sa_cons se_var sa_nil)))) sa_nil)))) sa_nil)) (sa_cons (se_str (by decide)) sa_nil)))) sa_nil)))) (fun l_some134 => (ss_asg (se_op sr_add se_var (se_lst (sa_cons (se_tup (sa_cons se_int (sa_cons (se_lst (sa_cons (se_nox (se_cl srl_mkR (sa_cons se_int (sa_cons (se_nox (se_cl srl_mkR (sa_cons se_int (sa_cons (se_nox (se_cl srl_mkR (sa_cons se_int sa_nil))) sa_nil)))) sa_nil)))) sa_nil)) (sa_cons (se_str (by decide)) sa_nil)))) (sa_cons (se_tup (sa_cons se_int (sa_cons (se_lst (sa_cons (se_nox (se_cl srl_mkR (sa_cons se_int (sa_cons (se_nox (se_cl srl_mkR (sa_cons se_int (sa_cons se_var sa_nil)))) sa_nil)))) sa_nil)) (sa_cons (se_str (by decide)) sa_nil)))) sa_nil)))) (fun l_some167 => (ss_asg (se_op sr_add se_var (se_lst (sa_cons (se_tup (sa_cons se_int (sa_cons (se_lst (sa_cons (se_nox (se_cl srl_mkR (sa_cons se_int (sa_cons se_var sa_nil)))) sa_nil)) (sa_cons se_non sa_nil)))) (sa_cons (se_tup (sa_cons se_int (sa_cons (se_op sr_mul (se_lst (sa_cons se_var sa_nil)) (se_op sr_div se_int se_var)) (sa_cons se_non sa_nil)))) sa_nil)))) (fun l_some208 => (ss_asg (se_op sr_add se_var (se_lst (sa_cons (se_tup (sa_cons se_int (sa_cons (se_op sr_mul (se_lst (sa_cons (se_nox (se_cl srl_mkR (sa_cons se_int (sa_cons se_var sa_nil)))) sa_nil)) se_int) (sa_cons se_non sa_nil)))) (sa_cons (se_tup (sa_cons se_int (sa_cons (se_op sr_mul (se_lst (sa_cons (se_nox (se_cl srl_mkR (sa_cons se_int (sa_cons se_var sa_nil)))) sa_nil)) se_int) (sa_cons se_non sa_nil)))) sa_nil)))) (fun l_some239 => (ss_asg (se_dispC (trs := _) [(.inr "said", .int 40), (.inr "done", .int 120), (.inr "weight", .int 80), (.inr "deep", .int 3)] [(.inr "said", .int 40), (.inr "done", .int 120), (.inr "weight", .int 80), (.inr "deep", .int 3)] rfl rfl (fun _ _ => (.cons (.int _) (.cons (.int _) (.cons (.int _) (.cons (.int _) .nil))))) (by rfl) (by decide)) (fun l_most274 => (ss_unp (se_cl srl_sp0 (sa_cons se_var (sa_cons se_var sa_nil))) (fun d281 => sx_tup3 (fun l_times279 l_steps279 l_word279 => (ss_asg (se_lam fun E => (se_cm (sa_cons se_var (sa_cons se_var sa_nil)))) (fun l_told281 => (ss_if (fun (w289 : Unit) => [.fz l_pen_here, .fz l_weight_here27, .fz l_some239, .fz l_most274, .fz l_told281, .fz l_one26, .fz l_heavy26, .fz l_times279, .fz l_steps279, .fz l_word279]) (sb_tst (se_op sr_isN se_var se_non)) (ss_ret (se_andV (se_isi (.own _) (isT_Block T) se_var) (se_op (sr_eqT (es := [("Change", (ul2 F_Change___eq__)), ("Stretch", (ul2 F_Stretch___eq__)), ("Block", (ul2 (F_Block___eq__ 5)))]) (fun q h q2 h2 => by simp only [List.mem_cons, List.mem_nil_iff, or_false] at h h2; (rcases h with rfl | rfl | rfl <;> rcases h2 with rfl | rfl | rfl); exact T.nf_Change_Change; exact T.nf_Change_Stretch; exact T.nf_Change_Block; exact T.nf_Stretch_Change; exact T.nf_Stretch_Stretch; exact T.nf_Stretch_Block; exact T.nf_Block_Change; exact T.nf_Block_Stretch; exact T.nf_Block_Block)) (se_un sr_fld (se_nox (se_cl srl_mkR (sa_cons se_var sa_nil)))) (se_tup (sa_cons se_var sa_nil))))) (ss_nx (.s (.s (.s (.s (.s (.s (.s (.s (.s (.s .nil))))))))))) (fun (w289 : Unit) => (ss_ret (se_op sr_eq se_var (se_lst (sa_cons (se_str (by decide)) (sa_cons se_var (sa_cons (se_dget se_var se_var) sa_nil))))))))))))))))))))))))))))))))))
abbrev N_law : List Str := ["_law_script", "_law_pen_here", "_law_turn", "_law_again"]
theorem sc_law : FnScope N_law ["_law_script"] (defScope s_law) := ⟨rfl, rfl, rfl, by decide +kernel, rfl, by decide +kernel, by decide +kernel⟩
def F_law : Tr D :=
  fin (bdF (bd (bd (bd (.ok (.int 5)) fun v1 => (bd (.ok []) fun r2 => .ok (v1 :: r2))) (ul1 rg1)) fun ds => forF (fun (d4 : D) (w3 : Unit) => (bdF (W' := Unit) (bd (bd (bd (bd (bd (bd (.ok .pen) fun v6 => (bd (.ok []) fun r7 => .ok (v6 :: r7))) (ul1 F__law_kept_right)) asB) fun k => .ok (!k)) fun k => if k = true then .ok true else (bd (bd (bd (bd (.ok .pen) fun v8 => (bd (.ok []) fun r9 => .ok (v8 :: r9))) (ul1 F__law_spoilt_right)) asB) fun k => .ok (!k))) fun k => if k = true then (bd (.ok (.bl false)) fun d => .ok (.rt d)) else (.ok (.nx ()))) fun (w10 : Unit) => (bdF (bd (bd (bd (.ok (.int 3)) fun v11 => (bd (.ok []) fun r12 => .ok (v11 :: r12))) (ul1 rg1)) fun ds => forF (fun (d14 : D) (w13 : Unit) => (bdF (W' := Unit) (bd (bd (bd (bd (bd (.ok .pen) fun v16 => (bd (.ok []) fun r17 => .ok (v16 :: r17))) (ul1 F__law_bounds_right)) asB) fun k => .ok (!k)) fun k => if k = true then (bd (.ok (.bl false)) fun d => .ok (.rt d)) else (.ok (.nx ()))) fun (w18 : Unit) => (.ok (.nx ())))) ds ()) fun (w13 : Unit) => (.ok (.nx ()))))) ds ()) fun (w3 : Unit) => (bd (.ok (.bl true)) fun d => .ok (.rt d)))
theorem ok_law (F : FnA K d_law fd) (T : Tx K mg) (hyes : Yes F_law) (G__law_pen : PromO P w K mg base CX0 1 (gd "_law_pen" K) [] (spPn K)) (G__law_kept_right : Prom P w K mg base CX0 32 (gd "_law_kept_right" K) [] (spF K Tb (ul1 F__law_kept_right))) (G__law_spoilt_right : PromO P w K mg base CX0 29 (gd "_law_spoilt_right" K) [] (spF K Tb (ul1 F__law_spoilt_right))) (G__law_bounds_right : PromO P w K mg base CX0 29 (gd "_law_bounds_right" K) [] (spF K Tb (ul1 F__law_bounds_right))) : FnG P w K mg base CX0 33 (d_law.adr K) fd ["_law_script"] (spLaw K Tb) := by
  refine fnG0 F sc_law (fun vs H Q E h => spLaw_len h) (fun cdv A outer s H vs Q E hr hg h => ?_)
  have hu100 := Nat.lt_of_le_of_lt (Nat.add_le_add_left (show 102 ≤ 16 * 32 + 200 by decide) _) (show _ + (16 * 32 + 200) < cLine from hr.un)
  refine ⟨_, pss_cons (ps_set (i := 1) sc_law.nd rfl (.inl rfl) (pe_g (PromO.call G__law_pen (hr.mono (by decide)) (passA (E := E))) (by rfl) T.g__law_pen T.k__law_pen (pa_cons (pv 0) pa_nil)))
      (pss_cons (ps_for PassesOwn.never rfl (pi_range1 (by rfl) T.f_range (pa_cons pe_int pa_nil)) (pg_name (i := 2) sc_law.nd rfl (.inl rfl))
      (pss_cons (ps_if (PW.pt (pw_or (pt_not (pt_val (pe_g (Prom.call G__law_kept_right (hr.mono (by decide)) hg (passA (E := EF))) (by rfl) T.g__law_kept_right T.k__law_kept_right (pa_cons (pv 1) pa_nil)))) (pw_or1 (pt_not (pt_val (pe_g (PromO.call G__law_spoilt_right (hr.mono (by decide)) (passA (E := EF))) (by rfl) T.g__law_spoilt_right T.k__law_spoilt_right (pa_cons (pv 1) pa_nil)))))))
      (pss_cons (ps_ret pe_bl) pss_nil) pss_nil)
      (pss_cons (ps_for PassesOwn.never rfl (pi_range1 (by rfl) T.f_range (pa_cons pe_int pa_nil)) (pg_name (i := 3) sc_law.nd rfl (.inl rfl))
      (pss_cons (ps_if (pt_not (pt_val (pe_g (PromO.call G__law_bounds_right (hr.mono (by decide)) (passA (E := EF))) (by rfl) T.g__law_bounds_right T.k__law_bounds_right (pa_cons (pv 1) pa_nil))))
      (pss_cons (ps_ret pe_bl) pss_nil) pss_nil)
      pss_nil))
      pss_nil)))
      (pss_cons (ps_ret pe_bl) pss_nil)), ?_⟩
  exact law_of (N := N_law) (i := 1) (n := 3) (F := F_law) (envU := fun _ => List.replicate 4 .no) hyes h rfl (by decide) (by decide) rfl (fun p c => (ss_for (fun (w3 : Unit) => [.no, .fz .pen, .no, .no]) (si_rg1 (sa_cons se_int sa_nil)) (.s (.s (.s (.s .nil)))) (fun (d4 : D) (w3 : Unit) => (sx_name (ss_if (fun (w10 : Unit) => [.no, .fz .pen, .fz d4, .no]) (sb_or (sb_not (sb_tb (se_cl srl_sp0 (sa_cons se_var sa_nil)))) (sb_not (sb_tb (se_cl srl_sp0 (sa_cons se_var sa_nil))))) (ss_ret se_bl) (ss_nx (.s (.s (.s (.s .nil))))) (fun (w10 : Unit) => (ss_for (fun (w13 : Unit) => [.no, .fz .pen, .fz d4, .no]) (si_rg1 (sa_cons se_int sa_nil)) (.s (.s (.s (.s .nil)))) (fun (d14 : D) (w13 : Unit) => (sx_name (ss_if (fun (w18 : Unit) => [.no, .fz .pen, .fz d4, .fz d14]) (sb_not (sb_tb (se_cl srl_sp0 (sa_cons se_var sa_nil)))) (ss_ret se_bl) (ss_nx (.s (.s (.s (.s .nil))))) (fun (w18 : Unit) => (ss_nx (.s (.s (.s (.n .nil))))))))) (fun (w13 : Unit) => (ss_nx (.s (.s (.n (.s .nil))))))))))) (fun (w3 : Unit) => (ss_ret se_bl))))
end
end Lw
end
section
set_option linter.all false
set_option maxRecDepth 100000
namespace Gp
open PySem
section
variable {α β γ : Type}
def Bo (P : α → Prop) : Tr α → Nat → Prop
  | .ok a, _ => P a
  | .ex _ _, _ => False
  | .bad, _ => False
  | .draw m k, n => ∃ n', n = n' + 1 ∧ 0 < m ∧ m < 10 ^ 100 ∧ ∀ d, 0 ≤ d → d < m → Bo P (k d) n'
theorem Bo.mono {P Q : α → Prop} (h : ∀ a, P a → Q a) : ∀ {m : Tr α} {n k : Nat}, n ≤ k → Bo P m n → Bo Q m k
  | .ok a, _, _, _, z => h a z
  | .ex _ _, _, _, _, z => z
  | .bad, _, _, _, z => z
  | .draw m f, n, k, l, ⟨n', e, h1, h2, h3⟩ => ⟨k - 1, by omega, h1, h2, fun d d0 d1 => Bo.mono h (m := f d) (n := n') (by omega) (h3 d d0 d1)⟩
theorem Bo.bd {P : α → Prop} {Q : β → Prop} {k : α → Tr β} {b : Nat} : ∀ {m : Tr α} {a : Nat}, Bo P m a → (∀ x, P x → Bo Q (k x) b) → Bo Q (bd m k) (a + b)
  | .ok x, a, h, hk => (hk x h).mono (fun _ z => z) (Nat.le_add_left _ _)
  | .ex _ _, _, h, _ => h
  | .bad, _, h, _ => h
  | .draw m f, a, ⟨n', e, h1, h2, h3⟩, hk => ⟨n' + b, by omega, h1, h2, fun d d0 d1 => Bo.bd (m := f d) (h3 d d0 d1) hk⟩
theorem Bo.al {P : α → Prop} {Q : α → Nat → Prop} {E : Str → Fs → Nat → Prop} (h : ∀ a b, P a → Q a b) : ∀ {m : Tr α} {n : Nat}, Bo P m n → Al Q E m n
  | .ok a, _, z => h a _ z
  | .ex _ _, _, z => z.elim
  | .bad, _, z => z
  | .draw m f, n, ⟨n', e, h1, h2, h3⟩ => ⟨n', e, h1, h2, fun d d0 d1 => Bo.al (m := f d) h (h3 d d0 d1)⟩
theorem Bo.yes {F : Tr D} {n : Nat} (hn : n ≤ 1000000) (h : Bo (fun d => d = .bl true) F n) : Yes F :=
  Bo.al (fun _ _ z => z) (h.mono (fun _ z => z) hn)
theorem bo_ok {P : α → Prop} {a : α} {n : Nat} (h : P a) : Bo P (.ok a) n := h
theorem bo_draw {P : α → Prop} {m : Int} {k : Int → Tr α} {n : Nat} (h1 : 0 < m) (h2 : m < 10 ^ 100) (h : ∀ d, 0 ≤ d → d < m → Bo P (k d) n) : Bo P (.draw m k) (n + 1) := ⟨n, rfl, h1, h2, h⟩
theorem bo_nox {P : α → Prop} : ∀ {m : Tr α} {n : Nat}, Bo P m n → Bo P (nox m) n
  | .ok a, _, z => z
  | .ex _ _, _, z => z
  | .bad, _, z => z
  | .draw m f, n, ⟨n', e, h1, h2, h3⟩ => ⟨n', e, h1, h2, fun d d0 d1 => bo_nox (m := f d) (h3 d d0 d1)⟩
variable {W L : Type}
theorem bo_for {f : D → W → Tr (Fl W W)} {P : Fl W L → Prop} {c : Nat} (I : List D → W → Prop) : ∀ (ds : List D) (w : W), I ds w →
    (∀ w, I [] w → P (.nx w)) →
    (∀ d ds w, I (d :: ds) w → Bo (fun r => match r with | .nx w' => I ds w' | .ct w' => I ds w' | .bk w' => P (.nx w') | .rt d => P (.rt d)) (f d w) c) →
    Bo P (forF f ds w) (c * ds.length)
  | [], w, h, h0, _ => h0 w h
  | d :: ds, w, h, h0, h1 => by
    rw [forF_cons, List.length_cons, Nat.mul_succ, Nat.add_comm]
    refine (h1 d ds w h).bd fun r hr => ?_
    cases r with
    | nx w' => exact bo_for I ds w' hr h0 h1
    | ct w' => exact bo_for I ds w' hr h0 h1
    | bk w' => exact Bo.mono (m := .ok _) (fun _ z => z) (Nat.zero_le _) (show Bo P (.ok (Fl.nx w')) 0 from hr)
    | rt d => exact Bo.mono (m := .ok _) (fun _ z => z) (Nat.zero_le _) (show Bo P (.ok (Fl.rt d)) 0 from hr)
theorem forF_unit {f : D → Unit → Tr (Fl Unit Unit)} : ∀ {ds : List D}, (∀ d ∈ ds, f d () = .ok (.nx ())) → forF (L := L) f ds () = .ok (.nx ())
  | [], _ => rfl
  | d :: ds, h => by
    rw [forF_cons, h d List.mem_cons_self]
    exact forF_unit fun x hx => h x (List.mem_cons_of_mem _ hx)
end
end Gp
end
section
set_option linter.all false
set_option maxRecDepth 100000
set_option maxHeartbeats 4000000
namespace Gp
open PySem
@[simp] theorem s_bd {α β : Type} (a : α) (k : α → Tr β) : bd (.ok a) k = k a := rfl
@[simp] theorem s_bdx {α β : Type} (c : Str) (fs : Fs) (k : α → Tr β) : bd (.ex c fs) k = .ex c fs := rfl
@[simp] theorem s_bdd {α β : Type} (m : Int) (f : Int → Tr α) (k : α → Tr β) : bd (.draw m f) k = .draw m fun d => bd (f d) k := rfl
@[simp] theorem s_nox {α : Type} (a : α) : nox (.ok a) = .ok a := rfl
@[simp] theorem s_bdF {W W' L : Type} (w : W') (k : W' → Tr (Fl W L)) : bdF (.ok (.nx w)) k = k w := rfl
@[simp] theorem s_bdFr {W W' L : Type} (d : D) (k : W' → Tr (Fl W L)) : bdF (.ok (.rt d)) k = .ok (.rt d) := rfl
@[simp] theorem s_finr (d : D) : fin (.ok (.rt d)) = .ok d := rfl
@[simp] theorem s_finn (w : Unit) : fin (.ok (.nx w)) = .ok .non := rfl
@[simp] theorem s_finI (fs : Fs) : finI (.ok (.nx fs)) = .ok fs := rfl
@[simp] theorem s_asB (b : Bool) : asB (.bl b) = .ok b := rfl
@[simp] theorem s_ul0 {α : Type} (k : Tr α) : ul0 k [] = k := rfl
@[simp] theorem s_ul1 {α : Type} (k : D → Tr α) (x : D) : ul1 k [x] = k x := rfl
@[simp] theorem s_ul2 {α : Type} (k : D → D → Tr α) (x y : D) : ul2 k [x, y] = k x y := rfl
@[simp] theorem s_ul3 {α : Type} (k : D → D → D → Tr α) (x y z : D) : ul3 k [x, y, z] = k x y z := rfl
@[simp] theorem s_ul4 {α : Type} (k : D → D → D → D → Tr α) (x y z w : D) : ul4 k [x, y, z, w] = k x y z w := rfl
@[simp] theorem s_isO {α : Type} (c : Str) (fs : Fs) (k : Fs → Tr α) : isO c (.obj c fs) k = k fs := by unfold isO; simp
@[simp] theorem s_lt (i j : Int) : ltD (.int i) (.int j) = .ok (.bl (decide (i < j))) := rfl
@[simp] theorem s_le (i j : Int) : leD (.int i) (.int j) = .ok (.bl (decide (i ≤ j))) := rfl
@[simp] theorem s_gt (i j : Int) : gtD (.int i) (.int j) = .ok (.bl (decide (j < i))) := rfl
@[simp] theorem s_ge (i j : Int) : geD (.int i) (.int j) = .ok (.bl (decide (j ≤ i))) := rfl
@[simp] theorem s_sub (i j : Int) : subD (.int i) (.int j) = .ok (.int (i - j)) := rfl
@[simp] theorem s_add (i j : Int) : addD (.int i) (.int j) = .ok (.int (i + j)) := rfl
@[simp] theorem s_neg (i : Int) : negD (.int i) = .ok (.int (-i)) := rfl
@[simp] theorem s_eq (i j : Int) : eqD (.int i) (.int j) = .ok (.bl (decide (i = j))) := rfl
@[simp] theorem s_eqs (i j : Str) : eqD (.str i) (.str j) = .ok (.bl (decide (i = j))) := rfl
@[simp] theorem s_eqb (i j : Bool) : eqD (.bl i) (.bl j) = .ok (.bl (decide (i = j))) := rfl
@[simp] theorem s_len (ds : List D) : lenD (.lst ds) = .ok (.int ds.length) := rfl
@[simp] theorem s_itl (ds : List D) : itD (.lst ds) = .ok ds := rfl
@[simp] theorem s_itt (ds : List D) : itD (.tup ds) = .ok ds := rfl
@[simp] theorem s_int (i : Int) : intD (.int i) = .ok (.int i) := rfl
@[simp] theorem s_intb (k : Bool) : intD (.bl k) = .ok (.int (if k = true then 1 else 0)) := rfl
@[simp] theorem s_abs (i : Int) : absD (.int i) = .ok (.int (if i < 0 then -i else i)) := rfl
@[simp] theorem s_opt {α : Type} (a : α) : opt (some a) = .ok a := rfl
@[simp] theorem s_mod2 (i : Int) : modD (.int i) (.int 2) = .ok (.int (i % 2)) := rfl
@[simp] theorem s_div2 (i : Int) : divD (.int i) (.int 2) = .ok (.int (i / 2)) := rfl
theorem s_mul {i j : Int} (h : (-(2 ^ 64) < i ∧ i < 2 ^ 64) ∨ (-(2 ^ 64) < j ∧ j < 2 ^ 64)) : mulD (.int i) (.int j) = .ok (.int (i * j)) := if_pos h
end Gp
namespace Gp
open PySem PyProof.Rows L2
theorem toPyL_ints : ∀ l : List Int, toPyL (l.map D.int) = some (l.map PyData.int)
  | [] => rfl
  | a :: r => by
    rw [List.map_cons]
    unfold toPyL
    rw [toPyL_ints r]
    rfl
theorem eqv_ints : ∀ l m : List Int, PyData.eqvAll (l.map PyData.int) (m.map PyData.int) = decide (l = m)
  | [], [] => by simp [PyData.eqvAll]
  | [], _ :: _ => by simp [PyData.eqvAll]
  | _ :: _, [] => by simp [PyData.eqvAll]
  | a :: r, b :: s => by
    simp only [List.map_cons, PyData.eqvAll, PyData.eqv, eqv_ints r s]
    by_cases h : a = b <;> by_cases h' : r = s <;> simp [h, h']
theorem canLayAll_ints : ∀ ns : List Int, PyData.canLayAll0 (ns.map PyData.int) = true
  | [] => rfl
  | _ :: r => by simp [PyData.canLayAll0, PyData.canLay0, canLayAll_ints r]
theorem depthAll_ints : ∀ ns : List Int, PyData.depthAll (ns.map PyData.int) = 0
  | [] => rfl
  | _ :: r => by simp [PyData.depthAll, PyData.depth, depthAll_ints r]
@[simp] theorem s_find (m : Int) (f : Int → Tr (Fl Unit Empty)) : fin (.draw m f) = .draw m fun d => fin (f d) := rfl
@[simp] theorem s_bdFd {W W' L : Type} (m : Int) (f : Int → Tr (Fl W' L)) (k : W' → Tr (Fl W L)) : bdF (.draw m f) k = .draw m fun d => bdF (f d) k := rfl
theorem bd_ok_id {α : Type} (m : Tr α) : bd m .ok = m := by
  induction m with
  | draw m f ih => show Tr.draw m _ = _; congr 1; funext d; exact ih d
  | _ => rfl
@[simp] theorem s_bdbd {α β γ : Type} (m : Tr α) (k : α → Tr β) (l : β → Tr γ) : bd (bd m k) l = bd m fun a => bd (k a) l := bd_bd ..
@[simp] theorem s_finbd {α : Type} (m : Tr α) (k : α → Tr (Fl Unit Empty)) : fin (bd m k) = bd m fun a => fin (k a) := bd_bd ..
@[simp] theorem s_bdFbd {α W W' L : Type} (m : Tr α) (f : α → Tr (Fl W' L)) (k : W' → Tr (Fl W L)) : bdF (bd m f) k = bd m fun a => bdF (f a) k := bd_bd ..
@[simp] theorem s_finIbd {α : Type} (m : Tr α) (k : α → Tr (Fl Fs Empty)) : finI (bd m k) = bd m fun a => finI (k a) := bd_bd ..
@[simp] theorem s_bdok {α : Type} (m : Tr α) : bd m (fun a => .ok a) = m := bd_ok_id m
@[simp] theorem s_ne (i j : Int) : neD (.int i) (.int j) = .ok (.bl (!decide (i = j))) := rfl
@[simp] theorem s_nes (i j : Str) : neD (.str i) (.str j) = .ok (.bl (!decide (i = j))) := rfl
theorem s_ixL {ds : List D} {i : Int} {d : D} (h0 : 0 ≤ i) (h : ds[i.toNat]? = some d) : ixD (.lst ds) (.int i) = .ok d := by
  have hl := (List.getElem?_eq_some_iff.mp h).1
  have e : atI ds i = some d := by
    unfold atI ixN
    rw [if_pos h0, if_pos (by omega)]
    exact h
  unfold ixD
  dsimp only
  rw [e]
theorem s_ixT {ds : List D} {i : Int} {d : D} (h0 : 0 ≤ i) (h : ds[i.toNat]? = some d) : ixD (.tup ds) (.int i) = .ok d := by
  have hl := (List.getElem?_eq_some_iff.mp h).1
  have e : atI ds i = some d := by
    unfold atI ixN
    rw [if_pos h0, if_pos (by omega)]
    exact h
  unfold ixD
  dsimp only
  rw [e]
theorem bo_pick {P : D → Prop} {ds : List D} (h0 : 0 < ds.length) (h1 : ds.length ≤ 100000) (h : ∀ d ∈ ds, P d) : Bo P (.draw ds.length fun i => ixD (.lst ds) (.int i)) 1 := by
  refine bo_draw (n := 0) (by omega) (by omega) fun d d0 d1 => ?_
  have hl : d.toNat < ds.length := by omega
  rw [s_ixL d0 (List.getElem?_eq_getElem hl)]
  exact h _ (List.getElem_mem hl)
theorem rgD_map (n : Nat) : rgD 0 n = ((List.range n).map fun i : Nat => (i : Int)).map D.int := by
  unfold rgD
  rw [List.map_map]
  apply List.map_congr_left
  intro i _
  show D.int (0 + i) = D.int i
  rw [Int.zero_add]
end Gp
end
section
set_option linter.all false
set_option maxRecDepth 100000
set_option maxHeartbeats 400000
namespace Gp
open PySem PyProof.Rows L2 Gh
structure Sh (d : D) (n b : Nat) : Prop where
  ex : ∃ e, toPy d = some e ∧ Fn e n b
structure ShL (ds : List D) (n b : Nat) : Prop where
  ex : ∃ es, toPyL ds = some es ∧ FnAll es n b
theorem Sh.le {d : D} {n b n' b' : Nat} (h : Sh d n b) (h1 : n ≤ n') (h2 : b ≤ b') : Sh d n' b' := by
  obtain ⟨e, h3, h4⟩ := h.ex
  exact ⟨e, h3, h4.le h1 h2⟩
theorem Sh.int {i : Int} (h1 : -(10 ^ 100) < i) (h2 : i < 10 ^ 100) : Sh (.int i) 0 0 := ⟨_, rfl, .int h1 h2⟩
theorem Sh.bl (b : Bool) : Sh (.bl b) 0 0 := ⟨_, rfl, .bool b⟩
theorem Sh.non : Sh .non 0 0 := ⟨_, rfl, .none⟩
theorem Sh.str {x : Str} (h0 : (PyData.str x).canLay0 = true) (h : (x.cps.toList.all fun c => decide (c < 16 ^ 8)) = true) : Sh (.str x) 0 x.cps.size := ⟨_, rfl, .str h0 h⟩
theorem ShL.nil {n b : Nat} : ShL [] n b := ⟨_, rfl, .nil⟩
theorem ShL.cons {d : D} {ds : List D} {n b c : Nat} (h : Sh d n b) (k : ShL ds n c) : ShL (d :: ds) n (b + 1 + c) := by
  obtain ⟨e, h3, h4⟩ := h.ex
  obtain ⟨es, h5, h6⟩ := k.ex
  refine ⟨e :: es, ?_, .cons h4 h6⟩
  unfold toPyL
  rw [h3, h5]
theorem ShL.each {n b : Nat} : ∀ {ds : List D}, (∀ d ∈ ds, Sh d n b) → ShL ds n ((b + 1) * ds.length)
  | [], _ => ShL.nil
  | d :: r, h => by
    have z := ShL.cons (h d List.mem_cons_self) (ShL.each fun e he => h e (List.mem_cons_of_mem _ he))
    have e : b + 1 + (b + 1) * r.length = (b + 1) * (d :: r).length := by
      rw [List.length_cons, Nat.mul_add, Nat.mul_one, Nat.add_comm]
    rw [e] at z
    exact z
theorem ShL.ints {ns : List Int} (h : ∀ n ∈ ns, -(10 ^ 100) < n ∧ n < 10 ^ 100) : ShL (ns.map D.int) 0 (1 * ns.length) := by
  have z := ShL.each (n := 0) (b := 0) (ds := ns.map D.int) fun d hd => by
    obtain ⟨n, hn, rfl⟩ := List.mem_map.mp hd
    exact Sh.int (h n hn).1 (h n hn).2
  rwa [List.length_map] at z
theorem ShL.le {ds : List D} {n b n' b' : Nat} (h : ShL ds n b) (h1 : n ≤ n') (h2 : b ≤ b') : ShL ds n' b' := by
  obtain ⟨e, h3, h4⟩ := h.ex
  exact ⟨e, h3, h4.cl, h4.sh, h4.nd, h4.ls, Nat.le_trans h4.dp h1, Nat.le_trans h4.bk h2⟩
theorem Sh.lst {ds : List D} {n b : Nat} (h : ShL ds n b) : Sh (.lst ds) (n + 1) b := by
  obtain ⟨es, h3, h4⟩ := h.ex
  refine ⟨.list es, ?_, .list h4⟩
  unfold toPy
  rw [h3]
  rfl
theorem Sh.tup {ds : List D} {n b : Nat} (h : ShL ds n b) : Sh (.tup ds) (n + 1) b := by
  obtain ⟨es, h3, h4⟩ := h.ex
  refine ⟨.tuple es, ?_, .tuple h4⟩
  unfold toPy
  rw [h3]
  rfl
theorem fn_len {e : PyData} {n b : Nat} (f : Fn e n b) (hb : b ≤ 80000) : e.shown.length ≤ sizeLine := by
  have z := PyData.shown_le_bulk 200 (by decide) e f.ls
  have := f.bk
  rw [sizeLine_eq]
  omega
theorem Sh.repr {d : D} {n b : Nat} (h : Sh d n b) (hn : n ≤ 100) (hb : b ≤ 80000) : ∃ x, reprD d = .ok (.str x) := by
  obtain ⟨e, h1, f⟩ := h.ex
  have l := fn_len f hb
  have key : ∀ {x : Str}, shwD d = some x → x.length ≤ sizeLine → ∃ x, reprD d = .ok (.str x) := fun {x} e1 e2 => ⟨x, by
    unfold reprD
    rw [e1]
    dsimp only
    rw [if_pos e2]⟩
  have big : (∀ i, d ≠ .int i) → (∀ x, d ≠ .str x) → (∀ x, d ≠ .bl x) → d ≠ .non → ∃ x, reprD d = .ok (.str x) := fun n1 n2 n3 n4 => by
    refine key (x := e.shown) ?_ l
    have g : (if e.showable = true ∧ e.hasDict = false ∧ e.depth ≤ 100 ∧ e.shown.length ≤ sizeLine then some e.shown else none) = some e.shown := if_pos ⟨f.sh, f.nd, Nat.le_trans f.dp hn, l⟩
    cases d with
    | int i => exact absurd rfl (n1 i)
    | str x => exact absurd rfl (n2 x)
    | bl x => exact absurd rfl (n3 x)
    | non => exact absurd rfl n4
    | tup ds => unfold shwD; dsimp only; rw [h1]; exact g
    | lst ds => unfold shwD; dsimp only; rw [h1]; exact g
    | obj c fs => unfold toPy at h1; cases h1
    | err c fs => unfold toPy at h1; cases h1
    | pen => unfold toPy at h1; cases h1
    | cls c => unfold toPy at h1; cases h1
    | dct => unfold toPy at h1; cases h1
    | dic ps => unfold toPy at h1; cases h1
    | dit ps => unfold toPy at h1; cases h1
  cases d with
  | non => exact ⟨_, rfl⟩
  | bl b => cases b <;> exact ⟨_, rfl⟩
  | int i =>
    unfold toPy at h1
    cases h1
    have h2 : i.natAbs.log2 < 1920 := of_decide_eq_true f.sh
    refine key (x := Str.ofString (toString i)) ?_ l
    unfold shwD
    dsimp only
    rw [if_pos h2]
  | str x =>
    unfold toPy at h1
    cases h1
    have l2 : (reprText x).length ≤ sizeLine := l
    refine key (x := reprText x) ?_ l2
    unfold shwD
    dsimp only
    rw [if_pos l2]
  | tup ds => exact big (fun _ z => by cases z) (fun _ z => by cases z) (fun _ z => by cases z) (fun z => by cases z)
  | lst ds => exact big (fun _ z => by cases z) (fun _ z => by cases z) (fun _ z => by cases z) (fun z => by cases z)
  | obj c fs => unfold toPy at h1; cases h1
  | err c fs => unfold toPy at h1; cases h1
  | pen => unfold toPy at h1; cases h1
  | cls c => unfold toPy at h1; cases h1
  | dct => unfold toPy at h1; cases h1
  | dic ps => unfold toPy at h1; cases h1
  | dit ps => unfold toPy at h1; cases h1
theorem Sh.ascii {x : Str} (h : (x.cps.toList.all fun c => decide (c < 128)) = true) (hl : x.cps.size ≤ 1000) : Sh (.str x) 0 1000 := by
  refine (Sh.str ?_ ?_).le (Nat.le_refl _) hl
  · show PyData.strOk x = true
    unfold PyData.strOk
    rw [← Array.all_toList]
    rw [List.all_eq_true] at h ⊢
    intro c hc
    have := of_decide_eq_true (h c hc)
    exact decide_eq_true (by omega)
  · rw [List.all_eq_true] at h ⊢
    intro c hc
    have := of_decide_eq_true (h c hc)
    exact decide_eq_true (by omega)
end Gp
end
section
set_option linter.all false
set_option maxRecDepth 100000
set_option maxHeartbeats 400000
namespace Gp
open PySem
theorem bo_then {α β : Type} {P : α → Prop} {Q : β → Prop} {m : Tr α} {k : α → Tr β} {a b n : Nat} (h : Bo P m a) (hk : ∀ x, P x → Bo Q (k x) b) (l : a + b ≤ n) : Bo Q (bd m k) n := (h.bd hk).mono (fun _ z => z) l
theorem bo_forU {L : Type} {f : D → Unit → Tr (Fl Unit Unit)} {c : Nat} : ∀ {ds : List D}, (∀ d ∈ ds, Bo (fun r : Fl Unit Unit => r = .nx ()) (f d ()) c) → Bo (fun r : Fl Unit L => r = .nx ()) (forF f ds ()) (c * ds.length)
  | [], _ => bo_ok rfl
  | d :: ds, h => by
    rw [forF_cons]
    refine bo_then (b := c * ds.length) (h d List.mem_cons_self) (fun r hr => ?_) (by rw [List.length_cons, Nat.mul_succ]; omega)
    subst hr
    exact bo_forU fun x hx => h x (List.mem_cons_of_mem _ hx)
end Gp
end
section
set_option Elab.async false
set_option linter.all false
set_option maxRecDepth 100000
set_option maxHeartbeats 400000
namespace Gp
open PySem
@[irreducible] def Bx {α : Type} (P : α → Prop) (m : Tr α) (n : Nat) : Prop := Bo P m n
theorem Bx.bo {α : Type} {P : α → Prop} {m : Tr α} {n : Nat} (h : Bx P m n) : Bo P m n := by
  unfold Bx at h
  exact h
theorem bx_of {α : Type} {P : α → Prop} {m : Tr α} {n : Nat} (h : Bo P m n) : Bx P m n := by
  unfold Bx
  exact h
theorem bx_draw {α : Type} {P : α → Prop} {m : Int} {k : Int → Tr α} {n : Nat} (h1 : 0 < m) (h2 : m < 10 ^ 100) (h : ∀ d, 0 ≤ d → d < m → Bx P (k d) n) : Bx P (.draw m k) (n + 1) := bx_of (bo_draw h1 h2 fun d a b => (h d a b).bo)
theorem bx_then {α β : Type} {P : α → Prop} {Q : β → Prop} {m : Tr α} {k : α → Tr β} {a b n : Nat} (h : Bo P m a) (hk : ∀ x, P x → Bx Q (k x) b) (l : a + b ≤ n) : Bx Q (bd m k) n := bx_of (bo_then h (fun x z => (hk x z).bo) l)
theorem bx_ok {α : Type} {P : α → Prop} {a : α} {n : Nat} (h : P a) : Bx P (.ok a) n := bx_of (bo_ok h)
theorem bx_loopU {f : D → Unit → Tr (Fl Unit Unit)} {ds : List D} {K : Unit → Tr (Fl Unit Empty)} {Q : D → Prop} {c b n : Nat} (h : ∀ d ∈ ds, Bx (fun r : Fl Unit Unit => r = .nx ()) (f d ()) c) (hk : Bx Q (fin (K ())) b) (l : c * ds.length + b ≤ n) : Bx Q (fin (bdF (forF f ds ()) K)) n := by
  refine bx_of ?_
  unfold fin bdF
  rw [bd_bd]
  refine bo_then (b := b) (bo_forU fun d hd => (h d hd).bo) (fun r hr => ?_) l
  subst hr
  exact hk.bo
theorem bx_thenX {α β : Type} {P : α → Prop} {Q : β → Prop} {m : Tr α} {k : α → Tr β} {a b n : Nat} (h : Bx P m a) (hk : ∀ x, P x → Bx Q (k x) b) (l : a + b ≤ n) : Bx Q (bd m k) n := bx_then h.bo hk l
end Gp
end
section
set_option Elab.async false
set_option linter.all false
set_option maxRecDepth 100000
set_option maxHeartbeats 4000000
namespace Lw
open PySem Gp
@[simp] theorem isi_int_int (i : Int) : isi_int (.int i) = some true := rfl
@[simp] theorem isi_bool_int (i : Int) : isi_bool (.int i) = some false := rfl
@[simp] theorem isi_bool_bl (i : Bool) : isi_bool (.bl i) = some true := rfl
@[simp] theorem isi_str_str (i : Str) : isi_str (.str i) = some true := rfl
theorem q_is_integer (i : Int) : F_is_integer (.int i) = .ok (.bl true) := by simp [F_is_integer]
theorem q_is_within (i a b : Int) : F_is_within (.int i) (.int a) (.int b) = .ok (.bl (decide (a ≤ i ∧ i ≤ b))) := by
  simp only [F_is_within, s_bd, s_ul1, q_is_integer, s_asB, if_true, s_le, s_finr]
  by_cases h : a ≤ i <;> simp [h]
def spanD (h m o : Int) : D := .obj "Span" [("own_parts", .tup [.int h, .int m, .int o])]
def spOk (h m o : Int) : Prop := (0 ≤ h ∧ h ≤ 8) ∧ (-60 ≤ m ∧ m ≤ 60) ∧ (-9 ≤ o ∧ o ≤ 9)
theorem q_span {h m o : Int} (k : spOk h m o) : F_Span___init__ [] (.int h) (.int m) (.int o) = .ok [("own_parts", .tup [.int h, .int m, .int o])] := by
  obtain ⟨h1, h2, h3⟩ := k
  simp [F_Span___init__, q_is_within, h1, h2, h3, sizeLine, putD]
theorem q_halves (h m o : Int) : F_Span_halves (spanD h m o) = .ok (.int h) := by simp [F_Span_halves, spanD, fldD, ixD, L2.atI, L2.ixN]
theorem q_more (h m o : Int) : F_Span_more (spanD h m o) = .ok (.int m) := by simp [F_Span_more, spanD, fldD, ixD, L2.atI, L2.ixN]
theorem q_odd (h m o : Int) : F_Span_odd (spanD h m o) = .ok (.int o) := by simp [F_Span_odd, spanD, fldD, ixD, L2.atI, L2.ixN]
@[simp] theorem isO_span {α : Type} (h m o : Int) (k : Fs → Tr α) : isO "Span" (spanD h m o) k = k [("own_parts", .tup [.int h, .int m, .int o])] := s_isO _ _ _
@[simp] theorem isi_Span_span (h m o : Int) : isi_Span (spanD h m o) = some true := rfl
def stfs (f : Int) (sp : D) (sd : Str) (late : Bool) : Fs := [("side", .str sd), ("first", .int f), ("span", sp), ("late", .bl late)]
def strD (f : Int) (sp : D) (sd : Str) (late : Bool) : D := .obj "Stretch" (stfs f sp sd late)
theorem q_stretch {f h m o : Int} {sd : Str} {late : Bool} (hf : f = 0 ∨ f = 1) (hs : sd = "front" ∨ sd = "back") : F_Stretch___init__ [] (.int f) (spanD h m o) (.str sd) (.bl late) = .ok (stfs f (spanD h m o) sd late) := by
  have e : 0 ≤ f ∧ f ≤ 1 := by omega
  have e2 : notinD (.str sd) (.tup [.str "front", .str "back"]) = .ok (.bl false) := by
    rcases hs with rfl | rfl <;> rfl
  simp [F_Stretch___init__, q_is_within, e, e2, F_Sided___init___at_Stretch, stfs]
  rfl
@[simp] theorem isO_str {α : Type} (f : Int) (sp : D) (sd : Str) (late : Bool) (k : Fs → Tr α) : isO "Stretch" (strD f sp sd late) k = k (stfs f sp sd late) := s_isO _ _ _
theorem fld_late (f : Int) (sp : D) (sd : Str) (late : Bool) : fldD "Stretch" "late" (strD f sp sd late) = .ok (.bl late) := rfl
theorem fld_first (f : Int) (sp : D) (sd : Str) (late : Bool) : fldD "Stretch" "first" (strD f sp sd late) = .ok (.int f) := rfl
theorem fld_side (f : Int) (sp : D) (sd : Str) (late : Bool) : fldD "Stretch" "side" (strD f sp sd late) = .ok (.str sd) := rfl
theorem fld_span (f : Int) (sp : D) (sd : Str) (late : Bool) : fldD "Stretch" "span" (strD f sp sd late) = .ok sp := rfl
end Lw
end
section
set_option Elab.async false
set_option linter.all false
set_option maxRecDepth 100000
set_option maxHeartbeats 400000
namespace Gp
open PySem
@[simp] theorem s_lent (ds : List D) : lenD (.tup ds) = .ok (.int ds.length) := rfl
@[simp] theorem s_tupl (ds : List D) : tupD (.lst ds) = .ok (.tup ds) := rfl
@[simp] theorem s_tupt (ds : List D) : tupD (.tup ds) = .ok (.tup ds) := rfl
theorem s_lsI (ns : List Int) (k : List Int → Tr D) : lsI (.lst (ns.map D.int)) k = k ns := by
  unfold lsI
  dsimp only
  rw [intsD_map]
theorem lc_ints {f : D → Tr (Option D)} {g : Int → Int} : ∀ {ps : List Int}, (∀ p ∈ ps, f (.int p) = .ok (some (.int (g p)))) → lcF f (ps.map D.int) = .ok ((ps.map g).map D.int)
  | [], _ => rfl
  | p :: r, h => by
    rw [List.map_cons, lcF_cons, h p List.mem_cons_self, s_bd, lc_ints fun x hx => h x (List.mem_cons_of_mem _ hx)]
    rfl
theorem lc_id {f : D → Tr (Option D)} {ps : List Int} (h : ∀ p ∈ ps, f (.int p) = .ok (some (.int p))) : lcF f (ps.map D.int) = .ok (ps.map D.int) := by
  have := lc_ints (g := id) h
  rwa [List.map_id] at this
theorem lc_bls {f : D → Tr (Option D)} {g : Int → Bool} : ∀ {ps : List Int}, (∀ p ∈ ps, f (.int p) = .ok (some (.bl (g p)))) → lcF f (ps.map D.int) = .ok ((ps.map g).map D.bl)
  | [], _ => rfl
  | p :: r, h => by
    rw [List.map_cons, lcF_cons, h p List.mem_cons_self, s_bd, lc_bls fun x hx => h x (List.mem_cons_of_mem _ hx)]
    rfl
theorem s_allB (bs : List Bool) : allD (.lst (bs.map D.bl)) = .ok (.bl (bs.all id)) := by
  unfold allD lsB
  dsimp only
  rw [blsD_map]
theorem s_lenS {ns : List Int} (h : ns.length ≤ 4000) : lenSD (.lst (ns.map D.int)) = .ok (.int (setI ns).length) := by
  unfold lenSD
  rw [s_lsI, if_pos h]
theorem s_sortS {ns : List Int} (h : ns.length < 64) : sortSD (.lst (ns.map D.int)) = .ok (.lst ((setI ns).map D.int)) := by
  unfold sortSD
  rw [s_lsI, if_pos h]
theorem s_sortD {ns : List Int} : sortD (.lst (ns.map D.int)) = .ok (.lst ((sortI ns).map D.int)) := by
  unfold sortD
  rw [s_lsI]
end Gp
namespace Lw
open PySem Gp
structure Told (f : List Int) : Prop where
  rng : ∀ x ∈ f, 0 ≤ x ∧ x ≤ 15
  asc : f.Pairwise (· < ·)
  len : f.length ≤ 8
theorem insI_id {a : Int} : ∀ {l : List Int}, (a :: l).Pairwise (· < ·) → insI a l = a :: l
  | [], _ => rfl
  | b :: r, h => by
    have := (List.pairwise_cons.mp h).1 b List.mem_cons_self
    unfold insI
    rw [if_pos (by omega)]
theorem sortI_id : ∀ {l : List Int}, l.Pairwise (· < ·) → sortI l = l
  | [], _ => rfl
  | a :: r, h => by
    show insI a (sortI r) = _
    rw [sortI_id (List.pairwise_cons.mp h).2, insI_id h]
theorem setI_id {l : List Int} (h : l.Pairwise (· < ·)) : setI l = l := ris_eq (ris_setI l) h fun x => mem_setI
theorem q_are_told {f : List Int} (h : Told f) : F_are_told (.tup (f.map D.int)) = .ok (.bl true) := by
  obtain ⟨h1, h2, h3⟩ := h
  have e0 : isi_list_tuple (.tup (f.map D.int)) = some true := rfl
  have e1 : lcF (fun d => nox (bd (F_is_within d (.int 0) (.int 15)) fun y => .ok (some y))) (f.map D.int) = .ok ((f.map fun _ => true).map D.bl) := lc_bls fun p hp => by
    rw [q_is_within, s_bd, s_nox]
    simp [h1 p hp]
  have e2 : lcF (fun d => nox (bd (intD d) fun y => .ok (some y))) (f.map D.int) = .ok (f.map D.int) := lc_id fun p _ => rfl
  have e3 : ((f.map fun _ => true).all id) = true := by simp
  have e4 : ¬ (8 : Int) < f.length := by omega
  simp only [F_are_told, s_bd, e0, s_opt, s_asB, Bool.not_true, Bool.false_eq_true, if_false, s_ul1, s_ul3, s_lent, List.length_map, s_gt, e4, decide_false, s_bdF, s_itt, e1, s_allB, e3, e2, s_lenS (show f.length ≤ 4000 by omega), setI_id h2, s_eq, decide_true, s_finr]
theorem q_ascending {f : List Int} (h : Told f) : F_ascending (.tup (f.map D.int)) = .ok (.tup (f.map D.int)) := by
  have e2 : lcF (fun d => nox (bd (intD d) fun y => .ok (some y))) (f.map D.int) = .ok (f.map D.int) := lc_id fun p _ => rfl
  simp only [F_ascending, s_bd, s_itt, s_ul1, e2, s_sortD, sortI_id h.asc, s_tupl, s_finr]
def chfs (f b : List Int) (sd : Str) : Fs := [("side", .str sd), ("front", .tup (f.map D.int)), ("back", .tup (b.map D.int))]
def chgD (f b : List Int) (sd : Str) : D := .obj "Change" (chfs f b sd)
theorem q_change {f b : List Int} {sd : Str} (hf : Told f) (hb : Told b) (hs : sd = "front" ∨ sd = "back") : F_Change___init__ [] (.tup (f.map D.int)) (.tup (b.map D.int)) (.str sd) = .ok (chfs f b sd) := by
  have e2 : notinD (.str sd) (.tup [.str "front", .str "back"]) = .ok (.bl false) := by
    rcases hs with rfl | rfl <;> rfl
  simp [F_Change___init__, q_are_told hf, q_are_told hb, q_ascending hf, q_ascending hb, e2, F_Sided___init___at_Change, chfs]
  rfl
@[simp] theorem isO_chg {α : Type} (f b : List Int) (sd : Str) (k : Fs → Tr α) : isO "Change" (chgD f b sd) k = k (chfs f b sd) := s_isO _ _ _
theorem fld_front (f b : List Int) (sd : Str) : fldD "Change" "front" (chgD f b sd) = .ok (.tup (f.map D.int)) := rfl
theorem fld_back (f b : List Int) (sd : Str) : fldD "Change" "back" (chgD f b sd) = .ok (.tup (b.map D.int)) := rfl
theorem fld_cside (f b : List Int) (sd : Str) : fldD "Change" "side" (chgD f b sd) = .ok (.str sd) := rfl
end Lw
end
section
set_option Elab.async false
set_option linter.all false
set_option maxRecDepth 100000
set_option maxHeartbeats 400000
namespace Gp
open PySem
@[simp] theorem s_bdG {W W' L : Type} (zs : List D) (w : W') (k : W' → List D → Tr (List D × Fl W L)) : bdG (.ok (zs, .nx w)) k = k w zs := rfl
@[simp] theorem s_pln {W L : Type} (yd : List D) (w : W) : pln (L := L) yd (.nx w) = .ok (yd, .nx w) := rfl
@[simp] theorem s_un2 {α : Type} (x y : D) (k : D → D → Tr α) : un2 (.tup [x, y]) k = k x y := rfl
end Gp
namespace Lw
open PySem Gp
end Lw
end
section
set_option Elab.async false
set_option linter.all false
set_option maxRecDepth 100000
set_option maxHeartbeats 400000
namespace Gp
open PySem
def sdS (bk : Bool) : Str := if bk = true then "back" else "front"
theorem sd_or (bk : Bool) : sdS bk = "front" ∨ sdS bk = "back" := by
  cases bk
  · exact .inl rfl
  · exact .inr rfl
@[simp] theorem ix_t0 (a : D) (r : List D) : ixD (.tup (a :: r)) (.int 0) = .ok a := s_ixT (by decide) rfl
@[simp] theorem ix_t1 (a b : D) (r : List D) : ixD (.tup (a :: b :: r)) (.int 1) = .ok b := s_ixT (by decide) rfl
@[simp] theorem ix_t2 (a b c : D) (r : List D) : ixD (.tup (a :: b :: c :: r)) (.int 2) = .ok c := s_ixT (by decide) rfl
@[simp] theorem ix_t3 (a b c d : D) (r : List D) : ixD (.tup (a :: b :: c :: d :: r)) (.int 3) = .ok d := s_ixT (by decide) rfl
@[simp] theorem ix_t4 (a b c d e : D) (r : List D) : ixD (.tup (a :: b :: c :: d :: e :: r)) (.int 4) = .ok e := s_ixT (by decide) rfl
theorem s_addl {a b : List D} (h : a.length + b.length ≤ sizeLine) : addD (.lst a) (.lst b) = .ok (.lst (a ++ b)) := if_pos h
theorem s_rg1 {m : Nat} (h : m ≤ 16777216) : rg1 (.int m) = .ok ((List.range' 0 m).map fun k : Nat => D.int k) := by
  unfold rg1
  dsimp only
  rw [if_pos ⟨by omega, by omega⟩, rgD_map, List.range_eq_range', List.map_map]
  rfl
theorem forF_fold {L α : Type} {f : D → D → Tr (Fl D D)} {h : α → D} {g : α → Int → Int} {I : Int → Prop} : ∀ {xs : List α} {p : Int}, (∀ x ∈ xs, ∀ p, I p → f (h x) (.int p) = .ok (.nx (.int (g x p))) ∧ I (g x p)) → I p →
    forF (L := L) f (xs.map h) (.int p) = .ok (.nx (.int (xs.foldl (fun p x => g x p) p))) ∧ I (xs.foldl (fun p x => g x p) p)
  | [], p, _, hp => ⟨rfl, hp⟩
  | x :: xs, p, hf, hp => by
    obtain ⟨e, hi⟩ := hf x List.mem_cons_self p hp
    rw [List.map_cons, forF_cons, e, s_bd, List.foldl_cons]
    exact forF_fold (fun y hy => hf y (List.mem_cons_of_mem _ hy)) hi
theorem lcF_gen {α : Type} {f : D → Tr (Option D)} {h g : α → D} : ∀ {xs : List α}, (∀ x ∈ xs, f (h x) = .ok (some (g x))) → lcF f (xs.map h) = .ok (xs.map g)
  | [], _ => rfl
  | x :: xs, hf => by
    rw [List.map_cons, lcF_cons, hf x List.mem_cons_self, s_bd, lcF_gen fun y hy => hf y (List.mem_cons_of_mem _ hy)]
    rfl
end Gp
namespace Lw
open PySem Gp
end Lw
end
section
set_option Elab.async false
set_option linter.all false
set_option maxRecDepth 100000
set_option maxHeartbeats 400000
namespace Lw
open PySem Gp
inductive Stp | chg (f b : List Int) (bk : Bool) | str (fi h m o : Int) (bk late : Bool) | blk (t : Nat) (ss : List Stp)
mutual
def Stp.dat : Stp → D
  | .chg f b bk => .tup [.str "change", .tup (f.map D.int), .tup (b.map D.int), .str (sdS bk)]
  | .str fi h m o bk late => .tup [.str "stretch", .int fi, .tup [.int h, .int m, .int o], .str (sdS bk), .bl late]
  | .blk t ss => .tup [.str "block", .int t, .lst (dats ss)]
def dats : List Stp → List D
  | [] => []
  | s :: ss => s.dat :: dats ss
end
theorem dats_map : ∀ ss : List Stp, dats ss = ss.map Stp.dat
  | [] => rfl
  | s :: ss => by rw [List.map_cons, ← dats_map ss]; rfl
def blfs (t : Int) (ss : List D) : Fs := [("steps", .tup ss), ("times", .int t)]
def blkD (t : Int) (ss : List D) : D := .obj "Block" (blfs t ss)
mutual
def Stp.obj : Stp → D
  | .chg f b bk => chgD f b (sdS bk)
  | .str fi h m o bk late => strD fi (spanD h m o) (sdS bk) late
  | .blk t ss => blkD t (objs ss)
def objs : List Stp → List D
  | [] => []
  | s :: ss => s.obj :: objs ss
end
theorem objs_map : ∀ ss : List Stp, objs ss = ss.map Stp.obj
  | [] => rfl
  | s :: ss => by rw [List.map_cons, ← objs_map ss]; rfl
def wtN (h m o : Int) : Nat := 1 + h.toNat + m.natAbs + o.natAbs
mutual
def Stp.wt : Stp → Nat
  | .chg _ _ _ => 1
  | .str _ h m o _ _ => wtN h m o
  | .blk t ss => t * wts ss
def wts : List Stp → Nat
  | [] => 0
  | s :: ss => s.wt + wts ss
end
mutual
def Stp.said : Stp → Nat
  | .chg _ _ _ => 1
  | .str _ _ _ _ _ _ => 1
  | .blk _ ss => 1 + saids ss
def saids : List Stp → Nat
  | [] => 0
  | s :: ss => s.said + saids ss
end
mutual
def Stp.done : Stp → Nat
  | .chg _ _ _ => 1
  | .str _ _ _ _ _ _ => 1
  | .blk t ss => t * dones ss
def dones : List Stp → Nat
  | [] => 0
  | s :: ss => s.done + dones ss
end
mutual
def Stp.deep : Stp → Nat
  | .chg _ _ _ => 1
  | .str _ _ _ _ _ _ => 1
  | .blk _ ss => 1 + deeps ss
def deeps : List Stp → Nat
  | [] => 0
  | s :: ss => max s.deep (deeps ss)
end
theorem deep_pos : ∀ s : Stp, 1 ≤ s.deep
  | .chg _ _ _ => Nat.le_refl _
  | .str _ _ _ _ _ _ => Nat.le_refl _
  | .blk _ _ => Nat.le_add_right _ _
theorem said_pos : ∀ s : Stp, 1 ≤ s.said
  | .chg _ _ _ => Nat.le_refl _
  | .str _ _ _ _ _ _ => Nat.le_refl _
  | .blk _ _ => Nat.le_add_right _ _
theorem saids_len : ∀ ss : List Stp, ss.length ≤ saids ss
  | [] => Nat.le_refl _
  | s :: ss => by
    have := saids_len ss
    have := said_pos s
    show ss.length + 1 ≤ s.said + saids ss
    omega
theorem deeps_mem : ∀ {ss : List Stp} {s : Stp}, s ∈ ss → s.deep ≤ deeps ss
  | x :: ss, s, h => by
    show s.deep ≤ max x.deep (deeps ss)
    rcases List.mem_cons.mp h with rfl | h
    · exact Nat.le_max_left _ _
    · exact Nat.le_trans (deeps_mem h) (Nat.le_max_right _ _)
theorem deeps_le {k : Nat} : ∀ {ss : List Stp}, (∀ s ∈ ss, s.deep ≤ k) → deeps ss ≤ k
  | [], _ => Nat.zero_le _
  | x :: ss, h => Nat.max_le.mpr ⟨h x List.mem_cons_self, deeps_le fun s hs => h s (List.mem_cons_of_mem _ hs)⟩
theorem wts_app : ∀ (a b : List Stp), wts (a ++ b) = wts a + wts b
  | [], b => (Nat.zero_add _).symm
  | s :: a, b => by
    show s.wt + wts (a ++ b) = (s.wt + wts a) + wts b
    rw [wts_app a b]; omega
theorem saids_app : ∀ (a b : List Stp), saids (a ++ b) = saids a + saids b
  | [], b => (Nat.zero_add _).symm
  | s :: a, b => by
    show s.said + saids (a ++ b) = (s.said + saids a) + saids b
    rw [saids_app a b]; omega
theorem deeps_app : ∀ (a b : List Stp), deeps (a ++ b) = max (deeps a) (deeps b)
  | [], b => (Nat.zero_max _).symm
  | s :: a, b => by
    show max s.deep (deeps (a ++ b)) = max (max s.deep (deeps a)) (deeps b)
    rw [deeps_app a b, Nat.max_assoc]
inductive Fit : Stp → Prop
  | chg {f b : List Int} {bk : Bool} : Told f → Told b → Fit (.chg f b bk)
  | str {fi h m o : Int} {bk late : Bool} : (fi = 0 ∨ fi = 1) → spOk h m o → Fit (.str fi h m o bk late)
  | blk {t : Nat} {ss : List Stp} : t ≤ 12 → (∀ s ∈ ss, Fit s) → 1 + saids ss ≤ 40 → t * dones ss ≤ 120 → t * wts ss ≤ 80 → 1 + deeps ss ≤ 3 → Fit (.blk t ss)
theorem Fit.t {t : Nat} {ss : List Stp} : Fit (.blk t ss) → t ≤ 12 | .blk h _ _ _ _ _ => h
theorem Fit.ss {t : Nat} {ss : List Stp} : Fit (.blk t ss) → ∀ s ∈ ss, Fit s | .blk _ h _ _ _ _ => h
theorem Fit.len {t : Nat} {ss : List Stp} (h : Fit (.blk t ss)) : ss.length ≤ 39 := by
  cases h with
  | blk h1 h2 h3 h4 h5 h6 =>
    have := saids_len ss
    omega
end Lw
end
section
set_option Elab.async false
set_option linter.all false
set_option maxRecDepth 100000
set_option maxHeartbeats 400000
namespace Gp
open PySem
theorem s_sumI (ns : List Int) : sumD (.lst (ns.map D.int)) = .ok (.int ns.sum) := s_lsI _ _
theorem s_sumN {α : Type} {f : α → Nat} {F : List α → Nat} (h0 : F [] = 0) (h1 : ∀ x xs, F (x :: xs) = f x + F xs) (xs : List α) : sumD (.lst (xs.map fun x => D.int (f x))) = .ok (.int (F xs)) := by
  have e : (xs.map fun x => D.int (f x)) = (xs.map fun x => ((f x : Nat) : Int)).map D.int := by rw [List.map_map]; rfl
  have e2 : (xs.map fun x => ((f x : Nat) : Int)).sum = (F xs : Nat) := by
    induction xs with
    | nil => rw [h0]; rfl
    | cons x xs ih => rw [List.map_cons, List.sum_cons, ih (by rw [List.map_map]; rfl), h1]; omega
  rw [e, s_sumI, e2]
@[simp] theorem s_plI (i : Int) : plD (.int i) = .ok (.int i) := rfl
@[simp] theorem s_seql (l : List D) : seqD (.lst l) = .ok l := rfl
@[simp] theorem s_seqt (l : List D) : seqD (.tup l) = .ok l := rfl
theorem szS {k : Nat} (h : k ≤ 1000) : k ≤ sizeLine := by simp only [sizeLine]; omega
theorem s_stD {α : Type} {n : Nat} {a b : List D} (k : List D → Tr α) (h1 : a.length = n) (h2 : b.length ≤ 1000) (hn : n ≤ 1000) : stD n (a ++ b) k = k (a ++ [.tup b]) := by
  subst h1
  unfold stD
  rw [if_pos ⟨by rw [List.length_append]; omega, by rw [List.length_append]; simp only [sizeLine]; omega⟩, List.take_left, List.drop_left]
theorem mul_t {t : Nat} {x : Int} (ht : t ≤ 12) : mulD (.int t) (.int x) = .ok (.int (t * x)) := s_mul (.inl (by omega))
end Gp
namespace Lw
open PySem Gp
@[simp] theorem isO_blk {α : Type} (t : Int) (ss : List D) (k : Fs → Tr α) : isO "Block" (blkD t ss) k = k (blfs t ss) := s_isO _ _ _
theorem fld_bsteps (t : Int) (ss : List D) : fldD "Block" "steps" (blkD t ss) = .ok (.tup ss) := rfl
theorem fld_btimes (t : Int) (ss : List D) : fldD "Block" "times" (blkD t ss) = .ok (.int t) := rfl
@[simp] theorem cC_chg (f b : List Int) (sd : Str) : isC "Change" (chgD f b sd) = true := rfl
@[simp] theorem cC_str (f : Int) (sp : D) (sd : Str) (l : Bool) : isC "Change" (strD f sp sd l) = false := rfl
@[simp] theorem cS_str (f : Int) (sp : D) (sd : Str) (l : Bool) : isC "Stretch" (strD f sp sd l) = true := rfl
@[simp] theorem cC_blk (t : Int) (ss : List D) : isC "Change" (blkD t ss) = false := rfl
@[simp] theorem cS_blk (t : Int) (ss : List D) : isC "Stretch" (blkD t ss) = false := rfl
theorem obj_chg (f b : List Int) (bk : Bool) : (Stp.chg f b bk).obj = chgD f b (sdS bk) := rfl
theorem obj_str (fi h m o : Int) (bk late : Bool) : (Stp.str fi h m o bk late).obj = strD fi (spanD h m o) (sdS bk) late := rfl
theorem obj_blk (t : Nat) (ss : List Stp) : (Stp.blk t ss).obj = blkD t (ss.map Stp.obj) := by rw [← objs_map]; rfl
theorem dat_blk (t : Nat) (ss : List Stp) : (Stp.blk t ss).dat = .tup [.str "block", .int t, .lst (ss.map Stp.dat)] := by rw [← dats_map]; rfl
@[simp] theorem lk_to_chg (f b : List Int) (sd : Str) : (chfs f b sd).lookup ("to" : Str) = none := rfl
@[simp] theorem lk_to_str (f : Int) (sp : D) (sd : Str) (l : Bool) : (stfs f sp sd l).lookup ("to" : Str) = none := rfl
@[simp] theorem lk_to_blk (t : Int) (ss : List D) : (blfs t ss).lookup ("to" : Str) = none := rfl
@[simp] theorem lk_cs_chg (f b : List Int) (sd : Str) : (chfs f b sd).lookup ("changes" : Str) = none := rfl
@[simp] theorem lk_cs_str (f : Int) (sp : D) (sd : Str) (l : Bool) : (stfs f sp sd l).lookup ("changes" : Str) = none := rfl
@[simp] theorem lk_cs_blk (t : Int) (ss : List D) : (blfs t ss).lookup ("changes" : Str) = none := rfl
theorem deep_in {t : Nat} {ss : List Stp} {r : Nat} (h : (Stp.blk t ss).deep ≤ r + 1) {s : Stp} (hs : s ∈ ss) : s.deep ≤ r := by
  have := deeps_mem hs
  have : 1 + deeps ss ≤ r + 1 := h
  omega
theorem q_sweight {f h m o : Int} {sd : Str} {late : Bool} (hs : spOk h m o) : F_Stretch_weight (strD f (spanD h m o) sd late) = .ok (.int (wtN h m o)) := by
  unfold spOk at hs
  have e : ((wtN h m o : Nat) : Int) = 1 + h + (if m < 0 then -m else m) + (if o < 0 then -o else o) := by
    unfold wtN
    split <;> split <;> omega
  rw [e]
  simp [F_Stretch_weight, fld_span, q_halves, q_more, q_odd]
theorem q_bsaid : ∀ (r : Nat) {t : Nat} {ss : List Stp}, (Stp.blk t ss).deep ≤ r → F_Block_said r (blkD t (ss.map Stp.obj)) = .ok (.int ((Stp.blk t ss).said : Nat))
  | 0, t, ss, h => by have := deep_pos (.blk t ss); omega
  | r + 1, t, ss, h => by
    unfold F_Block_said
    simp only [s_bd, fld_bsteps, s_itt, s_ul1]
    rw [lcF_gen (h := Stp.obj) (g := fun s => .int (s.said : Nat)) fun s hs => ?_]
    · simp only [s_bd, s_ul1, s_sumN (f := Stp.said) (F := saids) rfl (fun _ _ => rfl), s_add, s_finr]
      show Tr.ok (D.int (1 + (saids ss : Nat))) = .ok (.int ((1 + saids ss : Nat) : Int))
      rw [Int.natCast_add]; rfl
    · cases s with
      | chg f b bk => simp [obj_chg, F_Step_said_at_Change, Stp.said]
      | str fi h m o bk late => simp [obj_str, F_Step_said_at_Stretch, Stp.said]
      | blk t xs => simp [obj_blk, q_bsaid r (deep_in h hs)]
theorem q_bdone : ∀ (r : Nat) {t : Nat} {ss : List Stp}, (Stp.blk t ss).deep ≤ r → Fit (.blk t ss) → F_Block_done r (blkD t (ss.map Stp.obj)) = .ok (.int ((Stp.blk t ss).done : Nat))
  | 0, t, ss, h, k => by have := deep_pos (.blk t ss); omega
  | r + 1, t, ss, h, k => by
    unfold F_Block_done
    simp only [s_bd, fld_bsteps, fld_btimes, s_itt, s_ul1]
    rw [lcF_gen (h := Stp.obj) (g := fun s => .int (s.done : Nat)) fun s hs => ?_]
    · have em := mul_t (x := ((dones ss : Nat) : Int)) k.t
      simp only [s_bd, s_ul1]
      rw [s_sumN (f := Stp.done) (F := dones) rfl (fun _ _ => rfl), s_bd, em]
      show Tr.ok (D.int ((t : Int) * (dones ss : Nat))) = .ok (.int ((t * dones ss : Nat) : Int))
      rw [Int.natCast_mul]
    · cases s with
      | chg f b bk => simp [obj_chg, F_Step_done_at_Change, Stp.done]
      | str fi h m o bk late => simp [obj_str, F_Step_done_at_Stretch, Stp.done]
      | blk t xs => simp [obj_blk, q_bdone r (deep_in h hs) (k.ss _ hs)]
theorem q_bweight : ∀ (r : Nat) {t : Nat} {ss : List Stp}, (Stp.blk t ss).deep ≤ r → Fit (.blk t ss) → F_Block_weight r (blkD t (ss.map Stp.obj)) = .ok (.int ((Stp.blk t ss).wt : Nat))
  | 0, t, ss, h, k => by have := deep_pos (.blk t ss); omega
  | r + 1, t, ss, h, k => by
    unfold F_Block_weight
    simp only [s_bd, fld_bsteps, fld_btimes, s_itt, s_ul1]
    rw [lcF_gen (h := Stp.obj) (g := fun s => .int (s.wt : Nat)) fun s hs => ?_]
    · have em := mul_t (x := ((wts ss : Nat) : Int)) k.t
      simp only [s_bd, s_ul1]
      rw [s_sumN (f := Stp.wt) (F := wts) rfl (fun _ _ => rfl), s_bd, em]
      show Tr.ok (D.int ((t : Int) * (wts ss : Nat))) = .ok (.int ((t * wts ss : Nat) : Int))
      rw [Int.natCast_mul]
    · have hk := k.ss _ hs
      cases s with
      | chg f b bk => simp [obj_chg, F_Change_weight, Stp.wt]
      | str fi h m o bk late =>
        cases hk with
        | str _ h2 => simp [obj_str, q_sweight h2, Stp.wt]
      | blk t xs => simp [obj_blk, q_bweight r (deep_in h hs) hk]
theorem max_fold : ∀ (ss : List Stp) (w : Int), 0 ≤ w → ss.foldl (fun (w : Int) s => if w < (s.deep : Nat) then ((s.deep : Nat) : Int) else w) w = max w (deeps ss : Nat)
  | [], w, h => by show w = max w 0; omega
  | s :: ss, w, h => by
    have e : ((deeps (s :: ss) : Nat) : Int) = max ((s.deep : Nat) : Int) (deeps ss : Nat) := by show ((max s.deep (deeps ss) : Nat) : Int) = _; omega
    rw [List.foldl_cons, e]
    rw [max_fold ss _ (by split <;> omega)]
    split <;> omega
theorem q_deepest {rB : D → Tr D} {ss : List Stp} (hB : ∀ t xs, Stp.blk t xs ∈ ss → rB (blkD t (xs.map Stp.obj)) = .ok (.int ((Stp.blk t xs).deep : Nat))) : F_deepest rB (.tup (ss.map Stp.obj)) = .ok (.int (deeps ss : Nat)) := by
  unfold F_deepest
  simp only [s_bd, s_itt]
  rw [(forF_fold (h := Stp.obj) (g := fun s w => if w < (s.deep : Nat) then ((s.deep : Nat) : Int) else w) (I := fun _ => True) (fun s hs w _ => ?_) trivial).1]
  · rw [max_fold _ _ (Int.le_refl 0)]
    have : max (0 : Int) (deeps ss : Nat) = (deeps ss : Nat) := by omega
    rw [this]
    rfl
  · refine ⟨?_, trivial⟩
    cases s with
    | chg f b bk => by_cases q : w < 1 <;> simp [obj_chg, F_Step_deep_at_Change, Stp.deep, q]
    | str fi h m o bk late => by_cases q : w < 1 <;> simp [obj_str, F_Step_deep_at_Stretch, Stp.deep, q]
    | blk t xs => by_cases q : w < ((Stp.blk t xs).deep : Nat) <;> simp [obj_blk, hB t xs hs, q]
theorem q_bdeep : ∀ (r : Nat) {t : Nat} {ss : List Stp}, (Stp.blk t ss).deep ≤ r → F_Block_deep r (blkD t (ss.map Stp.obj)) = .ok (.int ((Stp.blk t ss).deep : Nat))
  | 0, t, ss, h => by have := deep_pos (.blk t ss); omega
  | r + 1, t, ss, h => by
    unfold F_Block_deep
    simp only [s_bd, fld_bsteps, s_ul1, q_deepest (rB := F_Block_deep r) (ss := ss) (fun t' xs hs => q_bdeep r (deep_in h hs)), s_add, s_finr]
    show Tr.ok (D.int (1 + (deeps ss : Nat))) = .ok (.int ((1 + deeps ss : Nat) : Int))
    rw [Int.natCast_add]; rfl
theorem st_stp (s : Stp) : isi_Step s.obj = some true := by cases s <;> rfl
theorem q_need_steps {ds : List D} (h : ∀ d ∈ ds, isi_Step d = some true) : F_need_steps (.tup ds) = .ok .non := by
  have e : enD (.tup ds) = .ok (ds.mapIdx fun i d => .tup [.int i, d]) := rfl
  unfold F_need_steps
  simp only [s_bd, s_ul1, e]
  rw [forF_unit fun d hd => ?_]
  · rfl
  · obtain ⟨i, hi, rfl⟩ := List.mem_mapIdx.mp hd
    simp only [s_un2, s_bd, h _ (List.getElem_mem hi), s_opt, s_asB, Bool.not_true, Bool.false_eq_true, if_false, s_bdF]
theorem need_objs (ss : List Stp) : F_need_steps (.tup (ss.map Stp.obj)) = .ok .non := q_need_steps fun d hd => by
  obtain ⟨s, _, rfl⟩ := List.mem_map.mp hd
  exact st_stp s
theorem q_need_size {a b c d : Int} (h1 : a ≤ 40) (h2 : b ≤ 120) (h3 : c ≤ 80) (h4 : d ≤ 3) : F_need_size (.int a) (.int b) (.int c) (.int d) = .ok .non := by
  have e1 : ¬ 40 < a := by omega
  have e2 : ¬ 120 < b := by omega
  have e3 : ¬ 80 < c := by omega
  have e4 : ¬ 3 < d := by omega
  simp [F_need_size, e1, e2, e3, e4]
theorem Fit.sizes {t : Nat} {ss : List Stp} (k : Fit (.blk t ss)) : (Stp.blk t ss).said ≤ 40 ∧ (Stp.blk t ss).done ≤ 120 ∧ (Stp.blk t ss).wt ≤ 80 ∧ (Stp.blk t ss).deep ≤ 3 := by
  cases k with
  | blk _ _ a b c d => exact ⟨a, b, c, d⟩
theorem q_block {t : Nat} {ss : List Stp} (k : Fit (.blk t ss)) : F_Block___init__ [] (.int t) (.tup (ss.map Stp.obj)) = .ok (blfs t (ss.map Stp.obj)) := by
  obtain ⟨a1, a2, a3, a4⟩ := k.sizes
  have hd : (Stp.blk t ss).deep ≤ 5 := by omega
  have e1 : (0 : Int) ≤ t ∧ (t : Int) ≤ 12 := by have := k.t; omega
  have e3 : (D.obj "Block" (blfs t (ss.map Stp.obj))) = blkD t (ss.map Stp.obj) := rfl
  have e4 : putD "times" (.int t) (putD "steps" (.tup (ss.map Stp.obj)) []) = blfs t (ss.map Stp.obj) := rfl
  have l1 : ([] : Fs).length < 900 := by decide
  have l2 : (putD "steps" (.tup (ss.map Stp.obj)) []).length < 900 := by show 1 < 900; decide
  simp only [F_Block___init__, s_bd, s_ul3, q_is_within, e1, and_self, decide_true, s_asB, Bool.not_true, Bool.false_eq_true, if_false, s_bdF, s_ul1, need_objs, F_Holder___init___at_Block, l1, if_true, s_finI, l2, e3, q_bsaid 5 hd, q_bdone 5 hd k, q_bweight 5 hd k, q_bdeep 5 hd, s_nox, s_plI, s_ul4,
    q_need_size (show (((Stp.blk t ss).said : Nat) : Int) ≤ 40 by omega) (show (((Stp.blk t ss).done : Nat) : Int) ≤ 120 by omega) (show (((Stp.blk t ss).wt : Nat) : Int) ≤ 80 by omega) (show (((Stp.blk t ss).deep : Nat) : Int) ≤ 3 by omega), e4]
theorem q_block_st {t : Nat} {ss : List Stp} (k : Fit (.blk t ss)) : (stD 1 (D.int t :: ss.map Stp.obj) fun es => bd ((fun fs => ul2 (F_Block___init__ fs)) [] es) fun fs => Tr.ok (D.obj "Block" fs)) = .ok (Stp.blk t ss).obj := by
  have h := k.len
  have e : ∀ {α : Type} (k : List D → Tr α), stD 1 (D.int t :: ss.map Stp.obj) k = k [.int t, .tup (ss.map Stp.obj)] := fun k => s_stD (a := [.int t]) k rfl (by rw [List.length_map]; omega) (by decide)
  rw [e]
  simp only [s_ul2, q_block k, s_bd]
  rw [obj_blk]
  rfl
theorem q_block_of {t : Nat} {ss : List Stp} (k : Fit (.blk t ss)) : F_Block_of (.int t) (.lst (ss.map Stp.obj)) = .ok (Stp.blk t ss).obj := by
  simp only [F_Block_of, s_bd, s_seql, List.append_nil, q_block_st k, s_finr]
end Lw
end
section
set_option Elab.async false
set_option linter.all false
set_option maxRecDepth 100000
set_option maxHeartbeats 400000
namespace Gp
open PySem PyProof.Rows L2
theorem shaped_intsT (ns : List Int) : SeqAt.shaped (.tuple (ns.map PyData.int)) = true := by
  simp [SeqAt.shaped, PyData.canLay0, PyData.depth, canLayAll_ints, depthAll_ints]
theorem s_eqt_ints (l m : List Int) : eqD (.tup (l.map D.int)) (.tup (m.map D.int)) = .ok (.bl (decide (l = m))) := by
  have e : ∀ l : List Int, toPy (.tup (l.map D.int)) = some (.tuple (l.map PyData.int)) := fun l => by
    unfold toPy
    rw [toPyL_ints]
    rfl
  have e2 : eqB (.tup (l.map D.int)) (.tup (m.map D.int)) = .ok (decide (l = m)) := by
    unfold eqB
    rw [show eqS (.tup (l.map D.int)) (.tup (m.map D.int)) = none from rfl]
    dsimp only
    rw [e l, e m]
    dsimp only
    rw [if_pos ⟨shaped_intsT l, shaped_intsT m⟩]
    unfold PyData.eqv
    rw [eqv_ints]
  unfold eqD
  rw [e2]
  rfl
@[simp] theorem s_neb (i j : Bool) : neD (.bl i) (.bl j) = .ok (.bl (!decide (i = j))) := rfl
theorem differL_ints : ∀ (l m : List Int), differL (l.map D.int) (m.map D.int) = !decide (l = m)
  | [], [] => rfl
  | [], _ :: _ => rfl
  | _ :: _, [] => rfl
  | a :: l, b :: m => by
    show ((a != b) || differL (l.map D.int) (m.map D.int)) = _
    rw [differL_ints l m]
    by_cases h : a = b <;> by_cases h' : l = m <;> simp [h, h', bne]
end Gp
namespace Lw
open PySem Gp
mutual
def Stp.beq : Stp → Stp → Bool
  | .chg f b k, .chg f' b' k' => decide (f = f') && (decide (b = b') && decide (k = k'))
  | .str fi h m o k l, .str fi' h' m' o' k' l' => decide (k = k') && (decide (l = l') && (decide (fi = fi') && decide ([h, m, o] = [h', m', o'])))
  | .blk t ss, .blk t' ss' => decide (t = t') && beqs ss ss'
  | _, _ => false
def beqs : List Stp → List Stp → Bool
  | [], [] => true
  | s :: ss, s' :: ss' => s.beq s' && beqs ss ss'
  | _, _ => false
end
mutual
theorem beq_refl : ∀ s : Stp, s.beq s = true
  | .chg f b k => by simp [Stp.beq]
  | .str .. => by simp [Stp.beq]
  | .blk t ss => by simp [Stp.beq, beqs_refl ss]
theorem beqs_refl : ∀ ss : List Stp, beqs ss ss = true
  | [] => rfl
  | s :: ss => by simp [beqs, beq_refl s, beqs_refl ss]
end
mutual
theorem beq_eq : ∀ {s s' : Stp}, s.beq s' = true → s = s'
  | .chg f b k, .chg f' b' k', h => by
    simp only [Stp.beq, Bool.and_eq_true, decide_eq_true_eq] at h
    obtain ⟨rfl, rfl, rfl⟩ := h
    rfl
  | .str fi h m o k l, .str fi' h' m' o' k' l', z => by
    simp only [Stp.beq, Bool.and_eq_true, decide_eq_true_eq] at z
    obtain ⟨rfl, rfl, rfl, e⟩ := z
    injection e with e1 e; injection e with e2 e; injection e with e3 e
    subst e1 e2 e3
    rfl
  | .blk t ss, .blk t' ss', h => by
    simp only [Stp.beq, Bool.and_eq_true, decide_eq_true_eq] at h
    obtain ⟨rfl, h⟩ := h
    rw [beqs_eq h]
  | .chg .., .str .., h => by simp [Stp.beq] at h
  | .chg .., .blk .., h => by simp [Stp.beq] at h
  | .str .., .chg .., h => by simp [Stp.beq] at h
  | .str .., .blk .., h => by simp [Stp.beq] at h
  | .blk .., .chg .., h => by simp [Stp.beq] at h
  | .blk .., .str .., h => by simp [Stp.beq] at h
theorem beqs_eq : ∀ {ss ss' : List Stp}, beqs ss ss' = true → ss = ss'
  | [], [], _ => rfl
  | s :: ss, s' :: ss', h => by
    simp only [beqs, Bool.and_eq_true] at h
    rw [beq_eq h.1, beqs_eq h.2]
  | [], _ :: _, h => by simp [beqs] at h
  | _ :: _, [], h => by simp [beqs] at h
end
theorem differ_sd (k k' : Bool) : (sdS k != sdS k') = !decide (k = k') := by cases k <;> cases k' <;> rfl
mutual
theorem differ_obj : ∀ s s' : Stp, differ s.obj s'.obj = !s.beq s'
  | .chg f b k, .chg f' b' k' => by
    show (("side" != "side" : Bool) || ((sdS k != sdS k') || (("front" != "front" : Bool) || (differL _ _ || (("back" != "back" : Bool) || (differL _ _ || false)))))) = _
    rw [differL_ints, differL_ints, differ_sd]
    simp only [Stp.beq]
    by_cases h1 : f = f' <;> by_cases h2 : b = b' <;> by_cases h3 : k = k' <;> simp [h1, h2, h3]
  | .str fi h m o k l, .str fi' h' m' o' k' l' => by
    have e : differ (spanD h m o) (spanD h' m' o') = !decide ([h, m, o] = [h', m', o']) := by
      show (("own_parts" != "own_parts" : Bool) || (differL ([h, m, o].map D.int) ([h', m', o'].map D.int) || false)) = _
      rw [differL_ints]
      simp
    show (("side" != "side" : Bool) || ((sdS k != sdS k') || (("first" != "first" : Bool) || ((fi != fi') || (("span" != "span" : Bool) || (differ _ _ || (("late" != "late" : Bool) || ((l != l') || false)))))))) = _
    rw [e, differ_sd]
    simp only [Stp.beq]
    generalize decide ([h, m, o] = [h', m', o']) = z
    by_cases h1 : fi = fi' <;> by_cases h2 : l = l' <;> by_cases h3 : k = k' <;> simp [h1, h2, h3, bne]
  | .blk t ss, .blk t' ss' => by
    show (("steps" != "steps" : Bool) || (differL (objs ss) (objs ss') || (("times" != "times" : Bool) || (((t : Int) != t') || false)))) = _
    rw [differs_obj ss ss']
    simp only [Stp.beq]
    by_cases h1 : t = t'
    · subst h1; simp
    · have : ¬ (t : Int) = t' := by omega
      simp [h1, this, bne]
  | .chg .., .str .. => by simp [Stp.obj, chgD, strD, chfs, stfs, differ, differF, Stp.beq]
  | .chg .., .blk .. => by simp [Stp.obj, chgD, blkD, chfs, blfs, differ, differF, Stp.beq]
  | .str .., .chg .. => by simp [Stp.obj, chgD, strD, chfs, stfs, differ, differF, Stp.beq]
  | .str .., .blk .. => by simp [Stp.obj, strD, blkD, stfs, blfs, differ, differF, Stp.beq]
  | .blk .., .chg .. => by simp [Stp.obj, chgD, blkD, chfs, blfs, differ, differF, Stp.beq]
  | .blk .., .str .. => by simp [Stp.obj, strD, blkD, stfs, blfs, differ, differF, Stp.beq]
theorem differs_obj : ∀ ss ss' : List Stp, differL (objs ss) (objs ss') = !beqs ss ss'
  | [], [] => rfl
  | s :: ss, s' :: ss' => by
    show (differ s.obj s'.obj || differL (objs ss) (objs ss')) = !(s.beq s' && beqs ss ss')
    rw [differ_obj s s', differs_obj ss ss']
    cases s.beq s' <;> rfl
  | [], _ :: _ => rfl
  | _ :: _, [] => rfl
end
@[simp] theorem iC_chg (f b : List Int) (sd : Str) : isi_Change (chgD f b sd) = some true := rfl
@[simp] theorem iC_str (f : Int) (sp : D) (sd : Str) (l : Bool) : isi_Change (strD f sp sd l) = some false := rfl
@[simp] theorem iC_blk (t : Int) (ss : List D) : isi_Change (blkD t ss) = some false := rfl
@[simp] theorem iS_chg (f b : List Int) (sd : Str) : isi_Stretch (chgD f b sd) = some false := rfl
@[simp] theorem iS_str (f : Int) (sp : D) (sd : Str) (l : Bool) : isi_Stretch (strD f sp sd l) = some true := rfl
@[simp] theorem iS_blk (t : Int) (ss : List D) : isi_Stretch (blkD t ss) = some false := rfl
@[simp] theorem iB_chg (f b : List Int) (sd : Str) : isi_Block (chgD f b sd) = some false := rfl
@[simp] theorem iB_str (f : Int) (sp : D) (sd : Str) (l : Bool) : isi_Block (strD f sp sd l) = some false := rfl
@[simp] theorem iB_blk (t : Int) (ss : List D) : isi_Block (blkD t ss) = some true := rfl
theorem sd_eq (k k' : Bool) : decide (sdS k = sdS k') = decide (k = k') := by cases k <;> cases k' <;> rfl
theorem q_chg_eq (f b : List Int) (k : Bool) (s' : Stp) : F_Change___eq__ (chgD f b (sdS k)) s'.obj = .ok (.bl ((Stp.chg f b k).beq s')) := by
  cases s' with
  | chg f' b' k' =>
    simp only [F_Change___eq__, obj_chg, iC_chg, s_bd, s_opt, s_asB, Bool.not_true, Bool.false_eq_true, if_false, s_bdF, fld_front, fld_back, fld_cside, s_eqt_ints, s_eqs, sd_eq, Stp.beq]
    by_cases h1 : f = f' <;> by_cases h2 : b = b' <;> simp [h1, h2]
  | str fi h m o k' l => simp [F_Change___eq__, obj_str, Stp.beq]
  | blk t ss => simp [F_Change___eq__, obj_blk, Stp.beq]
theorem q_span_eq (h m o h' m' o' : Int) : F_Span___eq__ (spanD h m o) (spanD h' m' o') = .ok (.bl (decide ([h, m, o] = [h', m', o']))) := by
  have e := s_eqt_ints [h, m, o] [h', m', o']
  have e1 : ∀ a b c, fldD "Span" "own_parts" (spanD a b c) = .ok (.tup ([a, b, c].map D.int)) := fun _ _ _ => rfl
  simp only [F_Span___eq__, s_bd, isi_Span_span, s_opt, s_asB, if_true, e1, e, s_finr]
theorem q_str_eq (fi h m o : Int) (k l : Bool) (s' : Stp) : F_Stretch___eq__ (strD fi (spanD h m o) (sdS k) l) s'.obj = .ok (.bl ((Stp.str fi h m o k l).beq s')) := by
  cases s' with
  | str fi' h' m' o' k' l' =>
    have es : eqO "Span" eqr_Span (ul2 F_Span___eq__) (spanD h m o) (spanD h' m' o') = .ok (.bl (decide ([h, m, o] = [h', m', o']))) := by
      unfold eqO
      rw [isO_span]
      show (if true = true then _ else _) = _
      rw [if_pos rfl, s_ul2, q_span_eq]
    simp only [F_Stretch___eq__, obj_str, iS_str, s_bd, s_opt, s_asB, Bool.not_true, Bool.false_eq_true, if_false, s_bdF, fld_side, fld_late, fld_first, fld_span, s_nes, s_neb, s_eq, sd_eq, es, Stp.beq]
    generalize decide ([h, m, o] = [h', m', o']) = z
    by_cases h1 : k = k' <;> by_cases h2 : l = l' <;> by_cases h3 : fi = fi' <;> simp [h1, h2, h3]
  | chg f b k' => simp [F_Stretch___eq__, obj_chg, Stp.beq]
  | blk t ss => simp [F_Stretch___eq__, obj_blk, Stp.beq]
abbrev esT (r : Nat) : EqTab := [("Change", (ul2 F_Change___eq__)), ("Stretch", (ul2 F_Stretch___eq__)), ("Block", (ul2 (F_Block___eq__ r)))]
theorem q_it {r : Nat} {s s' : Stp} (hb : ∀ t ss, s = .blk t ss → F_Block___eq__ r s.obj s'.obj = .ok (.bl (s.beq s'))) : itE (esT r) s.obj s'.obj = some (s.beq s') := by
  have key : ∀ {c : Str} {fs : Fs} {F : List D → Tr D}, s.obj = .obj c fs → (esT r).lookup c = some F → F [s.obj, s'.obj] = .ok (.bl (s.beq s')) → itE (esT r) s.obj s'.obj = some (s.beq s') := fun {c fs F} e1 e2 e3 => by
    have e4 : ∃ c' fs' F', s'.obj = .obj c' fs' ∧ (esT r).lookup c' = some F' := by
      cases s' with
      | chg f b k => exact ⟨_, _, _, rfl, rfl⟩
      | str fi h m o k l => exact ⟨_, _, _, rfl, rfl⟩
      | blk t ss => exact ⟨_, _, _, rfl, rfl⟩
    obtain ⟨c', fs', F', e4, e5⟩ := e4
    have d := differ_obj s s'
    rw [e1, e4] at e3 d ⊢
    unfold itE
    simp only [e2, e5, e3]
    cases hq : s.beq s' with
    | true => rfl
    | false =>
      rw [hq] at d
      simp only [d, Bool.not_false, if_true]
  cases s with
  | chg f b k => exact key (c := "Change") rfl rfl (q_chg_eq f b k s')
  | str fi h m o k l => exact key (c := "Stretch") rfl rfl (q_str_eq fi h m o k l s')
  | blk t ss => exact key (c := "Block") rfl rfl (hb t ss rfl)
theorem q_eqLs {r : Nat} : ∀ {ss ss' : List Stp}, (∀ s ∈ ss, ∀ s' : Stp, ∀ t xs, s = .blk t xs → F_Block___eq__ r s.obj s'.obj = .ok (.bl (s.beq s'))) → eqLs (esT r) (ss.map Stp.obj) (ss'.map Stp.obj) = .ok (beqs ss ss')
  | [], [], _ => rfl
  | [], _ :: _, _ => rfl
  | _ :: _, [], _ => rfl
  | s :: ss, s' :: ss', h => by
    rw [List.map_cons, List.map_cons]
    unfold eqLs
    rw [q_it (h s List.mem_cons_self s')]
    show (match some (s.beq s') with | some true => _ | some false => _ | none => _) = Tr.ok (s.beq s' && beqs ss ss')
    cases s.beq s' with
    | true => exact (q_eqLs fun x hx => h x (List.mem_cons_of_mem _ hx)).trans (by rw [Bool.true_and])
    | false => rfl
theorem q_blk_eq : ∀ (r : Nat) {t : Nat} {ss : List Stp} (s' : Stp), (Stp.blk t ss).deep ≤ r → F_Block___eq__ r (Stp.blk t ss).obj s'.obj = .ok (.bl ((Stp.blk t ss).beq s'))
  | 0, t, ss, s', h => by have := deep_pos (.blk t ss); omega
  | r + 1, t, ss, s', h => by
    cases s' with
    | chg f b k' => simp [F_Block___eq__, obj_chg, Stp.beq]
    | str fi h m o k' l => simp [F_Block___eq__, obj_str, Stp.beq]
    | blk t' ss' =>
      have e := q_eqLs (r := r) (ss := ss) (ss' := ss') fun s hs s' t xs e => by
        subst e
        exact q_blk_eq r s' (deep_in h hs)
      have e2 : eqTD (esT r) (.tup (ss.map Stp.obj)) (.tup (ss'.map Stp.obj)) = .ok (.bl (beqs ss ss')) := by
        show bd (eqLs (esT r) (ss.map Stp.obj) (ss'.map Stp.obj)) _ = _
        rw [e]
        rfl
      have ht : decide ((t : Int) = t') = decide (t = t') := by
        by_cases q : t = t'
        · subst q; simp
        · have : ¬ (t : Int) = t' := by omega
          simp [q, this]
      unfold F_Block___eq__
      simp only [obj_blk, iB_blk, s_bd, s_opt, s_asB, if_true, fld_btimes, fld_bsteps, s_eq, ht, e2, Stp.beq]
      by_cases q : t = t' <;> simp [q]
end Lw
end
section
set_option Elab.async false
set_option linter.all false
set_option maxRecDepth 100000
set_option maxHeartbeats 400000
namespace Gp
open PySem
theorem bo_seq {α β : Type} {P : α → Prop} {Q : β → Prop} {m : Tr α} {k : α → Tr β} {a b n : Nat} (h : Bo P m a) (hk : ∀ x, P x → Bo Q (k x) b) (l : a + b ≤ n) : Bo Q (bd m k) n := (h.bd hk).mono (fun _ z => z) l
theorem bo_lc {f : D → Tr (Option D)} {P : D → Prop} {c : Nat} : ∀ {ds : List D}, (∀ d ∈ ds, Bo (fun o => ∃ y, o = some y ∧ P y) (f d) c) → Bo (fun ys => (∀ y ∈ ys, P y) ∧ ys.length = ds.length) (lcF f ds) (c * ds.length)
  | [], _ => bo_ok ⟨fun y h => absurd h (by simp), rfl⟩
  | d :: ds, h => by
    rw [lcF_cons]
    refine bo_seq (b := c * ds.length) (h d List.mem_cons_self) (fun o ho => ?_) (by rw [List.length_cons, Nat.mul_succ]; omega)
    obtain ⟨y, rfl, hy⟩ := ho
    refine bo_seq (b := 0) (bo_lc fun x hx => h x (List.mem_cons_of_mem _ hx)) (fun ys hys => ?_) (by omega)
    refine bo_ok ⟨fun z hz => ?_, by simp [hys.2]⟩
    rcases List.mem_cons.mp hz with rfl | hz
    · exact hy
    · exact hys.1 z hz
theorem all_map {α : Type} {h : α → D} {P : α → Prop} : ∀ {ys : List D}, (∀ y ∈ ys, ∃ a, y = h a ∧ P a) → ∃ xs : List α, ys = xs.map h ∧ ∀ a ∈ xs, P a
  | [], _ => ⟨[], rfl, fun a h => absurd h (by simp)⟩
  | y :: ys, hy => by
    obtain ⟨a, rfl, ha⟩ := hy y List.mem_cons_self
    obtain ⟨xs, rfl, hx⟩ := all_map fun z hz => hy z (List.mem_cons_of_mem _ hz)
    refine ⟨a :: xs, rfl, fun b hb => ?_⟩
    rcases List.mem_cons.mp hb with rfl | hb
    · exact ha
    · exact hx b hb
theorem cut_to {α : Type} (xs : List α) (k : Nat) : cutG xs none (some (k : Int)) = xs.take k := by
  unfold cutG
  rw [HT.sIx_nat, HT.sIx_none, List.drop_zero, Nat.sub_zero]
  rcases Nat.le_total k xs.length with h | h
  · rw [Nat.min_eq_left h]
  · rw [Nat.min_eq_right h, List.take_of_length_le (Nat.le_refl _), List.take_of_length_le h]
theorem cut_from {α : Type} (xs : List α) (k : Nat) : cutG xs (some (k : Int)) none = xs.drop k := by
  unfold cutG
  rw [HT.sIx_nat, HT.sIx_none]
  rcases Nat.le_total k xs.length with h | h
  · rw [Nat.min_eq_left h, List.take_of_length_le (by rw [List.length_drop]; omega)]
  · rw [Nat.min_eq_right h, List.drop_of_length_le (Nat.le_refl _), List.drop_of_length_le h, List.take_nil]
theorem sl_to (ds : List D) (k : Nat) : slD (.lst ds) none (some (k : Int)) = .ok (.lst (ds.take k)) := congrArg (fun z => Tr.ok (D.lst z)) (cut_to ds k)
theorem sl_from (ds : List D) (k : Nat) : slD (.lst ds) (some (k : Int)) none = .ok (.lst (ds.drop k)) := congrArg (fun z => Tr.ok (D.lst z)) (cut_from ds k)
end Gp
namespace Lw
open PySem Gp
@[simp] theorem s_draw (m : Int) : F_draw .pen (.int m) = .draw m fun d => .ok (.int d) := rfl
theorem q_pick (ds : List D) : F__law_pick .pen (.lst ds) = .draw ds.length fun i => ixD (.lst ds) (.int i) := by
  simp [F__law_pick]
theorem b_pick {P : D → Prop} {ds : List D} (h0 : 0 < ds.length) (h1 : ds.length ≤ 100000) (h : ∀ d ∈ ds, P d) : Bo P (F__law_pick .pen (.lst ds)) 1 := by
  rw [q_pick]
  exact bo_pick h0 h1 h
theorem told_nil : Told [] := ⟨by simp, .nil, by decide⟩
theorem b_places : Bo (fun d => ∃ f, d = .tup (f.map D.int) ∧ Told f) (F__law_places .pen) 20 := by
  simp only [F__law_places, s_bd, List.length_cons, List.length_nil, Nat.reduceAdd, szS, Nat.reduceLeDiff, if_true, s_ul2, s_draw, s_bdd, s_find, s_bdbd, s_finbd, s_bdFbd, s_bdFd, s_ul1]
  refine bo_seq (a := 1) (b := 19) (b_pick (P := fun d => ∃ f, d = .lst (f.map D.int) ∧ Told f) (by simp) (by simp) fun d hd => ?_) (fun x hx => ?_) (by decide)
  · simp only [List.mem_cons, List.mem_nil_iff, or_false] at hd
    rcases hd with rfl | rfl | rfl | rfl | rfl | rfl | rfl | rfl | rfl
    · exact ⟨[], rfl, told_nil⟩
    · exact ⟨[], rfl, told_nil⟩
    · exact ⟨[], rfl, told_nil⟩
    · exact ⟨[0], rfl, ⟨by decide, by decide, by decide⟩⟩
    · exact ⟨[0, 1], rfl, ⟨by decide, by decide, by decide⟩⟩
    · exact ⟨[1], rfl, ⟨by decide, by decide, by decide⟩⟩
    · exact ⟨[0, 2], rfl, ⟨by decide, by decide, by decide⟩⟩
    · exact ⟨[2, 3], rfl, ⟨by decide, by decide, by decide⟩⟩
    · exact ⟨[0, 1, 2, 3], rfl, ⟨by decide, by decide, by decide⟩⟩
  · obtain ⟨f, rfl, hf⟩ := hx
    refine bo_draw (n := 18) (by decide) (by decide) fun d d0 d1 => ?_
    simp only [s_eq, s_bd, s_asB]
    by_cases hd : d = 0
    · simp only [hd, decide_true, if_true, s_bdFd, s_find]
      refine bo_draw (n := 17) (by decide) (by decide) fun c c0 c1 => ?_
      obtain ⟨c, rfl⟩ := Int.eq_ofNat_of_zero_le c0
      simp only [s_rg1 (show c ≤ 16777216 by omega), s_bd, s_bdFbd, s_finbd]
      refine bo_seq (bo_lc (P := fun y => ∃ i : Int, y = .int i ∧ 0 ≤ i ∧ i ≤ 15) (c := 1) fun x hx => ?_) (b := 0) (fun ys hys => ?_) (by rw [List.length_map, List.length_range']; omega)
      · show Bo _ (.draw 16 _) 1
        refine bo_draw (n := 0) (by decide) (by decide) fun i i0 i1 => ?_
        exact bo_ok ⟨_, rfl, i, rfl, i0, by omega⟩
      · obtain ⟨h1, h2⟩ := hys
        obtain ⟨ns, rfl, hn⟩ := all_map (h := D.int) h1
        rw [List.length_map, List.length_map, List.length_range'] at h2
        have hl := len_setI ns
        simp only [s_sortS (show ns.length < 64 by omega), s_bd, s_bdF, s_tupl, s_finr]
        exact bo_ok ⟨_, rfl, ⟨fun x hx => hn x (mem_setI.mp hx), ris_setI ns, by omega⟩⟩
    · simp only [hd, decide_false, Bool.false_eq_true, if_false, s_bdF, s_bd, s_tupl, s_finr]
      exact bo_ok ⟨f, rfl, hf⟩
theorem ix_chg (f b : List Int) (bk : Bool) : ixD (Stp.chg f b bk).dat (.int 0) = .ok (.str "change") ∧ ixD (Stp.chg f b bk).dat (.int 1) = .ok (.tup (f.map D.int)) ∧ ixD (Stp.chg f b bk).dat (.int 2) = .ok (.tup (b.map D.int)) ∧ ixD (Stp.chg f b bk).dat (.int 3) = .ok (.str (sdS bk)) := ⟨rfl, rfl, rfl, rfl⟩
theorem ix_str (fi h m o : Int) (bk late : Bool) : ixD (Stp.str fi h m o bk late).dat (.int 0) = .ok (.str "stretch") ∧ ixD (Stp.str fi h m o bk late).dat (.int 1) = .ok (.int fi) ∧ ixD (Stp.str fi h m o bk late).dat (.int 2) = .ok (.tup [.int h, .int m, .int o]) ∧ ixD (Stp.str fi h m o bk late).dat (.int 3) = .ok (.str (sdS bk)) ∧ ixD (Stp.str fi h m o bk late).dat (.int 4) = .ok (.bl late) := ⟨rfl, rfl, rfl, rfl, rfl⟩
theorem ix_blk (t : Nat) (ss : List Stp) : ixD (Stp.blk t ss).dat (.int 0) = .ok (.str "block") ∧ ixD (Stp.blk t ss).dat (.int 1) = .ok (.int t) ∧ ixD (Stp.blk t ss).dat (.int 2) = .ok (.lst (ss.map Stp.dat)) := by rw [dat_blk]; exact ⟨rfl, rfl, rfl⟩
theorem n_sc : ¬ ("stretch" : Str) = "change" := by decide
theorem n_bc : ¬ ("block" : Str) = "change" := by decide
theorem n_bs : ¬ ("block" : Str) = "stretch" := by decide
theorem n_cb : ¬ ("change" : Str) = "block" := by decide
theorem n_sb : ¬ ("stretch" : Str) = "block" := by decide
theorem wt_str {h m o : Int} (hs : spOk h m o) : ((wtN h m o : Nat) : Int) = 1 + h + (if m < 0 then -m else m) + (if o < 0 then -o else o) := by
  unfold spOk at hs
  unfold wtN
  split <;> split <;> omega
theorem q_law_weight : ∀ (r : Nat) {s : Stp}, Fit s → s.deep ≤ r → F__law_weight r s.dat = .ok (.int (s.wt : Nat))
  | 0, s, _, h => by have := deep_pos s; omega
  | r + 1, .chg f b bk, _, _ => by
    obtain ⟨e0, -⟩ := ix_chg f b bk
    simp only [F__law_weight, s_bd, e0, s_eqs, decide_true, s_asB, if_true, s_bdFr, s_finr]
    rfl
  | r + 1, .str fi h m o bk late, .str _ hs, _ => by
    obtain ⟨e0, -, e2, -⟩ := ix_str fi h m o bk late
    simp only [F__law_weight, s_bd, e0, e2, ix_t0, ix_t1, ix_t2, s_eqs, n_sc, decide_false, decide_true, s_asB, if_true, Bool.false_eq_true, if_false, s_bdF, s_ul1, s_abs, s_add, s_bdFr, s_finr, Stp.wt, wt_str hs]
  | r + 1, .blk t ss, k, hd => by
    obtain ⟨e0, e1, e2⟩ := ix_blk t ss
    have el : lcF (fun d => nox (bd (F__law_weight r d) fun y => .ok (some y))) (ss.map Stp.dat) = .ok (ss.map fun s => .int (s.wt : Nat)) := lcF_gen fun s hs => by rw [q_law_weight r (k.ss s hs) (deep_in hd hs)]; rfl
    have em := mul_t (x := ((wts ss : Nat) : Int)) k.t
    have es : sumD (.lst (ss.map fun s => .int (s.wt : Nat))) = .ok (.int (wts ss : Nat)) := s_sumN (f := Stp.wt) (F := wts) rfl (fun _ _ => rfl) ss
    unfold F__law_weight
    simp only [s_bd, e0, e1, e2, s_eqs, n_bc, n_bs, decide_false, s_asB, Bool.false_eq_true, if_false, s_bdF, s_ul1, s_itl]
    rw [el]
    simp only [s_bd, s_ul1]
    rw [es, s_bd, em]
    show Tr.ok (D.int ((t : Int) * (wts ss : Nat))) = .ok (.int ((t * wts ss : Nat) : Int))
    rw [Int.natCast_mul]
theorem q_law_made : ∀ (r : Nat) {s : Stp}, Fit s → s.deep ≤ r → F__law_made r s.dat = .ok s.obj
  | 0, s, _, h => by have := deep_pos s; omega
  | r + 1, .chg f b bk, .chg h1 h2, _ => by
    obtain ⟨e0, e1, e2, e3⟩ := ix_chg f b bk
    simp only [F__law_made, s_bd, e0, e1, e2, e3, s_eqs, decide_true, s_asB, if_true, s_ul3, q_change h1 h2 (sd_or bk), s_bdFr, s_finr]
    rfl
  | r + 1, .str fi h m o bk late, .str h1 h2, _ => by
    obtain ⟨e0, e1, e2, e3, e4⟩ := ix_str fi h m o bk late
    have es : D.obj "Span" [("own_parts", .tup [.int h, .int m, .int o])] = spanD h m o := rfl
    simp only [F__law_made, s_bd, e0, e1, e2, e3, e4, ix_t0, ix_t1, ix_t2, s_eqs, n_sc, decide_false, decide_true, s_asB, if_true, Bool.false_eq_true, if_false, s_bdF, s_ul3, q_span h2, es, s_ul4, q_stretch h1 (sd_or bk), s_bdFr, s_finr]
    rfl
  | r + 1, .blk t ss, k, hd => by
    obtain ⟨e0, e1, e2⟩ := ix_blk t ss
    have el : lcF (fun d => nox (bd (F__law_made r d) fun y => .ok (some y))) (ss.map Stp.dat) = .ok (ss.map Stp.obj) := lcF_gen fun s hs => by rw [q_law_made r (k.ss s hs) (deep_in hd hs)]; rfl
    unfold F__law_made
    simp only [s_bd, e0, e1, e2, s_eqs, n_bc, n_bs, decide_false, s_asB, Bool.false_eq_true, if_false, s_bdF, s_ul1, s_itl]
    rw [el]
    simp only [s_bd, s_ul2, q_block_of k, s_nox, s_finr]
def lotOk (h m o : Int) : Prop := (0 ≤ h ∧ h ≤ 4) ∧ (-5 ≤ m ∧ m ≤ 15) ∧ (-1 ≤ o ∧ o ≤ 2)
theorem b_span : Bo (fun d => ∃ h m o : Int, d = .tup [.int h, .int m, .int o] ∧ lotOk h m o) (F__law_span .pen) 4 := by
  simp only [F__law_span, s_bd, s_neg, s_draw, s_bdd, s_find, s_bdbd, s_finbd, s_ul2, s_ul1, List.length_cons, List.length_nil, Nat.reduceAdd, szS, Nat.reduceLeDiff, if_true]
  refine bo_seq (a := 1) (b := 3) (b_pick (P := fun d => ∃ h : Int, d = .int h ∧ 0 ≤ h ∧ h ≤ 4) (by simp) (by simp) fun d hd => ?_) (fun x hx => ?_) (by decide)
  · simp only [List.mem_cons, List.mem_nil_iff, or_false] at hd
    rcases hd with rfl | rfl | rfl | rfl | rfl | rfl | rfl <;> exact ⟨_, rfl, by decide, by decide⟩
  obtain ⟨h, rfl, h0, h1⟩ := hx
  refine bo_draw (n := 2) (by decide) (by decide) fun c c0 c1 => ?_
  refine bo_seq (a := 1) (b := 1) (b_pick (P := fun d => ∃ m : Int, d = .int m ∧ -5 ≤ m ∧ m ≤ 15) (by simp) (by simp) fun d hd => ?_) (fun x hx => ?_) (by decide)
  · simp only [List.mem_cons, List.mem_nil_iff, or_false] at hd
    rcases hd with rfl | rfl | rfl | rfl | rfl | rfl | rfl | rfl | rfl | rfl
    all_goals first | exact ⟨_, rfl, by decide, by decide⟩ | exact ⟨_, rfl, by omega, by omega⟩
  obtain ⟨m, rfl, m0, m1⟩ := hx
  refine bo_seq (a := 1) (b := 0) (b_pick (P := fun d => ∃ o : Int, d = .int o ∧ -1 ≤ o ∧ o ≤ 2) (by simp) (by simp) fun d hd => ?_) (fun x hx => ?_) (by decide)
  · simp only [List.mem_cons, List.mem_nil_iff, or_false] at hd
    rcases hd with rfl | rfl | rfl | rfl | rfl | rfl <;> exact ⟨_, rfl, by decide, by decide⟩
  obtain ⟨o, rfl, o0, o1⟩ := hx
  exact bo_ok ⟨h, m, o, rfl, ⟨h0, h1⟩, ⟨m0, m1⟩, o0, o1⟩
theorem lot_ok {h m o : Int} (k : lotOk h m o) : spOk h m o := by
  unfold lotOk at k
  unfold spOk
  omega
structure Drw (k : Nat) (s : Stp) : Prop where
  fit : Fit s
  wt : s.wt ≤ 40
  deep : s.deep ≤ k + 1
  said : s.said + 1 ≤ 2 ^ (k + 1)
  done : s.done ≤ 6 ^ k
  lot : ∀ fi h m o bk late, s = .str fi h m o bk late → lotOk h m o
theorem drw_leaf {k : Nat} {s : Stp} (f : Fit s) (w : s.wt ≤ 40) (d : s.deep = 1) (a : s.said = 1) (e : s.done = 1) (l : ∀ fi h m o bk late, s = .str fi h m o bk late → lotOk h m o) : Drw k s := ⟨f, w, by omega, by
  have : 2 ^ 1 ≤ 2 ^ (k + 1) := Nat.pow_le_pow_right (by decide) (by omega)
  omega, by
  have : 6 ^ 0 ≤ 6 ^ k := Nat.pow_le_pow_right (by decide) (by omega)
  omega, l⟩
theorem drw_chg {k : Nat} {f b : List Int} {bk : Bool} (h1 : Told f) (h2 : Told b) : Drw k (.chg f b bk) := drw_leaf (.chg h1 h2) (show 1 ≤ 40 by decide) rfl rfl rfl fun _ _ _ _ _ _ e => nomatch e
theorem drw_str {k : Nat} {fi h m o : Int} {bk late : Bool} (h1 : fi = 0 ∨ fi = 1) (h2 : lotOk h m o) : Drw k (.str fi h m o bk late) := drw_leaf (.str h1 (lot_ok h2)) (by
  show wtN h m o ≤ 40
  unfold lotOk at h2
  unfold wtN
  omega) rfl rfl rfl fun _ _ _ _ _ _ e => by cases e; exact h2
theorem drw_blk {k t : Nat} {ss : List Stp} (hk : k ≤ 1) (ht : t ≤ 3) (hl : ss.length ≤ 2) (hs : ∀ s ∈ ss, Drw k s) (hw : t * wts ss ≤ 40) : Drw (k + 1) (.blk t ss) := by
  have hp : 2 ^ (k + 1) ≤ 4 := Nat.pow_le_pow_right (n := 2) (by decide) (show k + 1 ≤ 2 by omega)
  have hq : 6 ^ k ≤ 6 := Nat.pow_le_pow_right (n := 6) (by decide) (show k ≤ 1 by omega)
  have e1 : saids ss + 2 ≤ 2 * 2 ^ (k + 1) ∧ dones ss ≤ 2 * 6 ^ k := by
    match ss, hl, hs with
    | [], _, _ =>
      have : 1 ≤ 2 ^ (k + 1) := Nat.one_le_two_pow
      exact ⟨by show 0 + 2 ≤ _; omega, by show 0 ≤ _; omega⟩
    | [a], _, hs =>
      have h1 := (hs a List.mem_cons_self).said
      have h2 := (hs a List.mem_cons_self).done
      have : 1 ≤ 2 ^ (k + 1) := Nat.one_le_two_pow
      exact ⟨by show a.said + 0 + 2 ≤ _; omega, by show a.done + 0 ≤ _; omega⟩
    | [a, b], _, hs =>
      have h1 := (hs a List.mem_cons_self).said
      have h2 := (hs a List.mem_cons_self).done
      have h3 := (hs b (by simp)).said
      have h4 := (hs b (by simp)).done
      exact ⟨by show a.said + (b.said + 0) + 2 ≤ _; omega, by show a.done + (b.done + 0) ≤ _; omega⟩
    | _ :: _ :: _ :: _, hl, _ => simp at hl
  have e2 : deeps ss ≤ k + 1 := deeps_le fun s h => (hs s h).deep
  have e3 : t * dones ss ≤ 3 * (2 * 6 ^ k) := Nat.mul_le_mul ht e1.2
  have p2 : 2 ^ (k + 1 + 1) = 2 * 2 ^ (k + 1) := by rw [Nat.pow_succ]; omega
  have p6 : 6 ^ (k + 1) = 6 * 6 ^ k := by rw [Nat.pow_succ]; omega
  refine ⟨.blk (by omega) (fun s h => (hs s h).fit) (by omega) (by omega) (by omega) (by omega), hw, ?_, ?_, ?_, fun _ _ _ _ _ _ e => nomatch e⟩
  · show 1 + deeps ss ≤ k + 1 + 1
    omega
  · show 1 + saids ss + 1 ≤ 2 ^ (k + 1 + 1)
    omega
  · show t * dones ss ≤ 6 ^ (k + 1)
    omega
def drawsN : Nat → Nat
  | 0 => 50
  | k + 1 => 55 + 2 * drawsN k
theorem drw_tail {k t : Nat} {ss : List Stp} (hk : k ≤ 1) (ht : t ≤ 3) (hl : ss.length ≤ 2) (hs : ∀ s ∈ ss, Drw k s) (X : Tr D) :
    (if decide ((t : Int) * (wts ss : Nat) ≤ 40) = true then Tr.ok (D.tup [.str "block", .int t, .lst (ss.map Stp.dat)]) else Tr.ok (D.tup [.str "block", .int 1, .lst ((ss.map Stp.dat).take 1)])) = X → ∃ s, X = .ok s.dat ∧ Drw (k + 1) s := fun e => by
  by_cases q : (t : Int) * (wts ss : Nat) ≤ 40
  · have q' : t * wts ss ≤ 40 := by
      have : ((t * wts ss : Nat) : Int) ≤ 40 := by rw [Int.natCast_mul]; exact q
      omega
    refine ⟨.blk t ss, ?_, drw_blk hk ht hl hs q'⟩
    rw [dat_blk, ← e, decide_eq_true q, if_pos rfl]
  · have hm : ∀ s ∈ ss.take 1, Drw k s := fun s h => hs s (List.mem_of_mem_take h)
    have hw : 1 * wts (ss.take 1) ≤ 40 := by
      match ss, hm with
      | [], _ => exact Nat.zero_le _
      | a :: _, hm =>
        have := (hm a (by simp)).wt
        show 1 * (a.wt + 0) ≤ 40
        omega
    refine ⟨.blk 1 (ss.take 1), ?_, drw_blk hk (by decide) (by rw [List.length_take]; omega) hm hw⟩
    rw [dat_blk, ← e, decide_eq_false q, if_neg (by decide), List.map_take]
    rfl
theorem b_step : ∀ (k r : Nat), k ≤ 2 → k < r → Bo (fun d => ∃ s, d = s.dat ∧ Drw k s) (F__law_step r .pen (.int (k : Nat))) (drawsN k)
  | k, 0, _, h => absurd h (Nat.not_lt_zero _)
  | k, r + 1, hk, h => by
    simp only [F__law_step, s_bd, List.length_cons, List.length_nil, Nat.reduceAdd, szS, Nat.reduceLeDiff, if_true, s_ul2, s_draw, s_bdd, s_find, s_bdbd, s_finbd, s_bdFbd, s_bdFd, s_ul1]
    obtain ⟨N, hN, hN2⟩ : ∃ N, drawsN k = N + 1 ∧ 49 ≤ N := by
      cases k with
      | zero => exact ⟨49, rfl, by decide⟩
      | succ k => exact ⟨54 + 2 * drawsN k, by show 55 + 2 * drawsN k = _; omega, by omega⟩
    rw [hN]
    refine bo_draw (by decide) (by decide) fun d d0 d1 => ?_
    refine bo_seq (a := 1) (b := N - 1) (b_pick (P := fun d => ∃ bk : Bool, d = .str (sdS bk)) (by simp) (by simp) fun d hd => ?_) (fun x hx => ?_) (by omega)
    · simp only [List.mem_cons, List.mem_nil_iff, or_false] at hd
      rcases hd with rfl | rfl | rfl
      · exact ⟨false, rfl⟩
      · exact ⟨false, rfl⟩
      · exact ⟨true, rfl⟩
    obtain ⟨bk, rfl⟩ := hx
    simp only [s_lt, s_bd, s_asB]
    by_cases q1 : d < 3
    · simp only [q1, decide_true, if_true, s_bdFbd, s_finbd]
      refine bo_seq (a := 20) (b := 20) b_places (fun x hx => ?_) (by omega)
      obtain ⟨f, rfl, hf⟩ := hx
      refine bo_seq (a := 20) (b := 0) b_places (fun x hx => ?_) (by omega)
      obtain ⟨b, rfl, hb⟩ := hx
      exact bo_ok ⟨.chg f b bk, rfl, drw_chg hf hb⟩
    simp only [q1, decide_false, Bool.false_eq_true, if_false, s_bdF, s_eq, s_bd, s_asB]
    by_cases q2 : d < 5 ∨ k = 0
    · have eq : (if decide (d < 5) = true then Tr.ok true else Tr.ok (decide ((k : Int) = 0))) = .ok true := by
        rcases q2 with q | q
        · simp [q]
        · subst q
          by_cases q5 : d < 5 <;> simp [q5]
      rw [eq]
      simp only [s_bd, if_true, s_bdFd, s_find, s_bdFbd, s_finbd]
      obtain ⟨M, rfl⟩ : ∃ M, N = M + 10 := ⟨N - 10, by omega⟩
      refine bo_draw (by decide) (by decide) fun fi f0 f1 => ?_
      refine bo_seq (a := 4) (b := 1) b_span (fun x hx => ?_) (by omega)
      obtain ⟨h', m, o, rfl, hl⟩ := hx
      refine bo_draw (n := 0) (by decide) (by decide) fun e _ _ => ?_
      exact bo_ok ⟨.str fi h' m o bk (decide (e = 0)), rfl, drw_str (by omega) hl⟩
    · obtain ⟨k, rfl⟩ : ∃ j, k = j + 1 := ⟨k - 1, by omega⟩
      have eq : (if decide (d < 5) = true then Tr.ok true else Tr.ok (decide (((k + 1 : Nat) : Int) = 0))) = .ok false := by
        have a1 : ¬ d < 5 := fun z => q2 (.inl z)
        have a2 : ¬ ((k + 1 : Nat) : Int) = 0 := by omega
        simp only [a1, a2, decide_false, Bool.false_eq_true, if_false]
      rw [eq]
      simp only [s_bd, Bool.false_eq_true, if_false, s_bdF, s_finbd, s_bdbd]
      have hN3 : N = 54 + 2 * drawsN k := by
        have : drawsN (k + 1) = 55 + 2 * drawsN k := rfl
        omega
      refine bo_seq (a := 1) (b := 3 + 2 * drawsN k) (b_pick (P := fun d => ∃ t : Nat, d = .int (t : Nat) ∧ t ≤ 3) (by decide) (by decide) fun d hd => ?_) (fun x hx => ?_) (by omega)
      · simp only [List.mem_cons, List.mem_nil_iff, or_false] at hd
        rcases hd with rfl | rfl | rfl | rfl | rfl
        · exact ⟨0, rfl, by decide⟩
        · exact ⟨1, rfl, by decide⟩
        · exact ⟨2, rfl, by decide⟩
        · exact ⟨2, rfl, by decide⟩
        · exact ⟨3, rfl, by decide⟩
      obtain ⟨t, rfl, ht⟩ := hx
      rw [show 3 + 2 * drawsN k = (2 + 2 * drawsN k) + 1 by omega]
      refine bo_draw (by decide) (by decide) fun c c0 c1 => ?_
      obtain ⟨c, rfl⟩ := Int.eq_ofNat_of_zero_le c0
      have ek : ((k + 1 : Nat) : Int) - 1 = (k : Nat) := by omega
      simp only [s_rg1 (show c ≤ 16777216 by omega), s_bd, s_sub, ek, s_finbd, s_bdbd]
      refine bo_seq (bo_lc (P := fun y => ∃ s : Stp, y = s.dat ∧ Drw k s) (c := drawsN k) fun x hx => ?_) (b := 0) (fun ys hys => ?_) ?_
      · exact bo_nox (bo_seq (a := drawsN k) (b := 0) (b_step k r (by omega) (by omega)) (fun y hy => bo_ok ⟨y, rfl, hy⟩) (by omega))
      · obtain ⟨z1, z2⟩ := hys
        obtain ⟨ss, rfl, hs⟩ := all_map (h := Stp.dat) z1
        rw [List.length_map, List.length_map, List.length_range'] at z2
        have el : lcF (fun d => nox (bd (F__law_weight 5 d) fun y => .ok (some y))) (ss.map Stp.dat) = .ok (ss.map fun s => .int (s.wt : Nat)) := lcF_gen fun s h => by rw [q_law_weight 5 (hs s h).fit (by have := (hs s h).deep; omega)]; rfl
        have em := mul_t (x := ((wts ss : Nat) : Int)) (show t ≤ 12 by omega)
        have es : sumD (.lst (ss.map fun s => .int (s.wt : Nat))) = .ok (.int (wts ss : Nat)) := s_sumN (f := Stp.wt) (F := wts) rfl (fun _ _ => rfl) ss
        have e1 := sl_to (ss.map Stp.dat) 1
        simp only [s_itl, s_bd, s_ul2, s_ul1, s_finbd, s_bdbd]
        rw [el]
        simp only [s_bd, s_ul1]
        rw [es, s_bd, em]
        simp only [s_bd, s_le, s_asB, asI]
        rw [show (1 : Int) = ((1 : Nat) : Int) from rfl, e1]
        simp only [s_bd]
        obtain ⟨s, e, hd⟩ := drw_tail (t := t) (ss := ss) (by omega) ht (by omega) hs _ rfl
        rw [show ((1 : Nat) : Int) = 1 from rfl, e]
        exact bo_ok ⟨s, rfl, hd⟩
      · rw [List.length_map, List.length_range']
        have : drawsN k * c ≤ drawsN k * 2 := Nat.mul_le_mul_left _ (by omega)
        omega
end Lw
end
section
set_option Elab.async false
set_option linter.all false
set_option maxRecDepth 100000
set_option maxHeartbeats 400000
namespace Lw
open PySem Gp
mutual
theorem done_wt : ∀ {s : Stp}, Fit s → s.done ≤ s.wt
  | .chg _ _ _, _ => Nat.le_refl _
  | .str fi h m o _ _, _ => by show 1 ≤ wtN h m o; unfold wtN; omega
  | .blk t ss, k => Nat.mul_le_mul_left t (dones_wts (ss := ss) k.ss)
theorem dones_wts : ∀ {ss : List Stp}, (∀ s ∈ ss, Fit s) → dones ss ≤ wts ss
  | [], _ => Nat.le_refl _
  | s :: ss, h => Nat.add_le_add (done_wt (s := s) (h s List.mem_cons_self)) (dones_wts (ss := ss) fun x hx => h x (List.mem_cons_of_mem _ hx))
end
structure Prg (ss : List Stp) : Prop where
  fit : ∀ s ∈ ss, Fit s
  said : saids ss ≤ 40
  wt : wts ss ≤ 80
  deep : deeps ss ≤ 3
theorem Prg.done {ss : List Stp} (h : Prg ss) : dones ss ≤ 120 := by
  have := dones_wts h.fit
  have := h.wt
  omega
theorem fit_deep {s : Stp} (h : Fit s) : s.deep ≤ 5 := by
  cases h with
  | chg => exact (by decide : 1 ≤ 5)
  | str => exact (by decide : 1 ≤ 5)
  | blk _ _ _ _ _ h => exact Nat.le_trans h (by decide)
theorem Prg.len {ss : List Stp} (h : Prg ss) : ss.length ≤ 40 := Nat.le_trans (saids_len ss) h.said
theorem Prg.app {a b : List Stp} (ha : Prg a) (hb : Prg b) (h1 : saids a + saids b ≤ 40) (h2 : wts a + wts b ≤ 80) : Prg (a ++ b) := ⟨fun s h => (List.mem_append.mp h).elim (ha.fit s) (hb.fit s), by rw [saids_app]; exact h1, by rw [wts_app]; exact h2, by
  rw [deeps_app]
  exact Nat.max_le.mpr ⟨ha.deep, hb.deep⟩⟩
def progD (ss : List D) : D := .obj "Program" [("steps", .tup ss)]
@[simp] theorem isO_prog {α : Type} (ss : List D) (k : Fs → Tr α) : isO "Program" (progD ss) k = k [("steps", .tup ss)] := s_isO _ _ _
theorem fld_steps (ss : List D) : fldD "Program" "steps" (progD ss) = .ok (.tup ss) := rfl
@[simp] theorem lk_rem (ss : List D) : ([("steps", .tup ss)] : Fs).lookup ("remade" : Str) = none := rfl
@[simp] theorem lk_pto (ss : List D) : ([("steps", .tup ss)] : Fs).lookup ("to" : Str) = none := rfl
@[simp] theorem lk_org (ss : List D) : ([("steps", .tup ss)] : Fs).lookup ("origin" : Str) = none := rfl
theorem q_psaid {ss : List Stp} (h : ∀ s ∈ ss, Fit s) : F_Program_said (progD (ss.map Stp.obj)) = .ok (.int (saids ss : Nat)) := by
  unfold F_Program_said
  simp only [s_bd, fld_steps, s_itt, s_ul1]
  rw [lcF_gen (h := Stp.obj) (g := fun s => .int (s.said : Nat)) fun s hs => ?_]
  · simp only [s_bd, s_ul1, s_sumN (f := Stp.said) (F := saids) rfl (fun _ _ => rfl), s_finr]
  · have hd := fit_deep (h s hs)
    cases s with
    | chg f b bk => simp [obj_chg, F_Step_said_at_Change, Stp.said]
    | str fi h m o bk late => simp [obj_str, F_Step_said_at_Stretch, Stp.said]
    | blk t xs => simp [obj_blk, q_bsaid 5 hd]
theorem q_pdone {ss : List Stp} (h : ∀ s ∈ ss, Fit s) : F_Program_done (progD (ss.map Stp.obj)) = .ok (.int (dones ss : Nat)) := by
  unfold F_Program_done
  simp only [s_bd, fld_steps, s_itt, s_ul1]
  rw [lcF_gen (h := Stp.obj) (g := fun s => .int (s.done : Nat)) fun s hs => ?_]
  · simp only [s_bd, s_ul1, s_sumN (f := Stp.done) (F := dones) rfl (fun _ _ => rfl), s_finr]
  · have hd := fit_deep (h s hs)
    have hf := h s hs
    cases s with
    | chg f b bk => simp [obj_chg, F_Step_done_at_Change, Stp.done]
    | str fi h m o bk late => simp [obj_str, F_Step_done_at_Stretch, Stp.done]
    | blk t xs => simp [obj_blk, q_bdone 5 hd hf]
theorem q_pweight {ss : List Stp} (h : ∀ s ∈ ss, Fit s) : F_Program_weight (progD (ss.map Stp.obj)) = .ok (.int (wts ss : Nat)) := by
  unfold F_Program_weight
  simp only [s_bd, fld_steps, s_itt, s_ul1]
  rw [lcF_gen (h := Stp.obj) (g := fun s => .int (s.wt : Nat)) fun s hs => ?_]
  · simp only [s_bd, s_ul1, s_sumN (f := Stp.wt) (F := wts) rfl (fun _ _ => rfl), s_finr]
  · have hd := fit_deep (h s hs)
    have hf := h s hs
    cases s with
    | chg f b bk => simp [obj_chg, F_Change_weight, Stp.wt]
    | str fi h m o bk late =>
      cases hf with
      | str _ h2 => simp [obj_str, q_sweight h2, Stp.wt]
    | blk t xs => simp [obj_blk, q_bweight 5 hd hf]
theorem q_pdeep {ss : List Stp} (h : ∀ s ∈ ss, Fit s) : F_Program_deep (progD (ss.map Stp.obj)) = .ok (.int (deeps ss : Nat)) := by
  unfold F_Program_deep
  simp only [s_bd, fld_steps, s_ul1, q_deepest (rB := F_Block_deep 5) (ss := ss) (fun t' xs hs => q_bdeep 5 (fit_deep (h _ hs))), s_finr]
theorem q_program {ss : List Stp} (h : Prg ss) : F_Program___init__ [] (.tup (ss.map Stp.obj)) = .ok [("steps", .tup (ss.map Stp.obj))] := by
  have h1 := h.said
  have h2 := h.done
  have h3 := h.wt
  have h4 := h.deep
  have ep : putD "steps" (.tup (ss.map Stp.obj)) [] = ([("steps", .tup (ss.map Stp.obj))] : Fs) := rfl
  have e3 : (D.obj "Program" [("steps", .tup (ss.map Stp.obj))]) = progD (ss.map Stp.obj) := rfl
  have l1 : ([] : Fs).length < 900 := by decide
  simp only [F_Program___init__, s_bd, s_ul1, need_objs, F_Holder___init___at_Program, l1, if_true, s_finI, ep, e3, q_psaid h.fit, q_pdone h.fit, q_pweight h.fit, q_pdeep h.fit, s_nox, s_plI, s_ul4,
    q_need_size (show ((saids ss : Nat) : Int) ≤ 40 by omega) (show ((dones ss : Nat) : Int) ≤ 120 by omega) (show ((wts ss : Nat) : Int) ≤ 80 by omega) (show ((deeps ss : Nat) : Int) ≤ 3 by omega)]
theorem q_prog_st {ss : List Stp} (h : Prg ss) : (stD 0 (ss.map Stp.obj) fun es => bd ((fun fs => ul1 (F_Program___init__ fs)) [] es) fun fs => Tr.ok (D.obj "Program" fs)) = .ok (progD (ss.map Stp.obj)) := by
  have hl := h.len
  have e : ∀ {α : Type} (k : List D → Tr α), stD 0 (ss.map Stp.obj) k = k [.tup (ss.map Stp.obj)] := fun k => s_stD (a := []) k rfl (by rw [List.length_map]; omega) (by decide)
  rw [e]
  simp only [s_ul1, q_program h, s_bd]
  rfl
theorem q_law_said : ∀ (r : Nat) {s : Stp}, s.deep ≤ r → F__law_said r s.dat = .ok (.int (s.said : Nat))
  | 0, s, h => by have := deep_pos s; omega
  | r + 1, .chg f b bk, _ => by
    obtain ⟨e0, -⟩ := ix_chg f b bk
    simp only [F__law_said, s_bd, e0, s_nes, n_cb, decide_false, Bool.not_false, s_asB, if_true, s_finr]
    rfl
  | r + 1, .str fi h m o bk late, _ => by
    obtain ⟨e0, -⟩ := ix_str fi h m o bk late
    simp only [F__law_said, s_bd, e0, s_nes, n_sb, decide_false, Bool.not_false, s_asB, if_true, s_finr]
    rfl
  | r + 1, .blk t ss, hd => by
    obtain ⟨e0, e1, e2⟩ := ix_blk t ss
    have el : lcF (fun d => nox (bd (F__law_said r d) fun y => .ok (some y))) (ss.map Stp.dat) = .ok (ss.map fun s => .int (s.said : Nat)) := lcF_gen fun s hs => by rw [q_law_said r (deep_in hd hs)]; rfl
    have es : sumD (.lst (ss.map fun s => .int (s.said : Nat))) = .ok (.int (saids ss : Nat)) := s_sumN (f := Stp.said) (F := saids) rfl (fun _ _ => rfl) ss
    unfold F__law_said
    simp only [s_bd, e0, e2, s_nes, decide_true, Bool.not_true, s_asB, Bool.false_eq_true, if_false, s_ul1, s_itl]
    rw [el]
    simp only [s_bd, s_ul1]
    rw [es]
    simp only [s_bd, s_add, s_finr]
    show Tr.ok (D.int (1 + (saids ss : Nat))) = .ok (.int ((1 + saids ss : Nat) : Int))
    rw [Int.natCast_add]; rfl
structure Prt (ss : List Stp) (cap : Nat) : Prop where
  drw : ∀ s ∈ ss, Drw 2 s
  wt : wts ss ≤ cap
  said : saids ss ≤ 12
theorem Prt.prg {ss : List Stp} {cap : Nat} (h : Prt ss cap) (hc : cap ≤ 80) : Prg ss := ⟨fun s hs => (h.drw s hs).fit, Nat.le_trans h.said (by decide), Nat.le_trans h.wt hc, deeps_le fun s hs => (h.drw s hs).deep⟩
end Lw
end
section
set_option Elab.async false
set_option linter.all false
set_option maxRecDepth 100000
set_option maxHeartbeats 400000
namespace Lw
open PySem Gp
theorem b_parts {m c : Nat} (hm : m ≤ 40) : Bo (fun d => ∃ ss, d = .lst (ss.map Stp.dat) ∧ Prt ss c ∧ ss.length ≤ m) (F__law_parts .pen (.int (m : Nat)) (.int (c : Nat))) (drawsN 2 * m + 1) := by
  unfold F__law_parts
  simp only [s_bd, s_ul1, s_ul2, s_add, s_draw, s_bdd, s_bdbd, s_bdFd, s_find]
  refine bo_draw (by omega) (by omega) fun k k0 k1 => ?_
  obtain ⟨k, rfl⟩ := Int.eq_ofNat_of_zero_le k0
  simp only [s_rg1 (show k ≤ 16777216 by omega), s_bd]
  have loop := bo_for (L := Empty) (P := fun r : Fl (List D × D × D) Empty => ∃ ss, r = .nx (ss.map Stp.dat, .int (wts ss : Nat), .int (saids ss : Nat)) ∧ Prt ss c ∧ ss.length ≤ m) (c := drawsN 2)
    (f := fun (d16 : D) (w15 : List D × D × D) => bd (F__law_step 5 .pen (.int 2)) fun p => bdF (W' := List D × D × D) (bd (F__law_weight 5 p) fun a => bd (addD w15.2.1 a) fun a => bd (leD a (.int (c : Nat))) fun a => bd (asB a) fun a => bd (if a = true then bd (F__law_said 5 p) fun a => bd (addD w15.2.2 a) fun a => bd (leD a (.int 12)) asB else .ok false) fun a => if a = true then (if w15.1.length < sizeLine then bd (F__law_weight 5 p) fun a => bd (addD w15.2.1 a) fun x => bd (F__law_said 5 p) fun a => bd (addD w15.2.2 a) fun y => .ok (.nx (w15.1 ++ [p], x, y)) else .bad) else .ok (.nx (w15.1, w15.2.1, w15.2.2))) fun w => .ok (.nx (w.1, w.2.1, w.2.2)))
    (fun ds w => ∃ ss, w = (ss.map Stp.dat, .int (wts ss : Nat), .int (saids ss : Nat)) ∧ Prt ss c ∧ ss.length + ds.length ≤ m) ((List.range' 0 k).map fun k : Nat => D.int k) ([], .int 0, .int 0)
    ⟨[], rfl, ⟨fun s h => absurd h List.not_mem_nil, Nat.zero_le _, Nat.zero_le _⟩, by rw [List.length_map, List.length_range']; show 0 + k ≤ m; omega⟩ (fun w ⟨ss, e, h1, h2⟩ => ⟨ss, congrArg _ e, h1, h2⟩) fun x xs w ⟨ss, e, h1, h2⟩ => by
      subst e
      rw [List.length_cons] at h2
      refine bo_then (b := 0) (b_step 2 5 (by decide) (by decide)) (fun d hd => ?_) (Nat.le_refl _)
      obtain ⟨s, rfl, hs⟩ := hd
      have hd := hs.deep
      have ew := q_law_weight 5 hs.fit (by omega)
      have es := q_law_said 5 (s := s) (by omega)
      have hl : ((ss.map Stp.dat).length) < sizeLine := by
        rw [List.length_map]
        have := szS (k := ss.length + 1) (by omega)
        omega
      simp only [ew, es, s_bd, s_add, s_le, s_asB]
      by_cases q : (wts ss : Int) + (s.wt : Nat) ≤ (c : Nat) ∧ (saids ss : Int) + (s.said : Nat) ≤ 12
      · have q1 := q.1
        have q2 := q.2
        simp only [q1, q2, decide_true, if_true, s_bd, hl, s_bdF]
        have e1 : wts (ss ++ [s]) = wts ss + s.wt := by rw [wts_app]; rfl
        have e2 : saids (ss ++ [s]) = saids ss + s.said := by rw [saids_app]; rfl
        refine bo_ok ⟨ss ++ [s], ?_, ⟨fun x hx => ?_, by omega, by omega⟩, by rw [List.length_append]; show ss.length + 1 + xs.length ≤ m; omega⟩
        · rw [List.map_append, e1, e2]
          rfl
        · rcases List.mem_append.mp hx with z | z
          · exact h1.drw x z
          · rw [List.mem_singleton.mp z]; exact hs
      · have ef : (if decide ((wts ss : Int) + (s.wt : Nat) ≤ (c : Nat)) = true then Tr.ok (decide ((saids ss : Int) + (s.said : Nat) ≤ 12)) else Tr.ok false) = .ok false := by
          by_cases q1 : (wts ss : Int) + (s.wt : Nat) ≤ (c : Nat)
          · have q2 : ¬ (saids ss : Int) + (s.said : Nat) ≤ 12 := fun z => q ⟨q1, z⟩
            simp [q1, q2]
          · simp [q1]
        rw [ef]
        simp only [s_bd, Bool.false_eq_true, if_false, s_bdF]
        exact bo_ok ⟨ss, rfl, h1, by omega⟩
  unfold fin bdF
  rw [bd_bd]
  refine bo_then (b := 0) loop (fun r hr => ?_) ?_
  · obtain ⟨ss, rfl, h1, h2⟩ := hr
    exact bo_ok ⟨ss, rfl, h1, h2⟩
  · rw [List.length_map, List.length_range']
    have : drawsN 2 * k ≤ drawsN 2 * m := Nat.mul_le_mul_left _ (by omega)
    omega
end Lw
end
section
set_option Elab.async false
set_option linter.all false
set_option maxRecDepth 100000
set_option maxHeartbeats 400000
namespace Lw
open PySem Gp
theorem sh_eqN {d : D} {n b : Nat} (h : Sh d n b) (hn : n ≤ 64) (e : eqS d d = none) : eqD d d = .ok (.bl true) ∧ neD d d = .ok (.bl false) := by
  obtain ⟨p, hp, f⟩ := h
  unfold eqD neD eqB
  rw [e, hp]
  dsimp only
  rw [if_pos ⟨f.shaped hn, f.shaped hn⟩, f.eqv]
  exact ⟨rfl, rfl⟩
theorem ne_nil {d : D} {ds : List D} {n b : Nat} (h : Sh (.lst (d :: ds)) n b) (hn : n ≤ 64) : neD (.lst (d :: ds)) (.lst []) = .ok (.bl true) := by
  obtain ⟨p, hp, f⟩ := h
  have e : ∃ x xs, p = .list (x :: xs) := by
    simp only [toPy, toPyL] at hp
    cases e1 : toPy d with
    | none => rw [e1] at hp; simp at hp
    | some x =>
      cases e2 : toPyL ds with
      | none => rw [e1, e2] at hp; simp at hp
      | some xs =>
        rw [e1, e2] at hp
        simp at hp
        exact ⟨x, xs, hp.symm⟩
  obtain ⟨x, xs, rfl⟩ := e
  have s0 : SeqAt.shaped (.list []) = true := by
    have z := ShL.nil (n := 0) (b := 0)
    obtain ⟨p, hp, f⟩ := Sh.lst z
    have : p = .list [] := by
      have y : toPy (.lst []) = some (.list []) := rfl
      rw [y] at hp
      cases hp
      rfl
    subst this
    exact f.shaped (by decide)
  unfold neD eqB
  show bd (match toPy (.lst (d :: ds)), toPy (.lst []) with | some a, some c => if SeqAt.shaped a = true ∧ SeqAt.shaped c = true then Tr.ok (PyData.eqv a c) else .bad | _, _ => .bad) _ = _
  rw [hp, show toPy (.lst []) = some (.list []) from rfl]
  dsimp only
  rw [if_pos ⟨f.shaped hn, s0⟩]
  rfl
theorem sh_lt {x : Int} (h : -1000 ≤ x ∧ x ≤ 1000) : Sh (.int x) 0 0 := by
  have b : (1000 : Int) < 10 ^ 100 := by decide
  exact Sh.int (by omega) (by omega)
theorem shL_ex {n : Nat} : ∀ {ds : List D}, (∀ d ∈ ds, ∃ b, Sh d n b) → ∃ b, ShL ds n b
  | [], _ => ⟨0, ShL.nil⟩
  | d :: ds, h => by
    obtain ⟨b, z⟩ := h d List.mem_cons_self
    obtain ⟨c, y⟩ := shL_ex (ds := ds) fun x hx => h x (List.mem_cons_of_mem _ hx)
    exact ⟨_, ShL.cons z y⟩
theorem sh_side (bk : Bool) : Sh (.str (sdS bk)) 0 1000 := by cases bk <;> exact Sh.ascii (by decide) (by decide)
theorem sh_told {f : List Int} (h : Told f) : ∃ b, Sh (.tup (f.map D.int)) 1 b := ⟨_, Sh.tup (ShL.ints fun x hx => by
  have b : (1000 : Int) < 10 ^ 100 := by decide
  have := h.1 x hx
  omega)⟩
theorem up {d : D} {n m : Nat} (h : ∃ b, Sh d n b) (hn : n ≤ m) : ∃ b, Sh d m b := by
  obtain ⟨b, z⟩ := h
  exact ⟨b, z.le hn (Nat.le_refl _)⟩
theorem sh_dat : ∀ (r : Nat) {s : Stp}, Fit s → s.deep ≤ r → ∃ b, Sh s.dat (2 * r) b
  | 0, s, _, h => by have := deep_pos s; omega
  | r + 1, .chg f b bk, k, _ => by
    cases k with
    | chg h1 h2 =>
      show ∃ c, Sh (.tup [.str "change", .tup (f.map D.int), .tup (b.map D.int), .str (sdS bk)]) _ c
      obtain ⟨c, z⟩ := shL_ex (n := 2 * r + 1) (ds := [.str "change", .tup (f.map D.int), .tup (b.map D.int), .str (sdS bk)]) fun d hd => by
        simp only [List.mem_cons, List.mem_nil_iff, or_false] at hd
        rcases hd with rfl | rfl | rfl | rfl
        · exact up ⟨_, Sh.ascii (by decide) (by decide)⟩ (by omega)
        · exact up (sh_told h1) (by omega)
        · exact up (sh_told h2) (by omega)
        · exact up ⟨_, sh_side bk⟩ (by omega)
      exact ⟨c, Sh.tup z⟩
  | r + 1, .str fi h m o bk late, k, _ => by
    cases k with
    | str h1 h2 =>
      show ∃ c, Sh (.tup [.str "stretch", .int fi, .tup [.int h, .int m, .int o], .str (sdS bk), .bl late]) _ c
      obtain ⟨c, z⟩ := shL_ex (n := 2 * r + 1) (ds := [.str "stretch", .int fi, .tup [.int h, .int m, .int o], .str (sdS bk), .bl late]) fun d hd => by
        simp only [List.mem_cons, List.mem_nil_iff, or_false] at hd
        unfold spOk at h2
        rcases hd with rfl | rfl | rfl | rfl | rfl
        · exact up ⟨_, Sh.ascii (by decide) (by decide)⟩ (by omega)
        · exact up ⟨_, sh_lt (by omega)⟩ (by omega)
        · exact up ⟨_, Sh.tup (ShL.ints (ns := [h, m, o]) fun x hx => by
            have b : (1000 : Int) < 10 ^ 100 := by decide
            simp only [List.mem_cons, List.mem_nil_iff, or_false] at hx
            rcases hx with rfl | rfl | rfl <;> omega)⟩ (by omega)
        · exact up ⟨_, sh_side bk⟩ (by omega)
        · exact up ⟨_, Sh.bl _⟩ (by omega)
      exact ⟨c, Sh.tup z⟩
  | r + 1, .blk t ss, k, hd => by
    obtain ⟨b, z⟩ := shL_ex (n := 2 * r) (ds := ss.map Stp.dat) fun d hd' => by
      obtain ⟨s, hs, rfl⟩ := List.mem_map.mp hd'
      exact sh_dat r (k.ss s hs) (deep_in hd hs)
    have ht := k.t
    rw [dat_blk]
    obtain ⟨c, y⟩ := shL_ex (n := 2 * r + 1) (ds := [.str "block", .int (t : Nat), .lst (ss.map Stp.dat)]) fun d hd => by
      simp only [List.mem_cons, List.mem_nil_iff, or_false] at hd
      rcases hd with rfl | rfl | rfl
      · exact up ⟨_, Sh.ascii (by decide) (by decide)⟩ (by omega)
      · exact up ⟨_, sh_lt (by omega)⟩ (by omega)
      · exact ⟨_, Sh.lst z⟩
    exact ⟨c, Sh.tup y⟩
theorem sh_parts {ss : List Stp} (h : ∀ s ∈ ss, Fit s) : ∃ b, Sh (.lst (ss.map Stp.dat)) 11 b := by
  obtain ⟨b, z⟩ := shL_ex (n := 10) (ds := ss.map Stp.dat) fun d hd => by
    obtain ⟨s, hs, rfl⟩ := List.mem_map.mp hd
    exact sh_dat 5 (h s hs) (fit_deep (h s hs))
  exact ⟨b, Sh.lst z⟩
theorem noL_ints (f : List Int) : noLstL (f.map D.int) = true := by
  induction f with
  | nil => rfl
  | cons x f ih => simpa [noLstL, noLst] using ih
mutual
theorem noL_obj : ∀ s : Stp, noLst s.obj = true
  | .chg f b bk => by
    rw [obj_chg]
    simp only [chgD, chfs, noLst, noLstF, noL_ints, Bool.and_self]
  | .str fi h m o bk late => by
    rw [obj_str]
    simp only [strD, stfs, spanD, noLst, noLstF, noLstL, Bool.and_self]
  | .blk t ss => by
    rw [obj_blk]
    have e := noL_objs ss
    simp only [blkD, blfs, noLst, noLstF, Bool.and_self, Bool.and_true, ← objs_map, e]
theorem noL_objs : ∀ ss : List Stp, noLstL (objs ss) = true
  | [] => rfl
  | s :: ss => by
    show (noLst s.obj && noLstL (objs ss)) = true
    rw [noL_obj s, noL_objs ss]
    rfl
end
theorem pk_obj (s : Stp) : pk (.ok s.obj) = .ok s.obj := by
  unfold pk
  rw [if_pos (noL_obj s)]
theorem pk_big (x : Int) (w : Str) : pk (.ex "TooMany" [("most", .int x), ("what", .str w)]) = .ex "TooMany" [("most", .int x), ("what", .str w)] := rfl
theorem big_said {a b c d : Int} (h : 40 < a) : F_need_size (.int a) (.int b) (.int c) (.int d) = .ex "TooMany" [("most", .int 40), ("what", .str "said")] := by
  unfold F_need_size
  simp -implicitDefEqProofs only [s_bd, s_gt, h, decide_true, s_asB, if_true, s_ul2, bd_ex, bdF_ex, fin_ex]
theorem big_deep {a b c d : Int} (h0 : a ≤ 40) (h1 : b ≤ 120) (h2 : c ≤ 80) (h : 3 < d) : F_need_size (.int a) (.int b) (.int c) (.int d) = .ex "TooMany" [("most", .int 3), ("what", .str "deep")] := by
  have n0 : ¬ 40 < a := by omega
  have n1 : ¬ 120 < b := by omega
  have n2 : ¬ 80 < c := by omega
  unfold F_need_size
  simp -implicitDefEqProofs only [s_bd, s_gt, n0, n1, n2, h, decide_true, decide_false, Bool.false_eq_true, if_false, s_bdF, s_asB, if_true, s_ul2, bd_ex, bdF_ex, fin_ex]
theorem q_bdoneW {t : Nat} {ss : List Stp} (ht : t ≤ 12) (k : ∀ s ∈ ss, Fit s) (hd : deeps ss ≤ 4) : F_Block_done 5 (blkD t (ss.map Stp.obj)) = .ok (.int ((t * dones ss : Nat) : Int)) := by
  unfold F_Block_done
  simp only [s_bd, fld_bsteps, fld_btimes, s_itt, s_ul1]
  rw [lcF_gen (h := Stp.obj) (g := fun s => .int (s.done : Nat)) fun s hs => ?_]
  · have em := mul_t (x := ((dones ss : Nat) : Int)) ht
    simp only [s_bd, s_ul1]
    rw [s_sumN (f := Stp.done) (F := dones) rfl (fun _ _ => rfl), s_bd, em]
    show Tr.ok (D.int ((t : Int) * (dones ss : Nat))) = .ok (.int ((t * dones ss : Nat) : Int))
    rw [Int.natCast_mul]
  · have hk := k _ hs
    have hd' := Nat.le_trans (deeps_mem hs) hd
    cases s with
    | chg f b bk => simp [obj_chg, F_Step_done_at_Change, Stp.done]
    | str fi h m o bk late => simp [obj_str, F_Step_done_at_Stretch, Stp.done]
    | blk t xs => simp [obj_blk, q_bdone 4 hd' hk]
theorem q_bweightW {t : Nat} {ss : List Stp} (ht : t ≤ 12) (k : ∀ s ∈ ss, Fit s) (hd : deeps ss ≤ 4) : F_Block_weight 5 (blkD t (ss.map Stp.obj)) = .ok (.int ((t * wts ss : Nat) : Int)) := by
  unfold F_Block_weight
  simp only [s_bd, fld_bsteps, fld_btimes, s_itt, s_ul1]
  rw [lcF_gen (h := Stp.obj) (g := fun s => .int (s.wt : Nat)) fun s hs => ?_]
  · have em := mul_t (x := ((wts ss : Nat) : Int)) ht
    simp only [s_bd, s_ul1]
    rw [s_sumN (f := Stp.wt) (F := wts) rfl (fun _ _ => rfl), s_bd, em]
    show Tr.ok (D.int ((t : Int) * (wts ss : Nat))) = .ok (.int ((t * wts ss : Nat) : Int))
    rw [Int.natCast_mul]
  · have hk := k _ hs
    have hd' := Nat.le_trans (deeps_mem hs) hd
    cases s with
    | chg f b bk => simp [obj_chg, F_Change_weight, Stp.wt]
    | str fi h m o bk late =>
      cases hk with
      | str h1 h2 => simp [obj_str, q_sweight h2, Stp.wt]
    | blk t xs => simp [obj_blk, q_bweight 4 hd' hk]
theorem q_blk_big {t : Nat} {ss : List Stp} {fs : Fs} (ht : t ≤ 12) (k : ∀ s ∈ ss, Fit s) (hd : deeps ss ≤ 4) (hl : ss.length ≤ 900)
    (e : F_need_size (.int ((1 + saids ss : Nat) : Int)) (.int ((t * dones ss : Nat) : Int)) (.int ((t * wts ss : Nat) : Int)) (.int ((1 + deeps ss : Nat) : Int)) = .ex "TooMany" fs) :
    F_Block_of (.int (t : Nat)) (.lst (ss.map Stp.obj)) = .ex "TooMany" fs := by
  have e1 : (0 : Int) ≤ t ∧ (t : Int) ≤ 12 := by omega
  have e3 : (D.obj "Block" (blfs t (ss.map Stp.obj))) = blkD t (ss.map Stp.obj) := rfl
  have hd5 : (Stp.blk t ss).deep ≤ 5 := by show 1 + deeps ss ≤ 5; omega
  have e4 : putD "times" (.int t) (putD "steps" (.tup (ss.map Stp.obj)) []) = blfs t (ss.map Stp.obj) := rfl
  have l1 : ([] : Fs).length < 900 := by decide
  have l2 : (putD "steps" (.tup (ss.map Stp.obj)) []).length < 900 := by show 1 < 900; decide
  have q1 : F_Block_said 5 (blkD t (ss.map Stp.obj)) = .ok (.int ((1 + saids ss : Nat) : Int)) := q_bsaid 5 hd5
  have q2 : F_Block_deep 5 (blkD t (ss.map Stp.obj)) = .ok (.int ((1 + deeps ss : Nat) : Int)) := q_bdeep 5 hd5
  have em : F_Block___init__ [] (.int (t : Nat)) (.tup (ss.map Stp.obj)) = .ex "TooMany" fs := by
    simp -implicitDefEqProofs only [F_Block___init__, s_bd, s_ul3, q_is_within, e1, and_self, decide_true, s_asB, Bool.not_true, Bool.false_eq_true, if_false, s_bdF, s_ul1, need_objs, F_Holder___init___at_Block, l1, if_true, s_finI, l2, e4, e3, q1, q_bdoneW ht k hd, q_bweightW ht k hd, q2, s_nox, s_plI, s_ul4, e, bd_ex, finI_ex]
  have es : ∀ {α : Type} (k : List D → Tr α), stD 1 (D.int t :: ss.map Stp.obj) k = k [.int t, .tup (ss.map Stp.obj)] := fun k => s_stD (a := [.int t]) k rfl (by rw [List.length_map]; omega) (by decide)
  simp -implicitDefEqProofs only [F_Block_of, s_bd, s_seql, List.append_nil, es, s_ul2, em, bd_ex, fin_ex]
end Lw
end
section
set_option Elab.async false
set_option linter.all false
set_option maxRecDepth 100000
set_option maxHeartbeats 400000
namespace Lw
open PySem Gp
theorem q_law_deep : ∀ (r : Nat) (ss : List Stp), deeps ss < r → F__law_deep r (.lst (ss.map Stp.dat)) = .ok (.int (deeps ss : Nat))
  | 0, _, h => by omega
  | r + 1, ss, hd => by
    unfold F__law_deep
    simp -implicitDefEqProofs only [s_bd, s_itl]
    rw [(forF_fold (h := Stp.dat) (g := fun s (w : Int) => if w < (s.deep : Nat) then ((s.deep : Nat) : Int) else w) (I := fun w => 0 ≤ w) (fun s hs w hw => ?_) (Int.le_refl 0)).1]
    · rw [max_fold ss 0 (Int.le_refl 0)]
      simp -implicitDefEqProofs only [s_bdF, s_bd, s_finr]
      congr 2
    · have hs' : s.deep < r + 1 := Nat.lt_of_le_of_lt (deeps_mem hs) hd
      refine ⟨?_, by split <;> omega⟩
      cases s with
      | chg f b bk =>
        obtain ⟨e0, -⟩ := ix_chg f b bk
        simp -implicitDefEqProofs only [e0, s_bd, s_eqs, n_cb, decide_false, s_asB, Bool.false_eq_true, if_false, s_gt]
        rw [show (Stp.chg f b bk).deep = 1 from rfl]
        by_cases q : w < ((1 : Nat) : Int)
        · rw [if_pos q, if_pos (decide_eq_true (by omega))]; rfl
        · rw [if_neg q, if_neg (by simpa using q)]; rfl
      | str fi h m o bk late =>
        obtain ⟨e0, -⟩ := ix_str fi h m o bk late
        simp -implicitDefEqProofs only [e0, s_bd, s_eqs, n_sb, decide_false, s_asB, Bool.false_eq_true, if_false, s_gt]
        rw [show (Stp.str fi h m o bk late).deep = 1 from rfl]
        by_cases q : w < ((1 : Nat) : Int)
        · rw [if_pos q, if_pos (decide_eq_true (by omega))]; rfl
        · rw [if_neg q, if_neg (by simpa using q)]; rfl
      | blk t xs =>
        obtain ⟨e0, -, e2⟩ := ix_blk t xs
        have hx : deeps xs < r := by
          have : (Stp.blk t xs).deep = 1 + deeps xs := rfl
          omega
        have ez : (1 : Int) + (deeps xs : Nat) = ((Stp.blk t xs).deep : Nat) := by
          show _ = ((1 + deeps xs : Nat) : Int)
          omega
        simp -implicitDefEqProofs only [e0, e2, s_bd, s_eqs, decide_true, s_asB, if_true, s_ul1, q_law_deep r xs hx, s_add, s_gt, ez]
        by_cases q : w < ((Stp.blk t xs).deep : Nat)
        · rw [if_pos q, if_pos (decide_eq_true q)]; rfl
        · rw [if_neg q, if_neg (by simpa using q)]; rfl
theorem heard_deep : F__law_heard (.ex "TooMany" [("most", .int 3), ("what", .str "deep")]) = .ok (.lst [.str "many", .str "deep", .int 3]) := rfl
theorem heard_ok (d : D) : F__law_heard (.ok d) = .ok d := rfl
theorem eqO_plainB {t : Nat} {a : List Stp} {d : D} (h : isi_Block d = some false) (he : eqr_Block d = true) : eqO "Block" eqr_Block (ul2 (F_Block___eq__ 5)) (Stp.blk t a).obj d = .ok (.bl false) := by
  rw [obj_blk]
  unfold eqO
  rw [isO_blk, if_pos he, s_ul2]
  simp -implicitDefEqProofs only [F_Block___eq__, s_bd, h, s_opt, s_asB, Bool.false_eq_true, if_false, s_finr]
theorem neO_plainB {t : Nat} {a : List Stp} {d : D} (h : isi_Block d = some false) (he : eqr_Block d = true) : neO "Block" eqr_Block (ul2 (F_Block___eq__ 5)) (Stp.blk t a).obj d = .ok (.bl true) := by
  rw [obj_blk]
  unfold neO
  rw [isO_blk, if_pos he, s_ul2]
  simp -implicitDefEqProofs only [F_Block___eq__, s_bd, h, s_opt, s_asB, Bool.false_eq_true, if_false, s_finr]
  rfl
theorem eqr_stp (s : Stp) : eqr_Block s.obj = true := by
  cases s with
  | chg f b bk => rfl
  | str fi h m o bk late => rfl
  | blk t xs => rw [obj_blk]; rfl
theorem eqO_blk {t : Nat} {a : List Stp} (s : Stp) (h : (Stp.blk t a).deep ≤ 5) : eqO "Block" eqr_Block (ul2 (F_Block___eq__ 5)) (Stp.blk t a).obj s.obj = .ok (.bl ((Stp.blk t a).beq s)) := by
  have z := q_blk_eq 5 (t := t) (ss := a) s h
  rw [obj_blk] at z ⊢
  unfold eqO
  rw [isO_blk, if_pos (eqr_stp s), s_ul2, z]
theorem neO_blk {t : Nat} {a : List Stp} (s : Stp) (h : (Stp.blk t a).deep ≤ 5) : neO "Block" eqr_Block (ul2 (F_Block___eq__ 5)) (Stp.blk t a).obj s.obj = .ok (.bl (!(Stp.blk t a).beq s)) := by
  have z := q_blk_eq 5 (t := t) (ss := a) s h
  rw [obj_blk] at z ⊢
  unfold neO
  rw [isO_blk, if_pos (eqr_stp s), s_ul2, z]
  rfl
theorem ne_beq {a b : Stp} (h : a ≠ b) : a.beq b = false := by
  cases e : a.beq b with
  | false => rfl
  | true => exact absurd (beq_eq e) h
theorem cut_last {α : Type} (xs : List α) : cutG xs none (some (-1)) = xs.take (xs.length - 1) := by
  unfold cutG
  have e0 : HT.sIx xs.length 0 none = 0 := rfl
  have e1 : HT.sIx xs.length xs.length (some (-1)) = xs.length - 1 := by
    unfold HT.sIx
    dsimp only
    rw [if_pos (by decide)]
    omega
  rw [e0, e1, List.drop_zero, Nat.sub_zero]
theorem iB_b (t : Nat) (ss : List Stp) : isi_Block (Stp.blk t ss).obj = some true ∧ isi_Step (Stp.blk t ss).obj = some true ∧ isi_Holder (Stp.blk t ss).obj = some true := by
  rw [obj_blk]
  exact ⟨rfl, rfl, rfl⟩
theorem fl_b (t : Nat) (ss : List Stp) : fldD "Block" "times" (Stp.blk t ss).obj = .ok (.int (t : Nat)) ∧ fldD "Block" "steps" (Stp.blk t ss).obj = .ok (.tup (ss.map Stp.obj)) := by
  rw [obj_blk]
  exact ⟨rfl, rfl⟩
theorem fit_small {t : Nat} {ss xs : List Stp} (hp : Prt ss 6) (hd : deeps ss ≤ 2) (ht : t ≤ 12) (h : ∀ s ∈ xs, s ∈ ss) (h1 : saids xs ≤ saids ss) (h2 : wts xs ≤ wts ss) : Fit (.blk t xs) := by
  have hw := hp.wt
  have hs := hp.said
  have hf : ∀ s ∈ xs, Fit s := fun s k => (hp.drw s (h s k)).fit
  have hz := dones_wts hf
  have hD : deeps xs ≤ 2 := deeps_le fun s k => Nat.le_trans (deeps_mem (h s k)) hd
  have m1 : t * dones xs ≤ 12 * 6 := Nat.mul_le_mul ht (by omega)
  have m2 : t * wts xs ≤ 12 * 6 := Nat.mul_le_mul ht (by omega)
  exact .blk ht hf (by omega) (by omega) (by omega) (by omega)
theorem take_sum {F : List Stp → Nat} (app : ∀ a b, F (a ++ b) = F a + F b) (k : Nat) (ss : List Stp) : F (ss.take k) ≤ F ss := by
  have z := app (ss.take k) (ss.drop k)
  rw [List.take_append_drop] at z
  omega
theorem q_block_ofT {t : Nat} {ss : List Stp} (k : Fit (.blk t ss)) : F_Block_of (.int t) (.tup (ss.map Stp.obj)) = .ok (Stp.blk t ss).obj := by
  simp only [F_Block_of, s_bd, s_seqt, List.append_nil, q_block_st k, s_finr]
theorem b_kept : Bx (fun d => d = .bl true) (F__law_kept_right .pen) (drawsN 2 * 4 + 2) := by
  have l4 : ∀ a b c d : D, (if ([a, b, c, d] : List D).length ≤ sizeLine then Tr.ok (D.lst [a, b, c, d]) else .bad) = .ok (.lst [a, b, c, d]) := fun _ _ _ _ => if_pos (by simp [sizeLine])
  have l3 : ∀ a b c : D, (if ([a, b, c] : List D).length ≤ sizeLine then Tr.ok (D.lst [a, b, c]) else .bad) = .ok (.lst [a, b, c]) := fun _ _ _ => if_pos (by simp [sizeLine])
  have l0 : (if ([] : List D).length ≤ sizeLine then Tr.ok (D.lst []) else .bad) = .ok (.lst []) := if_pos (by simp)
  unfold F__law_kept_right
  simp -implicitDefEqProofs only [s_bd, s_ul3, s_finbd]
  refine bx_then (a := drawsN 2 * 4 + 1) (b := 1) (b_parts (m := 4) (c := 6) (by decide)) (fun x hx => ?_) (by omega)
  obtain ⟨ss, rfl, hp, hl⟩ := hx
  have pg := hp.prg (by decide)
  have el : lcF (fun d => nox (bd (F__law_made 5 d) fun y => .ok (some y))) (ss.map Stp.dat) = .ok (ss.map Stp.obj) := lcF_gen fun s hs => by rw [q_law_made 5 (pg.fit s hs) (fit_deep (pg.fit s hs))]; rfl
  simp -implicitDefEqProofs only [s_bd, s_itl, s_ul1, el, l4, s_ul2, s_bdbd, s_finbd]
  refine bx_then (a := 1) (b := 0) (P := fun d => ∃ t : Nat, d = .int (t : Nat) ∧ (t = 0 ∨ t = 1 ∨ t = 2 ∨ t = 12)) (b_pick (by simp) (by simp) fun d hd => ?_) (fun x hx => ?_) (by decide)
  · simp only [List.mem_cons, List.mem_nil_iff, or_false] at hd
    rcases hd with rfl | rfl | rfl | rfl
    · exact ⟨0, rfl, .inl rfl⟩
    · exact ⟨1, rfl, .inr (.inl rfl)⟩
    · exact ⟨2, rfl, .inr (.inr (.inl rfl))⟩
    · exact ⟨12, rfl, .inr (.inr (.inr rfl))⟩
  obtain ⟨t, rfl, ht⟩ := hx
  have ht12 : t ≤ 12 := by omega
  have hz : (ss.map Stp.obj).length < sizeLine := by
    rw [List.length_map]
    have := szS (k := ss.length + 1) (by omega)
    omega
  have uo : ∀ {α : Type} (k : List D → Tr α) (ds : List D), uoD k (.lst ds) = k ds := fun _ _ => rfl
  have n1 : ∀ b : Bool, isi_Block (.lst [.str "many", .str "deep", .int 3]) = some false := fun _ => rfl
  have hw := hp.wt
  have hs := hp.said
  have hd3 : deeps ss ≤ 3 := deeps_le fun s k => (hp.drw s k).deep
  by_cases hd : deeps ss ≤ 2
  · have fb : Fit (.blk t ss) := fit_small hp hd ht12 (fun _ h => h) (Nat.le_refl _) (Nat.le_refl _)
    have d5 := fit_deep fb
    obtain ⟨t', h12, hne, et⟩ : ∃ t' : Nat, t' ≤ 12 ∧ t' ≠ t ∧ (if decide ((0 : Int) < (t : Nat)) = true then Tr.ok (D.int ((t : Nat) - 1)) else .ok (.int 1)) = .ok (.int (t' : Nat)) := by
      rcases ht with rfl | rfl | rfl | rfl
      · exact ⟨1, by decide, by decide, rfl⟩
      · exact ⟨0, by decide, by decide, rfl⟩
      · exact ⟨1, by decide, by decide, rfl⟩
      · exact ⟨11, by decide, by decide, rfl⟩
    have fb' : Fit (.blk t' ss) := fit_small hp hd h12 (fun _ h => h) (Nat.le_refl _) (Nat.le_refl _)
    have fbl : Fit (.blk t (ss.take (ss.length - 1))) := fit_small hp hd ht12 (fun _ h => List.mem_of_mem_take h) (take_sum saids_app _ ss) (take_sum wts_app _ ss)
    obtain ⟨i1, i2, i3⟩ := iB_b t ss
    obtain ⟨f1, f2⟩ := fl_b t ss
    obtain ⟨er, eR⟩ : ∃ x, reprD (.int (t : Nat)) = .ok (.str x) := by
      rcases ht with rfl | rfl | rfl | rfl <;> exact ⟨_, rfl⟩
    have ene : neD (.str er) (.str er) = .ok (.bl false) := by rw [s_nes, decide_eq_true rfl] <;> rfl
    have etup : ∀ ds : List D, tupD (.lst ds) = .ok (.tup ds) := fun _ => rfl
    have eq1 : eqTD (esT 5) (.tup (ss.map Stp.obj)) (.tup (ss.map Stp.obj)) = .ok (.bl true) := by
      show bd (eqLs (esT 5) (ss.map Stp.obj) (ss.map Stp.obj)) _ = _
      rw [q_eqLs fun s hs s' t xs e => by subst e; exact q_blk_eq 5 s' (fit_deep (pg.fit _ hs)), beqs_refl]
      rfl
    have nb : notD (.bl true) = .ok (.bl false) := rfl
    have eC : F_Change___init__ [] (.tup []) (.tup []) (.str "front") = .ok (chfs [] [] "front") := q_change (f := []) (b := []) told_nil told_nil (.inl rfl)
    have l_ne : eqO "Block" eqr_Block (ul2 (F_Block___eq__ 5)) (Stp.blk t ss).obj (.lst (ss.map Stp.obj)) = .ok (.bl false) := eqO_plainB rfl rfl
    have n_ne : neO "Block" eqr_Block (ul2 (F_Block___eq__ 5)) (Stp.blk t ss).obj .non = .ok (.bl true) := neO_plainB rfl rfl
    have nn : neNil (.lst (ss.map Stp.obj)) (.lst []) = .ok (.bl !(ss.map Stp.obj).isEmpty) := rfl
    have asi : asI (.int (-1)) = .ok (some (-1)) := rfl
    have sll : slD (.lst (ss.map Stp.obj)) none (some (-1)) = .ok (.lst ((ss.take (ss.length - 1)).map Stp.obj)) := by
      show Tr.ok (D.lst (cutG (ss.map Stp.obj) none (some (-1)))) = _
      rw [cut_last, List.length_map, List.map_take]
    have q3 : (Stp.blk t' ss).beq (.blk t ss) = false := ne_beq fun e => hne (by cases e; rfl)
    simp -implicitDefEqProofs only [uo, s_bd, q_block_of fb, pk_obj, heard_ok, s_nox, i1, i2, i3, s_opt, s_asB, Bool.not_true, Bool.false_eq_true, if_false, s_bdF, List.nil_append, s_ul3, eC, hz, if_true, f1, f2, s_ul1, eR, ene, etup, eq1, nb, q_block_ofT fb, neO_blk (.blk t ss) d5, beq_refl, l_ne, n_ne, l0, nn, s_gt, s_sub, s_neg, asi, sll, s_ul2, et, q_block_of fb', q_block_of fbl, neO_blk (.blk t ss) (fit_deep fb'), q3, Bool.not_false]
    cases ss with
    | nil =>
      simp -implicitDefEqProofs only [List.map_nil, List.isEmpty_nil, Bool.not_true, Bool.false_eq_true, if_false, s_bd, s_bdF, s_finr]
      exact bx_ok rfl
    | cons a l =>
      have q4 : (Stp.blk t (a :: l)).beq (.blk t ((a :: l).take ((a :: l).length - 1))) = false := ne_beq fun e => by
        have z : a :: l = (a :: l).take ((a :: l).length - 1) := by
          injection e
        have y := congrArg List.length z
        rw [List.length_take] at y
        simp only [List.length_cons] at y
        omega
      simp -implicitDefEqProofs only [List.map_cons, List.isEmpty_cons, Bool.not_false, if_true, s_bd, eqO_blk _ d5, q4, s_asB, Bool.false_eq_true, if_false, s_bdF, s_finr]
      exact bx_ok rfl
  · have m1 : t * dones ss ≤ 12 * 6 := Nat.mul_le_mul ht12 (by have := dones_wts pg.fit; omega)
    have m2 : t * wts ss ≤ 12 * 6 := Nat.mul_le_mul ht12 (by omega)
    have qb := q_blk_big (t := t) (ss := ss) ht12 pg.fit (by omega) (by omega) (big_deep (a := ((1 + saids ss : Nat) : Int)) (b := ((t * dones ss : Nat) : Int)) (c := ((t * wts ss : Nat) : Int)) (d := ((1 + deeps ss : Nat) : Int)) (by omega) (by omega) (by omega) (by omega))
    have i1 : isi_Block (.lst [.str "many", .str "deep", .int 3]) = some false := rfl
    have nep : neD (.lst (ss.map Stp.dat)) (.lst []) = .ok (.bl true) := by
      obtain ⟨b, z⟩ := sh_parts pg.fit
      cases ss with
      | nil => exact absurd (Nat.zero_le 2) hd
      | cons a l => exact ne_nil z (by decide)
    have gd : decide ((2 : Int) < (deeps ss : Nat)) = true := decide_eq_true (by omega)
    have ee : eqD (.lst [.str "many", .str "deep", .int 3]) (.lst [.str "many", .str "deep", .int 3]) = .ok (.bl true) := (sh_eqN (Sh.lst (ShL.cons (Sh.ascii (by decide) (by decide)) (ShL.cons (Sh.ascii (by decide) (by decide)) (ShL.cons (sh_lt (x := 3) (by decide)) (ShL.nil (n := 0) (b := 0)))))) (by decide) rfl).1
    simp -implicitDefEqProofs only [uo, s_bd, qb, pk_big, heard_deep, s_nox, i1, s_opt, s_asB, Bool.not_false, if_true, l0, nep, s_ul1, q_law_deep 5 ss (by omega), s_gt, gd, l3, ee, s_bdFr, s_finr, s_ul2]
    exact bx_ok rfl
end Lw
end
section
set_option Elab.async false
set_option linter.all false
set_option maxRecDepth 100000
set_option maxHeartbeats 400000
namespace Lw
open PySem Gp
theorem forF_ex {L : Type} {f : D → Unit → Tr (Fl Unit Unit)} {x : D} {c : Str} {fs : Fs} {B : List D} (hx : f x () = .ex c fs) : ∀ {A : List D}, (∀ d ∈ A, f d () = .ok (.nx ())) → forF (L := L) f (A ++ x :: B) () = .ex c fs
  | [], _ => by rw [List.nil_append, forF_cons, hx]; rfl
  | a :: A, h => by
    rw [List.cons_append, forF_cons, h a List.mem_cons_self, s_bd]
    exact forF_ex hx fun d hd => h d (List.mem_cons_of_mem _ hd)
theorem need_bad {A B : List D} {x : D} (h : ∀ d ∈ A, isi_Step d = some true) (hx : isi_Step x = some false) : F_need_steps (.tup (A ++ x :: B)) = .ex "BadStep" [("at", .int (A.length : Nat))] := by
  have e : enD (.tup (A ++ x :: B)) = .ok ((A.mapIdx fun i d => D.tup [.int i, d]) ++ D.tup [.int (A.length : Nat), x] :: (B.mapIdx fun i d => D.tup [.int ((i + 1 + A.length : Nat) : Int), d])) := by
    show Tr.ok ((A ++ x :: B).mapIdx fun i d => D.tup [.int i, d]) = _
    rw [List.mapIdx_append, List.mapIdx_cons]
    simp
  unfold F_need_steps
  simp only [s_bd, s_ul1, e]
  rw [forF_ex (c := "BadStep") (fs := [("at", .int (A.length : Nat))]) ?_ fun d hd => ?_]
  · rfl
  · simp only [s_un2, s_bd, hx, s_opt, s_asB, Bool.not_false, if_true, bdF_ex]
  · obtain ⟨i, hi, rfl⟩ := List.mem_mapIdx.mp hd
    simp only [s_un2, s_bd, h _ (List.getElem_mem hi), s_opt, s_asB, Bool.not_true, Bool.false_eq_true, if_false, s_bdF]
theorem bad_step {t : Int} {A B : List D} {x : D} (ht : 0 ≤ t ∧ t ≤ 12) (h : ∀ d ∈ A, isi_Step d = some true) (hx : isi_Step x = some false) (hl : (A ++ x :: B).length ≤ 900) : F_Block_of (.int t) (.lst (A ++ x :: B)) = .ex "BadStep" [("at", .int (A.length : Nat))] := by
  have em : F_Block___init__ [] (.int t) (.tup (A ++ x :: B)) = .ex "BadStep" [("at", .int (A.length : Nat))] := by
    simp -implicitDefEqProofs only [F_Block___init__, s_bd, s_ul3, q_is_within, ht, and_self, decide_true, s_asB, Bool.not_true, Bool.false_eq_true, if_false, s_bdF, s_ul1, need_bad h hx, bd_ex, finI_ex]
  have es : ∀ {α : Type} (k : List D → Tr α), stD 1 (D.int t :: (A ++ x :: B)) k = k [.int t, .tup (A ++ x :: B)] := fun k => s_stD (a := [.int t]) k rfl (show (A ++ x :: B).length ≤ 1000 by omega) (by decide)
  simp -implicitDefEqProofs only [F_Block_of, s_bd, s_seql, List.append_nil, es, s_ul2, em, bd_ex, fin_ex]
theorem bad_times {d : D} {ds : List D} (h : F_is_within d (.int 0) (.int 12) = .ok (.bl false)) (hl : ds.length ≤ 900) : F_Block_of d (.lst ds) = .ex "BadStep" [("at", .str "times")] := by
  have em : F_Block___init__ [] d (.tup ds) = .ex "BadStep" [("at", .str "times")] := by
    simp -implicitDefEqProofs only [F_Block___init__, s_bd, s_ul3, h, s_asB, Bool.not_false, if_true, bd_ex, bdF_ex, finI_ex]
  have es : ∀ {α : Type} (k : List D → Tr α), stD 1 (d :: ds) k = k [d, .tup ds] := fun k => s_stD (a := [d]) k rfl (by omega) (by decide)
  simp -implicitDefEqProofs only [F_Block_of, s_bd, s_seql, List.append_nil, es, s_ul2, em, bd_ex, fin_ex]
theorem heard_bad (d : D) : F__law_heard (.ex "BadStep" [("at", d)]) = .ok (.lst [.str "step", d]) := rfl
theorem heard_draw (m : Int) (f : Int → Tr D) : F__law_heard (.draw m f) = .draw m fun d => F__law_heard (f d) := rfl
theorem nox_draw {α : Type} (m : Int) (f : Int → Tr α) : nox (.draw m f) = .draw m fun d => nox (f d) := rfl
abbrev oneS : Stp := .chg [] [] false
abbrev LS : List Stp := [oneS, .str 0 1 0 0 false false, .chg [1] [] false, .blk 2 [oneS]]
inductive OddS : D → Prop
  | a : OddS .non
  | b : OddS (.int 0)
  | c : OddS (.str "change")
  | d : OddS (.lst [oneS.obj])
  | e : OddS (progD [])
  | f : OddS (spanD 1 0 0)
  | g : OddS (.tup [oneS.obj])
theorem odd_no {d : D} (h : OddS d) : isi_Step d = some false := by cases h <;> rfl
theorem flat1 (x : D) : ∀ k : Nat, (List.replicate k [x]).flatten = List.replicate k x
  | 0 => rfl
  | k + 1 => by rw [List.replicate_succ, List.flatten_cons, flat1 x k, List.replicate_succ]; rfl
theorem mr (k : Nat) (hk : k ≤ 1000) (x : D) : mulD (.lst [x]) (.int (k : Int)) = .ok (.lst (List.replicate k x)) := by
  have h : -(2 ^ 63) ≤ (k : Int) ∧ (k : Int) < 2 ^ 63 ∧ ([x] : List D).length * (k : Int).toNat ≤ sizeLine := ⟨by omega, by omega, by
    rw [List.length_singleton, Nat.one_mul, Int.toNat_natCast]
    exact szS hk⟩
  unfold mulD
  dsimp only
  rw [if_pos h, Int.toNat_natCast, flat1]
theorem eqk {d : D} {n b : Nat} (h : Sh d n b) (hn : n ≤ 40) : eqD (.lst [.str "step", d]) (.lst [.str "step", d]) = .ok (.bl true) ∧ neD (.lst [.str "step", d]) (.lst [.str "step", d]) = .ok (.bl false) :=
  sh_eqN (Sh.lst (ShL.cons ((Sh.ascii (by decide) (by decide)).le (Nat.zero_le n) (Nat.le_refl _)) (ShL.cons h (ShL.nil (n := n) (b := 0))))) (by omega) rfl
theorem told_1 : Told [1] := ⟨by simp, by simp, by decide⟩
theorem b_spoilt : Bx (fun d => d = .bl true) (F__law_spoilt_right .pen) 7 := by
  have eC : F_Change___init__ [] (.tup []) (.tup []) (.str "front") = .ok (chfs [] [] "front") := q_change (f := []) (b := []) told_nil told_nil (.inl rfl)
  have eC1 : F_Change___init__ [] (.tup [.int 1]) (.tup []) (.str "front") = .ok (chfs [1] [] "front") := q_change (f := [1]) (b := []) told_1 told_nil (.inl rfl)
  have k1 : spOk 1 0 0 := by unfold spOk; omega
  have e1 : D.obj "Span" [("own_parts", .tup [.int 1, .int 0, .int 0])] = spanD 1 0 0 := rfl
  have o1 : D.obj "Change" (chfs [] [] "front") = oneS.obj := rfl
  have eS : F_Stretch___init__ [] (.int 0) (spanD 1 0 0) (.str "front") (.bl false) = .ok (stfs 0 (spanD 1 0 0) "front" false) := q_stretch (.inl rfl) (.inl rfl)
  have eB : (stD 1 [.int 2, oneS.obj] fun es => bd (ul2 (F_Block___init__ []) es) fun fs => Tr.ok (D.obj "Block" fs)) = .ok (Stp.blk 2 [oneS]).obj := by rfl
  have eP : (stD 0 [] fun es => bd (ul1 (F_Program___init__ []) es) fun fs => Tr.ok (D.obj "Program" fs)) = .ok (progD []) := by rfl
  have t1 : ∀ x : D, (if ([x] : List D).length ≤ sizeLine then Tr.ok (D.tup [x]) else .bad) = .ok (.tup [x]) := fun _ => if_pos (by simp [sizeLine])
  have l1 : ∀ x : D, (if ([x] : List D).length ≤ sizeLine then Tr.ok (D.lst [x]) else .bad) = .ok (.lst [x]) := fun _ => if_pos (by simp [sizeLine])
  have l2 : ∀ x y : D, (if ([x, y] : List D).length ≤ sizeLine then Tr.ok (D.lst [x, y]) else .bad) = .ok (.lst [x, y]) := fun _ _ => if_pos (by simp [sizeLine])
  have l4 : ∀ x y z w : D, (if ([x, y, z, w] : List D).length ≤ sizeLine then Tr.ok (D.lst [x, y, z, w]) else .bad) = .ok (.lst [x, y, z, w]) := fun _ _ _ _ => if_pos (by simp [sizeLine])
  have l7 : ∀ a b c d e f g : D, (if ([a, b, c, d, e, f, g] : List D).length ≤ sizeLine then Tr.ok (D.lst [a, b, c, d, e, f, g]) else .bad) = .ok (.lst [a, b, c, d, e, f, g]) := fun _ _ _ _ _ _ _ => if_pos (by simp [sizeLine])
  have oL : D.lst [oneS.obj, .obj "Stretch" (stfs 0 (spanD 1 0 0) "front" false), .obj "Change" (chfs [1] [] "front"), (Stp.blk 2 [oneS]).obj] = .lst (LS.map Stp.obj) := rfl
  have hLS : (LS.map Stp.obj).length = 4 := rfl
  unfold F__law_spoilt_right
  simp -implicitDefEqProofs only [s_bd, List.nil_append, List.cons_append, s_ul3, eC, eC1, o1, t1, q_span k1, e1, s_ul4, eS, eB, s_nox, l4, oL, s_ul2, s_draw, s_bdd, s_find, s_add]
  refine bx_draw (n := 6) (by decide) (by decide) fun k k0 kk => ?_
  obtain ⟨k, rfl⟩ := Int.eq_ofNat_of_zero_le k0
  have asi1 : asI (.int (1 + (k : Nat))) = .ok (some ((k + 1 : Nat) : Int)) := by rw [show (1 : Int) + (k : Nat) = ((k + 1 : Nat) : Int) by omega]; rfl
  have hle : ((LS.map Stp.obj).take (k + 1)).length = k + 1 := by rw [List.length_take, hLS]; omega
  have eln : lenD (.lst ((LS.map Stp.obj).take (k + 1))) = .ok (.int ((k + 1 : Nat) : Int)) := by show Tr.ok (D.int (((LS.map Stp.obj).take (k + 1)).length : Nat)) = _; rw [hle]
  simp -implicitDefEqProofs only [asi1, s_bd, sl_to, s_ul1, eln, s_ul2, s_draw, s_bdd, s_find]
  refine bx_draw (n := 5) (by omega) (by omega) fun a a0 aa => ?_
  obtain ⟨a, rfl⟩ := Int.eq_ofNat_of_zero_le a0
  have ha : a < k + 1 := by omega
  simp -implicitDefEqProofs only [s_bd, List.nil_append, s_ul3, eC, o1, l1, t1, eP, s_nox, List.cons_append, q_span k1, e1, l7, s_ul2, s_finbd, s_bdbd]
  refine bx_then (a := 1) (b := 4) (P := OddS) (b_pick (by simp) (by simp) fun d hd => ?_) (fun x hx => ?_) (by decide)
  · simp only [List.mem_cons, List.mem_nil_iff, or_false] at hd
    rcases hd with rfl | rfl | rfl | rfl | rfl | rfl | rfl
    · exact .a
    · exact .b
    · exact .c
    · exact .d
    · exact .e
    · exact .f
    · exact .g
  generalize hS : (LS.map Stp.obj).take (k + 1) = S at *
  have asi : asI (.int (a : Nat)) = .ok (some (a : Int)) := rfl
  have a1 : ∀ (a b : List D), a.length + b.length ≤ 1000 → addD (.lst a) (.lst b) = .ok (.lst (a ++ b)) := fun a b h => s_addl (szS h)
  have b1 := a1 (S.take a) [x] (by rw [List.length_take, hle]; show _ + 1 ≤ _; omega)
  have b2 := a1 (S.take a ++ [x]) (S.drop a) (by rw [List.length_append, List.length_take, List.length_drop, hle]; show _ + 1 + _ ≤ _; omega)
  simp -implicitDefEqProofs only [s_bd, asi, sl_to, sl_from, l1, b1, b2, s_ul2, s_draw, s_bdd, s_find]
  refine bx_draw (n := 3) (by decide) (by decide) fun m m0 mm => ?_
  obtain ⟨m, rfl⟩ := Int.eq_ofNat_of_zero_le m0
  have b3 := a1 (S.take a ++ [x] ++ S.drop a) (List.replicate m .non) (by rw [List.length_append, List.length_append, List.length_take, List.length_drop, List.length_replicate, hle]; show _ + 1 + _ + _ ≤ _; omega)
  have eb : (S.take a ++ [x] ++ S.drop a) ++ List.replicate m .non = S.take a ++ x :: (S.drop a ++ List.replicate m .non) := by simp [List.append_assoc]
  rw [eb] at b3
  have bl : (S.take a ++ x :: (S.drop a ++ List.replicate m .non)).length ≤ 900 := by
    rw [List.length_append, List.length_cons, List.length_append, List.length_take, List.length_drop, List.length_replicate, hle]
    omega
  have hal : (S.take a).length = a := by rw [List.length_take, hle]; omega
  have hst : ∀ d ∈ S.take a, isi_Step d = some true := fun d hd => by
    have z := List.mem_of_mem_take hd
    rw [← hS] at z
    obtain ⟨s, _, rfl⟩ := List.mem_map.mp (List.mem_of_mem_take z)
    exact st_stp s
  simp -implicitDefEqProofs only [mr m (by omega), s_bd, b3, s_ul2, s_draw, s_bdd, heard_draw, nox_draw, s_bdFd, s_find]
  refine bx_draw (n := 2) (by decide) (by decide) fun t t0 tt => ?_
  have q1 := (eqk (d := .int (a : Nat)) (sh_lt (by omega)) (by decide)).2
  have bs := bad_step (t := t) (x := x) (B := S.drop a ++ List.replicate m .non) ⟨t0, by omega⟩ hst (odd_no hx) bl
  rw [hal] at bs
  simp -implicitDefEqProofs only [s_bd, s_ul2, bs, heard_bad, s_nox, l2, q1, s_asB, Bool.false_eq_true, if_false, s_bdF, s_neg, l1, l7, s_finbd, s_bdbd]
  refine bx_then (a := 1) (b := 1) (P := fun d => F_is_within d (.int 0) (.int 12) = .ok (.bl false)) (b_pick (by simp) (by simp) fun d hd => ?_) (fun y hy => ?_) (by decide)
  · simp only [List.mem_cons, List.mem_nil_iff, or_false] at hd
    rcases hd with rfl | rfl | rfl | rfl | rfl | rfl | rfl <;> rfl
  have q2 := (eqk (d := .str "times") (Sh.ascii (by decide) (by decide)) (by decide)).1
  simp -implicitDefEqProofs only [s_bd, l2, s_ul2, q_pick, s_bdd, heard_draw, nox_draw, s_find]
  refine bx_draw (n := 0) (by simp) (by simp) fun i i0 ii => ?_
  have hi : i = 0 ∨ i = 1 := by
    have : i < 2 := ii
    omega
  rcases hi with rfl | rfl
  · have ix : ∀ u v : D, ixD (.lst [u, v]) (.int 0) = .ok u := fun _ _ => rfl
    simp -implicitDefEqProofs only [ix, s_bd, s_ul2, bad_times hy (show S.length ≤ 900 by omega), heard_bad, s_nox, q2, s_finr]
    exact bx_ok rfl
  · have ix : ∀ u v : D, ixD (.lst [u, v]) (.int 1) = .ok v := fun _ _ => rfl
    simp -implicitDefEqProofs only [ix, s_bd, s_ul2, bad_times hy bl, heard_bad, s_nox, q2, s_finr]
    exact bx_ok rfl
end Lw
end
section
set_option Elab.async false
set_option linter.all false
set_option maxRecDepth 100000
set_option maxHeartbeats 800000
namespace Lw
open PySem Gp
theorem bx_loopI {L : Type} {f : D → Unit → Tr (Fl Unit Unit)} {ds : List D} {K : Unit → Tr (Fl Unit L)} {Q : Fl Unit L → Prop} {c b n : Nat} (h : ∀ d ∈ ds, Bx (fun r : Fl Unit Unit => r = .nx ()) (f d ()) c) (hk : Bx Q (K ()) b) (l : c * ds.length + b ≤ n) : Bx Q (bdF (forF f ds ()) K) n := by
  refine bx_of ?_
  unfold bdF
  refine bo_then (b := b) (bo_forU fun d hd => (h d hd).bo) (fun r hr => ?_) l
  subst hr
  exact hk.bo
theorem big_done {a b c d : Int} (h0 : a ≤ 40) (h : 120 < b) : F_need_size (.int a) (.int b) (.int c) (.int d) = .ex "TooMany" [("most", .int 120), ("what", .str "done")] := by
  have n0 : ¬ 40 < a := by omega
  unfold F_need_size
  simp -implicitDefEqProofs only [s_bd, s_gt, n0, h, decide_true, decide_false, Bool.false_eq_true, if_false, s_bdF, s_asB, if_true, s_ul2, bd_ex, bdF_ex, fin_ex]
theorem big_weight {a b c d : Int} (h0 : a ≤ 40) (h1 : b ≤ 120) (h : 80 < c) : F_need_size (.int a) (.int b) (.int c) (.int d) = .ex "TooMany" [("most", .int 80), ("what", .str "weight")] := by
  have n0 : ¬ 40 < a := by omega
  have n1 : ¬ 120 < b := by omega
  unfold F_need_size
  simp -implicitDefEqProofs only [s_bd, s_gt, n0, n1, h, decide_true, decide_false, Bool.false_eq_true, if_false, s_bdF, s_asB, if_true, s_ul2, bd_ex, bdF_ex, fin_ex]
theorem heard_big (x y : D) : F__law_heard (.ex "TooMany" [("most", x), ("what", y)]) = .ok (.lst [.str "many", y, x]) := rfl
abbrev mostD : D := .dic [(.inr "said", .int 40), (.inr "done", .int 120), (.inr "weight", .int 80), (.inr "deep", .int 3)]
def Cse (d : D) : Prop := ∃ (t : Nat) (ss : List Stp) (due : D), d = .tup [.int (t : Nat), .lst (ss.map Stp.obj), due] ∧ ((due = .non ∧ Fit (.blk t ss)) ∨ ∃ (w : Str) (n : Int), due = .str w ∧ Sh (.str w) 0 1000 ∧ (0 ≤ n ∧ n ≤ 1000) ∧ getK mostD (.str w) = .ok (.int n) ∧ F_Block_of (.int (t : Nat)) (.lst (ss.map Stp.obj)) = .ex "TooMany" [("most", .int n), ("what", .str w)])
theorem cse_ok {t : Nat} {ss : List Stp} (h : Fit (.blk t ss)) : Cse (.tup [.int (t : Nat), .lst (ss.map Stp.obj), .non]) := ⟨t, ss, _, rfl, .inl ⟨rfl, h⟩⟩
theorem cse_said {t : Nat} {ss : List Stp} (ht : t ≤ 12) (f : ∀ s ∈ ss, Fit s) (hd : deeps ss ≤ 4) (hl : ss.length ≤ 900) (h : 40 < 1 + saids ss) : Cse (.tup [.int (t : Nat), .lst (ss.map Stp.obj), .str "said"]) :=
  ⟨t, ss, _, rfl, .inr ⟨"said", 40, rfl, Sh.ascii (by decide) (by decide), by decide, rfl, q_blk_big ht f hd hl (big_said (by omega))⟩⟩
theorem cse_done {t : Nat} {ss : List Stp} (ht : t ≤ 12) (f : ∀ s ∈ ss, Fit s) (hd : deeps ss ≤ 4) (hl : ss.length ≤ 900) (h0 : 1 + saids ss ≤ 40) (h : 120 < t * dones ss) : Cse (.tup [.int (t : Nat), .lst (ss.map Stp.obj), .str "done"]) :=
  ⟨t, ss, _, rfl, .inr ⟨"done", 120, rfl, Sh.ascii (by decide) (by decide), by decide, rfl, q_blk_big ht f hd hl (big_done (by omega) (by omega))⟩⟩
theorem cse_wt {t : Nat} {ss : List Stp} (ht : t ≤ 12) (f : ∀ s ∈ ss, Fit s) (hd : deeps ss ≤ 4) (hl : ss.length ≤ 900) (h0 : 1 + saids ss ≤ 40) (h1 : t * dones ss ≤ 120) (h : 80 < t * wts ss) : Cse (.tup [.int (t : Nat), .lst (ss.map Stp.obj), .str "weight"]) :=
  ⟨t, ss, _, rfl, .inr ⟨"weight", 80, rfl, Sh.ascii (by decide) (by decide), by decide, rfl, q_blk_big ht f hd hl (big_weight (by omega) (by omega) (by omega))⟩⟩
theorem cse_deep {t : Nat} {ss : List Stp} (ht : t ≤ 12) (f : ∀ s ∈ ss, Fit s) (hd : deeps ss ≤ 4) (hl : ss.length ≤ 900) (h0 : 1 + saids ss ≤ 40) (h1 : t * dones ss ≤ 120) (h2 : t * wts ss ≤ 80) (h : 3 < 1 + deeps ss) : Cse (.tup [.int (t : Nat), .lst (ss.map Stp.obj), .str "deep"]) :=
  ⟨t, ss, _, rfl, .inr ⟨"deep", 3, rfl, Sh.ascii (by decide) (by decide), by decide, rfl, q_blk_big ht f hd hl (big_deep (by omega) (by omega) (by omega) (by omega))⟩⟩
abbrev hvy (h : Nat) (m : Int) : Stp := .str 0 (h : Nat) m 1 false false
theorem f_one : Fit oneS := .chg told_nil told_nil
theorem f_rep {s : Stp} (h : Fit s) (k : Nat) : ∀ x ∈ List.replicate k s, Fit x := fun x hx => by rw [(List.mem_replicate.mp hx).2]; exact h
theorem f_1 {s : Stp} (h : Fit s) : ∀ x ∈ [s], Fit x := fun x hx => by rw [List.mem_singleton.mp hx]; exact h
theorem f_0 : ∀ x ∈ ([] : List Stp), Fit x := fun _ h => absurd h List.not_mem_nil
theorem mrep (s : Stp) (k : Nat) : List.replicate k s.obj = (List.replicate k s).map Stp.obj := by rw [List.map_replicate]
theorem s_un3 {α : Type} (x y z : D) (k : D → D → D → Tr α) : un3 (.tup [x, y, z]) k = k x y z := rfl
theorem prg_1 {t : Nat} {ss : List Stp} (fb : Fit (.blk t ss)) : Prg [.blk t ss] := by
  have ⟨z1, z2, z3, z4⟩ := fb.sizes
  exact ⟨fun x hx => by rw [List.mem_singleton.mp hx]; exact fb, z1, z3, by show max (Stp.blk t ss).deep 0 ≤ 3; omega⟩
theorem prg_st1 {t : Nat} {ss : List Stp} (fb : Fit (.blk t ss)) : (stD 0 [(Stp.blk t ss).obj] fun es => bd (ul1 (F_Program___init__ []) es) fun fs => Tr.ok (D.obj "Program" fs)) = .ok (progD ([Stp.blk t ss].map Stp.obj)) := by
  have z := q_prog_st (prg_1 fb)
  rw [List.map_cons, List.map_nil] at z ⊢
  exact z
theorem eq_1 {t : Nat} {ss : List Stp} (fb : Fit (.blk t ss)) : eqTD (esT 5) (.tup ([Stp.blk t ss].map Stp.obj)) (.tup ([Stp.blk t ss].map Stp.obj)) = .ok (.bl true) := by
  have pg := prg_1 fb
  show bd (eqLs (esT 5) ([Stp.blk t ss].map Stp.obj) ([Stp.blk t ss].map Stp.obj)) _ = _
  rw [q_eqLs fun s hs s' t xs e => by subst e; exact q_blk_eq 5 s' (fit_deep (pg.fit _ hs)), beqs_refl]
  rfl
theorem t_1 {t : Nat} {ss : List Stp} : (if ([(Stp.blk t ss).obj] : List D).length ≤ sizeLine then Tr.ok (D.tup [(Stp.blk t ss).obj]) else .bad) = .ok (.tup ([Stp.blk t ss].map Stp.obj)) := if_pos (by simp [sizeLine])
theorem b_bounds : Bx (fun d => d = .bl true) (F__law_bounds_right .pen) 3 := by
  unfold F__law_bounds_right
  have eC : F_Change___init__ [] (.tup []) (.tup []) (.str "front") = .ok (chfs [] [] "front") := q_change (f := []) (b := []) told_nil told_nil (.inl rfl)
  have o1 : D.obj "Change" (chfs [] [] "front") = oneS.obj := rfl
  simp -implicitDefEqProofs only [s_bd, s_ul3, List.nil_append, eC, s_neg, o1, List.length_cons, List.length_nil, Nat.reduceAdd, szS, Nat.reduceLeDiff, if_true, s_ul2, s_draw, s_bdd, s_find, s_finbd, s_bdbd]
  refine bx_draw (n := 2) (by decide) (by decide) fun h h0 h1 => ?_
  obtain ⟨h, rfl⟩ := Int.eq_ofNat_of_zero_le h0
  have hh : h = 0 ∨ h = 1 := by omega
  refine bx_then (a := 1) (b := 1) (P := fun d => ∃ x : Int, d = .int x ∧ (x = 6 ∨ x = -6)) (b_pick (by simp) (by simp) fun d hd => ?_) (fun x hx => ?_) (by decide)
  · simp only [List.mem_cons, List.mem_nil_iff, or_false] at hd
    rcases hd with rfl | rfl
    · exact ⟨_, rfl, .inl rfl⟩
    · exact ⟨_, rfl, .inr rfl⟩
  obtain ⟨m, rfl, hm⟩ := hx
  have ks : spOk (h : Nat) m 1 := by unfold spOk; omega
  have e2 : D.obj "Span" [("own_parts", .tup [.int (h : Nat), .int m, .int 1])] = spanD (h : Nat) m 1 := rfl
  have eS : F_Stretch___init__ [] (.int 0) (spanD (h : Nat) m 1) (.str "front") (.bl false) = .ok (stfs 0 (spanD (h : Nat) m 1) "front" false) := q_stretch (.inl rfl) (.inl rfl)
  have e3 : D.obj "Stretch" (stfs 0 (spanD (h : Nat) m 1) "front" false) = (hvy h m).obj := rfl
  have fsp : fldD "Stretch" "span" (hvy h m).obj = .ok (spanD (h : Nat) m 1) := rfl
  have isp : ∀ {α : Type} (k : Fs → Tr α), isO "Span" (spanD (h : Nat) m 1) k = k [("own_parts", .tup [.int (h : Nat), .int m, .int 1])] := fun k => s_isO _ _ _
  have fh : Fit (hvy h m) := .str (.inl rfl) ks
  have hw : (hvy h m).wt = 8 + h := by
    rcases hh with rfl | rfl <;> rcases hm with rfl | rfl <;> rfl
  obtain ⟨c, c10, cw, ed2⟩ : ∃ c : Nat, c ≤ 10 ∧ c * (8 + h) ≤ 80 ∧ divD (.int 80) (.int (8 + (h : Nat))) = .ok (.int (c : Nat)) := by
    rcases hh with rfl | rfl
    · exact ⟨10, by decide, by decide, rfl⟩
    · exact ⟨8, by decide, by decide, rfl⟩
  have ed1 : divD (.int 80) (.int (12 * (8 + (h : Nat)))) = .ok (.int 0) := by
    rcases hh with rfl | rfl <;> rfl
  have em1 : mulD (.int 12) (.int (8 + (h : Nat))) = .ok (.int (12 * (8 + (h : Nat)))) := s_mul (.inl (by decide))
  have ez : (1 : Int) + 0 = 1 := rfl
  have f10 : Fit (.blk 10 [oneS]) := .blk (by decide) (f_1 f_one) (by decide) (by decide) (by decide) (by decide)
  have f12 : Fit (.blk 12 [oneS]) := .blk (by decide) (f_1 f_one) (by decide) (by decide) (by decide) (by decide)
  have f1 : Fit (.blk 1 [oneS]) := .blk (by decide) (f_1 f_one) (by decide) (by decide) (by decide) (by decide)
  have f11 : Fit (.blk 1 [.blk 1 [oneS]]) := .blk (by decide) (f_1 f1) (by decide) (by decide) (by decide) (by decide)
  have f0 : Fit (.blk 0 []) := .blk (by decide) f_0 (by decide) (by decide) (by decide) (by decide)
  have f00 : Fit (.blk 0 [.blk 0 []]) := .blk (by decide) (f_1 f0) (by decide) (by decide) (by decide) (by decide)
  have f000 : Fit (.blk 0 [.blk 0 [.blk 0 []]]) := .blk (by decide) (f_1 f00) (by decide) (by decide) (by decide) (by decide)
  have wh : wts [hvy h m] = 8 + h := by show (hvy h m).wt + 0 = _; rw [hw]; rfl
  have f0h : Fit (.blk 0 [hvy h m]) := .blk (by decide) (f_1 fh) (show 1 + (1 + 0) ≤ 40 by decide) (by rw [Nat.zero_mul]; decide) (by rw [Nat.zero_mul]; decide) (show 1 + max 1 0 ≤ 3 by decide)
  have f1h : Fit (.blk 1 [hvy h m]) := .blk (by decide) (f_1 fh) (show 1 + (1 + 0) ≤ 40 by decide) (show 1 * (1 + 0) ≤ 120 by decide) (by rw [wh]; omega) (show 1 + max 1 0 ≤ 3 by decide)
  have w1h : wts [Stp.blk 1 [hvy h m]] = 8 + h := by show 1 * wts [hvy h m] + 0 = _; rw [wh]; omega
  have f11h : Fit (.blk 1 [.blk 1 [hvy h m]]) := .blk (by decide) (f_1 f1h) (show 1 + (1 + (1 + 0) + 0) ≤ 40 by decide) (show 1 * (1 * (1 + 0) + 0) ≤ 120 by decide) (by rw [w1h]; omega) (show 1 + max (1 + max 1 0) 0 ≤ 3 by decide)
  have w11h : wts [Stp.blk 1 [.blk 1 [hvy h m]]] = 8 + h := by show 1 * wts [Stp.blk 1 [hvy h m]] + 0 = _; rw [w1h]; omega
  have k10 : (stD 1 [.int 10, oneS.obj] fun es => bd (ul2 (F_Block___init__ []) es) fun fs => Tr.ok (D.obj "Block" fs)) = .ok (Stp.blk 10 [oneS]).obj := q_block_st (t := 10) (ss := [oneS]) f10
  have k12 : (stD 1 [.int 12, oneS.obj] fun es => bd (ul2 (F_Block___init__ []) es) fun fs => Tr.ok (D.obj "Block" fs)) = .ok (Stp.blk 12 [oneS]).obj := q_block_st (t := 12) (ss := [oneS]) f12
  have k1 : (stD 1 [.int 1, oneS.obj] fun es => bd (ul2 (F_Block___init__ []) es) fun fs => Tr.ok (D.obj "Block" fs)) = .ok (Stp.blk 1 [oneS]).obj := q_block_st (t := 1) (ss := [oneS]) f1
  have k11 : (stD 1 [.int 1, (Stp.blk 1 [oneS]).obj] fun es => bd (ul2 (F_Block___init__ []) es) fun fs => Tr.ok (D.obj "Block" fs)) = .ok (Stp.blk 1 [.blk 1 [oneS]]).obj := q_block_st (t := 1) (ss := [.blk 1 [oneS]]) f11
  have k0 : (stD 1 [.int 0] fun es => bd (ul2 (F_Block___init__ []) es) fun fs => Tr.ok (D.obj "Block" fs)) = .ok (Stp.blk 0 []).obj := q_block_st (t := 0) (ss := []) f0
  have k00 : (stD 1 [.int 0, (Stp.blk 0 []).obj] fun es => bd (ul2 (F_Block___init__ []) es) fun fs => Tr.ok (D.obj "Block" fs)) = .ok (Stp.blk 0 [.blk 0 []]).obj := q_block_st (t := 0) (ss := [.blk 0 []]) f00
  have k000 : (stD 1 [.int 0, (Stp.blk 0 [.blk 0 []]).obj] fun es => bd (ul2 (F_Block___init__ []) es) fun fs => Tr.ok (D.obj "Block" fs)) = .ok (Stp.blk 0 [.blk 0 [.blk 0 []]]).obj := q_block_st (t := 0) (ss := [.blk 0 [.blk 0 []]]) f000
  have k0h : (stD 1 [.int 0, (hvy h m).obj] fun es => bd (ul2 (F_Block___init__ []) es) fun fs => Tr.ok (D.obj "Block" fs)) = .ok (Stp.blk 0 [hvy h m]).obj := q_block_st (t := 0) (ss := [hvy h m]) f0h
  have k1h : (stD 1 [.int 1, (hvy h m).obj] fun es => bd (ul2 (F_Block___init__ []) es) fun fs => Tr.ok (D.obj "Block" fs)) = .ok (Stp.blk 1 [hvy h m]).obj := q_block_st (t := 1) (ss := [hvy h m]) f1h
  have k11h : (stD 1 [.int 1, (Stp.blk 1 [hvy h m]).obj] fun es => bd (ul2 (F_Block___init__ []) es) fun fs => Tr.ok (D.obj "Block" fs)) = .ok (Stp.blk 1 [.blk 1 [hvy h m]]).obj := q_block_st (t := 1) (ss := [.blk 1 [hvy h m]]) f11h
  have m39 : ∀ x, mulD (.lst [x]) (.int 39) = .ok (.lst (List.replicate 39 x)) := fun x => mr 39 (by decide) x
  have m40 : ∀ x, mulD (.lst [x]) (.int 40) = .ok (.lst (List.replicate 40 x)) := fun x => mr 40 (by decide) x
  have m1 : ∀ x, mulD (.lst [x]) (.int 1) = .ok (.lst (List.replicate 1 x)) := fun x => mr 1 (by decide) x
  have m19 : ∀ x, mulD (.lst [x]) (.int 19) = .ok (.lst (List.replicate 19 x)) := fun x => mr 19 (by decide) x
  have m11 : ∀ x, mulD (.lst [x]) (.int 11) = .ok (.lst (List.replicate 11 x)) := fun x => mr 11 (by decide) x
  have m7 : ∀ x, mulD (.lst [x]) (.int 7) = .ok (.lst (List.replicate 7 x)) := fun x => mr 7 (by decide) x
  have mc : ∀ x, mulD (.lst [x]) (.int (c : Nat)) = .ok (.lst (List.replicate c x)) := fun x => mr c (by omega) x
  have s1 : ∀ s : Stp, ([s.obj] : List D) = [s].map Stp.obj := fun _ => rfl
  simp -implicitDefEqProofs only [s_bd, q_span ks, e2, List.cons_append, List.nil_append, s_ul4, eS, e3, fsp, isp, s_ul1, q_halves, s_nox, s_add, em1, ed1, ed2, ez, k10, k12, k1, k11, k0, k00, k000, k0h, k1h, k11h, m39, m40, m1, m19, m11, m7, mc, s_addl, List.length_cons, List.length_nil, Nat.reduceAdd, szS, Nat.reduceLeDiff, if_true, s_ul2, s_finbd, s_bdbd, mrep]
  refine bx_then (a := 1) (b := 0) (P := Cse) (b_pick (by simp) (by simp) fun d hd => ?_) (fun x hx => ?_) (by decide)
  · simp only [List.mem_cons, List.mem_nil_iff, or_false] at hd
    rcases hd with rfl | rfl | rfl | rfl | rfl | rfl | rfl | rfl | rfl | rfl | rfl | rfl | rfl | rfl | rfl
    · exact cse_ok (t := 1) (.blk (by decide) (f_rep f_one 39) (by decide +kernel) (by decide +kernel) (by decide +kernel) (by decide +kernel))
    · exact cse_said (t := 1) (by decide) (f_rep f_one 40) (by decide +kernel) (by decide +kernel) (by decide +kernel)
    · exact cse_said (t := 0) (by decide) (f_rep f_one 40) (by decide +kernel) (by decide +kernel) (by decide +kernel)
    · exact cse_ok (t := 2) (.blk (by decide) (f_rep f_one 39) (by decide +kernel) (by decide +kernel) (by decide +kernel) (by decide +kernel))
    · exact cse_wt (t := 12) (ss := [hvy h m]) (by decide) (f_1 fh) (show max 1 0 ≤ 4 by decide) (show 1 ≤ 900 by decide) (show 1 + (1 + 0) ≤ 40 by decide) (show 12 * (1 + 0) ≤ 120 by decide) (by rw [wh]; omega)
    · exact cse_wt (t := 12) (ss := [.blk 10 [oneS]]) (by decide) (f_1 f10) (by decide +kernel) (by decide +kernel) (by decide +kernel) (by decide +kernel) (by decide +kernel)
    · exact cse_ok (t := 3) (ss := List.replicate 19 (.blk 0 [hvy h m])) (.blk (by decide) (f_rep f0h 19) (by
        rcases hh with rfl | rfl <;> rcases hm with rfl | rfl <;> decide +kernel) (by
        rcases hh with rfl | rfl <;> rcases hm with rfl | rfl <;> decide +kernel) (by
        rcases hh with rfl | rfl <;> rcases hm with rfl | rfl <;> decide +kernel) (by
        rcases hh with rfl | rfl <;> rcases hm with rfl | rfl <;> decide +kernel))
    · exact cse_done (t := 12) (by decide) (f_rep f_one 11) (by decide +kernel) (by decide +kernel) (by decide +kernel) (by decide +kernel)
    · exact cse_deep (t := 1) (ss := [.blk 1 [.blk 1 [oneS]]]) (by decide) (f_1 f11) (by decide +kernel) (by decide +kernel) (by decide +kernel) (by decide +kernel) (by decide +kernel) (by decide +kernel)
    · exact cse_deep (t := 0) (ss := [.blk 0 [.blk 0 [.blk 0 []]]]) (by decide) (f_1 f000) (by decide +kernel) (by decide +kernel) (by decide +kernel) (by decide +kernel) (by decide +kernel) (by decide +kernel)
    · exact cse_wt (t := 12) (ss := [.blk 1 [.blk 1 [hvy h m]]]) (by decide) (f_1 f11h) (show max (1 + max (1 + max 1 0) 0) 0 ≤ 4 by decide) (show 1 ≤ 900 by decide) (show 1 + (1 + (1 + (1 + 0) + 0) + 0) ≤ 40 by decide) (show 12 * (1 * (1 * (1 + 0) + 0) + 0) ≤ 120 by decide) (by rw [w11h]; omega)
    · exact cse_ok (t := 1) (ss := [.blk 1 [oneS]]) f11
    · have cs : ∀ k : Nat, saids (List.replicate k (hvy h m)) = k ∧ dones (List.replicate k (hvy h m)) = k ∧ wts (List.replicate k (hvy h m)) = k * (8 + h) ∧ deeps (List.replicate k (hvy h m)) ≤ 1 := fun k => by
        induction k with
        | zero => exact ⟨rfl, rfl, by rw [Nat.zero_mul]; rfl, Nat.zero_le _⟩
        | succ k ih =>
          obtain ⟨i1, i2, i3, i4⟩ := ih
          rw [List.replicate_succ]
          refine ⟨?_, ?_, ?_, ?_⟩
          · show 1 + saids _ = _
            rw [i1]; omega
          · show 1 + dones _ = _
            rw [i2]; omega
          · show (hvy h m).wt + wts _ = _
            rw [i3, hw, Nat.succ_mul]; omega
          · show max 1 (deeps _) ≤ 1
            omega
      obtain ⟨i1, i2, i3, i4⟩ := cs c
      exact cse_ok (t := 1) (ss := List.replicate c (hvy h m)) (.blk (by decide) (f_rep fh c) (by rw [i1]; omega) (by rw [i2]; omega) (by rw [i3]; omega) (by omega))
    · exact cse_ok (t := 0) (.blk (by decide) (f_rep f12 7) (by decide +kernel) (by decide +kernel) (by decide +kernel) (by decide +kernel))
    · exact cse_ok (t := 0) (.blk (by decide) (f_rep f12 11) (by decide +kernel) (by decide +kernel) (by decide +kernel) (by decide +kernel))
  obtain ⟨t, ss, due, rfl, z⟩ := hx
  rcases z with ⟨rfl, fb⟩ | ⟨w, n, rfl, hwl, hn, eg, eo⟩
  · have n1 : isN .non = true := rfl
    have i1 := (iB_b t ss).1
    have eP := prg_st1 fb
    have t1 := t_1 (t := t) (ss := ss)
    have e := eq_1 fb
    have e' : eqTD (esT 5) (.tup ([Stp.blk t ss].map Stp.obj)) (.tup [(Stp.blk t ss).obj]) = .ok (.bl true) := e
    simp -implicitDefEqProofs only [s_un3, s_ul2, q_block_of fb, heard_ok, s_nox, s_bd, n1, s_asB, if_true, i1, s_opt, eP, fld_steps, t1, e, e', s_bdFr, s_finr]
    exact bx_ok rfl
  · have n1 : isN (.str w) = false := rfl
    have l3 : ∀ a b c : D, (if ([a, b, c] : List D).length ≤ sizeLine then Tr.ok (D.lst [a, b, c]) else .bad) = .ok (.lst [a, b, c]) := fun _ _ _ => if_pos (by simp [sizeLine])
    have e : eqD (.lst [.str "many", .str w, .int n]) (.lst [.str "many", .str w, .int n]) = .ok (.bl true) := (sh_eqN (Sh.lst (ShL.cons (Sh.ascii (by decide) (by decide)) (ShL.cons hwl (ShL.cons (sh_lt (x := n) (by omega)) (ShL.nil (n := 0) (b := 0)))))) (by decide) rfl).1
    simp -implicitDefEqProofs only [s_un3, s_ul2, eo, heard_big, s_nox, s_bd, n1, s_asB, Bool.false_eq_true, if_false, s_bdF, eg, l3, e, s_finr]
    exact bx_ok rfl
theorem law_yes : Yes F_law := by
  refine Bo.yes (n := (drawsN 2 * 4 + 20) * 5 + 1) (by decide +kernel) ?_
  apply Bx.bo
  unfold F_law
  have e5 : rg1 (.int 5) = .ok ((List.range' 0 5).map fun k : Nat => D.int k) := s_rg1 (m := 5) (by decide)
  have e3 : rg1 (.int 3) = .ok ((List.range' 0 3).map fun k : Nat => D.int k) := s_rg1 (m := 3) (by decide)
  simp -implicitDefEqProofs only [s_bd, s_ul1, e5]
  refine bx_loopU (c := drawsN 2 * 4 + 20) (b := 1) (fun d hd => ?_) (bx_ok rfl) (by rw [List.length_map, List.length_range']; exact Nat.le_refl _)
  simp -implicitDefEqProofs only [s_bd, s_ul1, e3, s_bdFbd, s_bdbd]
  refine bx_thenX (a := drawsN 2 * 4 + 2) (b := 18) b_kept (fun d hd => ?_) (by omega)
  subst hd
  simp -implicitDefEqProofs only [s_bd, s_asB, Bool.not_true, Bool.false_eq_true, if_false, s_bdFbd, s_bdbd]
  refine bx_thenX (a := 7) (b := 11) b_spoilt (fun d hd => ?_) (by decide)
  subst hd
  simp -implicitDefEqProofs only [s_bd, s_asB, Bool.not_true, Bool.false_eq_true, if_false, s_bdF]
  refine bx_loopI (c := 3) (b := 0) (fun d hd => ?_) (bx_ok rfl) (by rw [List.length_map, List.length_range']; decide)
  refine bx_thenX (a := 3) (b := 0) b_bounds (fun d hd => ?_) (by decide)
  subst hd
  simp -implicitDefEqProofs only [s_bd, s_asB, Bool.not_true, Bool.false_eq_true, if_false, s_bdF]
  exact bx_ok rfl
end Lw
end
section
set_option Elab.async false
set_option linter.all false
set_option maxRecDepth 100000
set_option maxHeartbeats 4000000
set_option pp.maxSteps 600
namespace Lw
open PySem PySem.Spec PyProof.Rows L2 Gh Gp
theorem pm_PromO {P : Program} {w : World} {K : PySem.W.Frag} {mg : Str → Option Value} {base : Heap} {CX : CXT} {k : Nat} {f : Addr} {fd : FuncData} {ps : List Str} {sp : Sp} (G : FnOk P w K mg base CX k f fd ps sp) (b : Binds K fd ps []) : PromO P w K mg base CX k f [] sp := ⟨fd, ps, [], G, b, .nil⟩
theorem pm_Prom {P : Program} {w : World} {K : PySem.W.Frag} {mg : Str → Option Value} {base : Heap} {CX : CXT} {k : Nat} {f : Addr} {fd : FuncData} {ps : List Str} {sp : Sp} (G : FnG P w K mg base CX k f fd ps sp) (b : Binds K fd ps []) : Prom P w K mg base CX k f [] sp := ⟨fd, ps, [], G, b, .nil⟩
def TTl (K : PySem.W.Frag) : List (Addr × Str) := [((He.cT K ("_law_kept_right", none)).2, Gp.qlOf d__law_kept_right K), ((He.cT K ("_law_spoilt_right", none)).2, Gp.qlOf d__law_spoilt_right K), ((He.cT K ("_law_bounds_right", none)).2, Gp.qlOf d__law_bounds_right K)]
theorem facts {P : Program} {w : World} {K : PySem.W.Frag} {h : Heap} {mg : Str → Option Value} {f : Addr} (X : K.In h) (G : h.Ns mainGlobals mg) (hfa : mg ("law" : Str) = some (.ref f)) (c2 : Gp.SaysS exs fns tfs sds pfile h K) (gl : (He.Fa.glo "law").ok K = true) (hP : ((P.main.file : Str) == pfile) = true ∧ (P.main.scope.names.lookup ("super" : Str)).isSome = false) :
    ∃ fd : FuncData, (∀ (s : Shared) (v : Value), BindsTo s fd ⟨[v], []⟩ [("_law_script", v)]) ∧ ∀ base : Heap, K.In base → base.Ns mainGlobals mg → (∀ p ∈ tfs.map (He.cT K), LamX.TabB base mg p.1 p.2) → FnG P w K mg base CX0 33 f fd ["_law_script"] (spLaw K (TTl K)) := by
  have c := c2.s.t
  have T : Tx K mg := tx_of X G c
  have e := hfa.symm.trans (He.glo_ok X G gl)
  cases e
  obtain ⟨f0, F0⟩ := c.def_ 0 (d := d_TooMany___init__) rfl
  obtain ⟨f1, F1⟩ := c.def_ 1 (d := d_BadStep___init__) rfl
  obtain ⟨f2, F2⟩ := c.def_ 2 (d := d__law_pen) rfl
  obtain ⟨f3, F3⟩ := c.def_ 3 (d := d__law_draw) rfl
  obtain ⟨f4, F4⟩ := c.def_ 4 (d := d_is_integer) rfl
  obtain ⟨f5, F5⟩ := c.def_ 5 (d := d_is_within) rfl
  obtain ⟨f6, F6⟩ := c.def_ 6 (d := d_Span___init__) rfl
  obtain ⟨f7, F7⟩ := c.def_ 7 (d := d_Span_halves) rfl
  obtain ⟨f8, F8⟩ := c.def_ 8 (d := d_Span_more) rfl
  obtain ⟨f9, F9⟩ := c.def_ 9 (d := d_Span_odd) rfl
  obtain ⟨f10, F10⟩ := c.def_ 10 (d := d_Span___eq__) rfl
  obtain ⟨f11, F11⟩ := c.def_ 11 (d := d_are_told) rfl
  obtain ⟨f12, F12⟩ := c.def_ 12 (d := d_ascending) rfl
  obtain ⟨f13, F13⟩ := c.def_ 13 (d := d_Sided___init___at_Change) rfl
  obtain ⟨f14, F14⟩ := c.def_ 14 (d := d_Sided___init___at_Stretch) rfl
  obtain ⟨f15, F15⟩ := c2.sup_ 0 (d := ds_Change___init__) rfl
  obtain ⟨f16, F16⟩ := c.def_ 15 (d := d_Change_weight) rfl
  obtain ⟨f17, F17⟩ := c.def_ 16 (d := d_Change___eq__) rfl
  obtain ⟨f18, F18⟩ := c2.sup_ 1 (d := ds_Stretch___init__) rfl
  obtain ⟨f19, F19⟩ := c.def_ 17 (d := d_Stretch_weight) rfl
  obtain ⟨f20, F20⟩ := c.def_ 18 (d := d_Stretch___eq__) rfl
  obtain ⟨f21, F21⟩ := c.def_ 19 (d := d_Step_said_at_Change) rfl
  obtain ⟨f22, F22⟩ := c.def_ 20 (d := d_Step_done_at_Change) rfl
  obtain ⟨f23, F23⟩ := c.def_ 21 (d := d_Step_deep_at_Change) rfl
  obtain ⟨f24, F24⟩ := c.def_ 22 (d := d_Step_said_at_Stretch) rfl
  obtain ⟨f25, F25⟩ := c.def_ 23 (d := d_Step_done_at_Stretch) rfl
  obtain ⟨f26, F26⟩ := c.def_ 24 (d := d_Step_deep_at_Stretch) rfl
  obtain ⟨f27, F27⟩ := c.def_ 25 (d := d_Block_said) rfl
  obtain ⟨f28, F28⟩ := c.def_ 26 (d := d_Block_done) rfl
  obtain ⟨f29, F29⟩ := c.def_ 27 (d := d_Block_weight) rfl
  obtain ⟨f30, F30⟩ := c.def_ 28 (d := d_deepest) rfl
  obtain ⟨f31, F31⟩ := c.def_ 29 (d := d_Block_deep) rfl
  obtain ⟨f32, F32⟩ := c.def_ 30 (d := d_need_steps) rfl
  obtain ⟨f33, F33⟩ := c.def_ 31 (d := d_need_size) rfl
  obtain ⟨f34, F34⟩ := c.def_ 32 (d := d_Holder___init___at_Block) rfl
  obtain ⟨f35, F35⟩ := c2.sup_ 2 (d := ds_Block___init__) rfl
  obtain ⟨f36, F36⟩ := c.def_ 33 (d := d_Block___eq__) rfl
  obtain ⟨f37, F37⟩ := c.def_ 34 (d := d_Block_of) rfl
  obtain ⟨f38, F38⟩ := c.def_ 35 (d := d_Program_said) rfl
  obtain ⟨f39, F39⟩ := c.def_ 36 (d := d_Program_done) rfl
  obtain ⟨f40, F40⟩ := c.def_ 37 (d := d_Program_weight) rfl
  obtain ⟨f41, F41⟩ := c.def_ 38 (d := d_Program_deep) rfl
  obtain ⟨f42, F42⟩ := c.def_ 39 (d := d_Holder___init___at_Program) rfl
  obtain ⟨f43, F43⟩ := c2.sup_ 3 (d := ds_Program___init__) rfl
  obtain ⟨f44, F44⟩ := c.def_ 40 (d := d__law_pick) rfl
  obtain ⟨f45, F45⟩ := c.def_ 41 (d := d__law_places) rfl
  obtain ⟨f46, F46⟩ := c.def_ 42 (d := d__law_span) rfl
  obtain ⟨f47, F47⟩ := c.def_ 43 (d := d__law_weight) rfl
  obtain ⟨f48, F48⟩ := c.def_ 44 (d := d__law_step) rfl
  obtain ⟨f49, F49⟩ := c.def_ 45 (d := d__law_said) rfl
  obtain ⟨f50, F50⟩ := c.def_ 46 (d := d__law_parts) rfl
  obtain ⟨f51, F51⟩ := c.def_ 47 (d := d__law_made) rfl
  obtain ⟨f52, F52⟩ := c.def_ 48 (d := d__law_heard) rfl
  obtain ⟨f53, F53⟩ := c.def_ 49 (d := d__law_deep) rfl
  obtain ⟨f54, F54⟩ := c.def_ 50 (d := d__law_kept_right) rfl
  obtain ⟨f55, F55⟩ := c.def_ 51 (d := d__law_spoilt_right) rfl
  obtain ⟨f56, F56⟩ := c.def_ 52 (d := d__law_bounds_right) rfl
  obtain ⟨f57, F57⟩ := c.def_ 53 (d := d_law) rfl
  have b57 := FunD.bindsA (ps := ["_law_script"]) F57 fun _ _ _ _ _ _ us hl => match us, hl with | [_], _ => rfl
  refine ⟨f57, fun s v => b57 s [v] rfl, fun base _ _ TB => ?_⟩
  have lm__law_kept_right : LamD base mg K (TTl K) d__law_kept_right ("_law_kept_right", none) := ⟨TB _ (List.mem_map.mpr ⟨_, by decide, rfl⟩), by simp only [TTl, List.mem_cons, true_or, or_true], fun p hp e => by
      simp only [TTl, List.mem_cons, List.mem_nil_iff, or_false] at hp
      rcases hp with rfl | rfl | rfl
      · rfl
      · exact absurd e (T.tn__law_kept_right__law_spoilt_right).symm
      · exact absurd e (T.tn__law_kept_right__law_bounds_right).symm⟩
  have lm__law_spoilt_right : LamD base mg K (TTl K) d__law_spoilt_right ("_law_spoilt_right", none) := ⟨TB _ (List.mem_map.mpr ⟨_, by decide, rfl⟩), by simp only [TTl, List.mem_cons, true_or, or_true], fun p hp e => by
      simp only [TTl, List.mem_cons, List.mem_nil_iff, or_false] at hp
      rcases hp with rfl | rfl | rfl
      · exact absurd e T.tn__law_kept_right__law_spoilt_right
      · rfl
      · exact absurd e (T.tn__law_spoilt_right__law_bounds_right).symm⟩
  have lm__law_bounds_right : LamD base mg K (TTl K) d__law_bounds_right ("_law_bounds_right", none) := ⟨TB _ (List.mem_map.mpr ⟨_, by decide, rfl⟩), by simp only [TTl, List.mem_cons, true_or, or_true], fun p hp e => by
      simp only [TTl, List.mem_cons, List.mem_nil_iff, or_false] at hp
      rcases hp with rfl | rfl | rfl
      · exact absurd e T.tn__law_kept_right__law_bounds_right
      · exact absurd e T.tn__law_spoilt_right__law_bounds_right
      · rfl⟩
  have p0 : PromO P w K mg base CX0 1 (md "TooMany" "__init__" K) [] (spErr2 (gd "TooMany" K) "what" "most") := pm_PromO (ok_TooMany___init__ F0 T ) (F0.bindsN fun _ _ _ _ _ _ us hl => match us, hl with | [_, _, _], _ => rfl)
  have p1 : PromO P w K mg base CX0 1 (md "BadStep" "__init__" K) [] (spErr1 (gd "BadStep" K) "at") := pm_PromO (ok_BadStep___init__ F1 T ) (F1.bindsN fun _ _ _ _ _ _ us hl => match us, hl with | [_, _], _ => rfl)
  have p2 : PromO P w K mg base CX0 1 (gd "_law_pen" K) [] (spPn K) := pm_PromO (ok__law_pen F2 T ) (F2.bindsN fun _ _ _ _ _ _ us hl => match us, hl with | [_], _ => rfl)
  have p3 : PromO P w K mg base CX0 1 (gd "_law_draw" K) [] (spF K (TTl K) (ul2 F_draw)) := pm_PromO (ok__law_draw (Tb := TTl K) F3 T ) (F3.bindsN fun _ _ _ _ _ _ us hl => match us, hl with | [_, _], _ => rfl)
  have p4 : PromO P w K mg base CX0 1 (gd "is_integer" K) [] (spF K (TTl K) (ul1 F_is_integer)) := pm_PromO (ok_is_integer (Tb := TTl K) F4 T ) (F4.bindsN fun _ _ _ _ _ _ us hl => match us, hl with | [_], _ => rfl)
  have p5 : PromO P w K mg base CX0 2 (gd "is_within" K) [] (spF K (TTl K) (ul3 F_is_within)) := pm_PromO (ok_is_within (Tb := TTl K) F5 T p4) (F5.bindsN fun _ _ _ _ _ _ us hl => match us, hl with | [_, _, _], _ => rfl)
  have p6 : PromO P w K mg base CX0 3 (md "Span" "__init__" K) [] (spI K (TTl K) "Span" (fun fs => ul3 (F_Span___init__ fs))) := by
    obtain ⟨ds, hv, hb⟩ := FunD.binds1 (ps := ["self", "halves", "more", "odd"]) F6 4 2 (by intro z; cases z) rfl fun _ _ _ _ _ _ _ us its hu hi => match us, hu, its, hi with | [_, _, _, _], _, [_, _], _ => ⟨_, rfl, rfl⟩
    cases hv
    exact pm_PromO (ok_Span___init__ (Tb := TTl K) F6 T p5) hb
  have pd6_0 : PromO P w K mg base CX0 3 (md "Span" "__init__" K) [V.int 0, V.int 0] (spI K (TTl K) "Span" (fun fs => ul3 (F_Span___init__ fs))) := by
    obtain ⟨ds, hv, hb⟩ := FunD.binds1 (ps := ["self", "halves", "more", "odd"]) F6 2 0 (by intro z; cases z) rfl fun _ _ _ _ _ _ _ us its hu hi => match us, hu, its, hi with | [_, _], _, [_, _], _ => ⟨_, rfl, rfl⟩
    exact ⟨_, _, ds, (ok_Span___init__ (Tb := TTl K) F6 T p5), hb, hv⟩
  have p7 : PromO P w K mg base CX0 1 (propG "Span" "halves" K) [] (spF K (TTl K) (ul1 F_Span_halves)) := pm_PromO (ok_Span_halves (Tb := TTl K) F7 T ) (F7.bindsN fun _ _ _ _ _ _ us hl => match us, hl with | [_], _ => rfl)
  have p8 : PromO P w K mg base CX0 1 (propG "Span" "more" K) [] (spF K (TTl K) (ul1 F_Span_more)) := pm_PromO (ok_Span_more (Tb := TTl K) F8 T ) (F8.bindsN fun _ _ _ _ _ _ us hl => match us, hl with | [_], _ => rfl)
  have p9 : PromO P w K mg base CX0 1 (propG "Span" "odd" K) [] (spF K (TTl K) (ul1 F_Span_odd)) := pm_PromO (ok_Span_odd (Tb := TTl K) F9 T ) (F9.bindsN fun _ _ _ _ _ _ us hl => match us, hl with | [_], _ => rfl)
  have p10 : PromO P w K mg base CX0 1 (md "Span" "__eq__" K) [] (spF K (TTl K) (ul2 F_Span___eq__)) := pm_PromO (ok_Span___eq__ (Tb := TTl K) F10 T ) (F10.bindsN fun _ _ _ _ _ _ us hl => match us, hl with | [_, _], _ => rfl)
  have p11 : PromO P w K mg base CX0 3 (gd "are_told" K) [] (spF K (TTl K) (ul1 F_are_told)) := pm_PromO (ok_are_told (Tb := TTl K) F11 T p5) (F11.bindsN fun _ _ _ _ _ _ us hl => match us, hl with | [_], _ => rfl)
  have p12 : PromO P w K mg base CX0 1 (gd "ascending" K) [] (spF K (TTl K) (ul1 F_ascending)) := pm_PromO (ok_ascending (Tb := TTl K) F12 T ) (F12.bindsN fun _ _ _ _ _ _ us hl => match us, hl with | [_], _ => rfl)
  have p13 : PromO P w K mg base CX0 1 (md "Sided" "__init__" K) [] (spI K (TTl K) "Change" (fun fs => ul1 (F_Sided___init___at_Change fs))) := pm_PromO (ok_Sided___init___at_Change (Tb := TTl K) F13 T ) (F13.bindsN fun _ _ _ _ _ _ us hl => match us, hl with | [_, _], _ => rfl)
  have p14 : PromO P w K mg base CX0 1 (md "Sided" "__init__" K) [] (spI K (TTl K) "Stretch" (fun fs => ul1 (F_Sided___init___at_Stretch fs))) := pm_PromO (ok_Sided___init___at_Stretch (Tb := TTl K) F14 T ) (F14.bindsN fun _ _ _ _ _ _ us hl => match us, hl with | [_, _], _ => rfl)
  have p15 : PromO P w K mg base CX0 4 (md "Change" "__init__" K) [] (spI K (TTl K) "Change" (fun fs => ul3 (F_Change___init__ fs))) := by
    obtain ⟨ds, hv, hb⟩ := SupF.binds1 (ps := ["self", "front", "back", "side"]) F15 4 3 (by intro z; cases z) rfl fun _ _ _ _ _ _ _ _ us its hu hi => match us, hu, its, hi with | [_, _, _, _], _, [_, _, _], _ => ⟨_, rfl, rfl⟩
    cases hv
    exact pm_PromO (ok_Change___init__ (Tb := TTl K) F15 T hP p11 p13 p12) hb
  have pd15_0 : PromO P w K mg base CX0 4 (md "Change" "__init__" K) [V.ref (He.dflAt (("Change", some "__init__")) 0 K), V.ref (He.dflAt (("Change", some "__init__")) 1 K), V.str "front"] (spI K (TTl K) "Change" (fun fs => ul3 (F_Change___init__ fs))) := by
    obtain ⟨ds, hv, hb⟩ := SupF.binds1 (ps := ["self", "front", "back", "side"]) F15 1 0 (by intro z; cases z) rfl fun _ _ _ _ _ _ _ _ us its hu hi => match us, hu, its, hi with | [_], _, [_, _, _], _ => ⟨_, rfl, rfl⟩
    exact ⟨_, _, ds, (ok_Change___init__ (Tb := TTl K) F15 T hP p11 p13 p12), hb, hv⟩
  have pd15_1 : PromO P w K mg base CX0 4 (md "Change" "__init__" K) [V.ref (He.dflAt (("Change", some "__init__")) 1 K), V.str "front"] (spI K (TTl K) "Change" (fun fs => ul3 (F_Change___init__ fs))) := by
    obtain ⟨ds, hv, hb⟩ := SupF.binds1 (ps := ["self", "front", "back", "side"]) F15 2 1 (by intro z; cases z) rfl fun _ _ _ _ _ _ _ _ us its hu hi => match us, hu, its, hi with | [_, _], _, [_, _, _], _ => ⟨_, rfl, rfl⟩
    exact ⟨_, _, ds, (ok_Change___init__ (Tb := TTl K) F15 T hP p11 p13 p12), hb, hv⟩
  have p16 : PromO P w K mg base CX0 1 (propG "Change" "weight" K) [] (spF K (TTl K) (ul1 F_Change_weight)) := pm_PromO (ok_Change_weight (Tb := TTl K) F16 T ) (F16.bindsN fun _ _ _ _ _ _ us hl => match us, hl with | [_], _ => rfl)
  have p17 : PromO P w K mg base CX0 1 (md "Change" "__eq__" K) [] (spF K (TTl K) (ul2 F_Change___eq__)) := pm_PromO (ok_Change___eq__ (Tb := TTl K) F17 T ) (F17.bindsN fun _ _ _ _ _ _ us hl => match us, hl with | [_, _], _ => rfl)
  have p18 : PromO P w K mg base CX0 3 (md "Stretch" "__init__" K) [] (spI K (TTl K) "Stretch" (fun fs => ul4 (F_Stretch___init__ fs))) := by
    obtain ⟨ds, hv, hb⟩ := SupF.binds1 (ps := ["self", "first", "span", "side", "late"]) F18 5 2 (by intro z; cases z) rfl fun _ _ _ _ _ _ _ _ us its hu hi => match us, hu, its, hi with | [_, _, _, _, _], _, [_, _], _ => ⟨_, rfl, rfl⟩
    cases hv
    exact pm_PromO (ok_Stretch___init__ (Tb := TTl K) F18 T hP p5 p14) hb
  have pd18_0 : PromO P w K mg base CX0 3 (md "Stretch" "__init__" K) [V.str "front", V.bl false] (spI K (TTl K) "Stretch" (fun fs => ul4 (F_Stretch___init__ fs))) := by
    obtain ⟨ds, hv, hb⟩ := SupF.binds1 (ps := ["self", "first", "span", "side", "late"]) F18 3 0 (by intro z; cases z) rfl fun _ _ _ _ _ _ _ _ us its hu hi => match us, hu, its, hi with | [_, _, _], _, [_, _], _ => ⟨_, rfl, rfl⟩
    exact ⟨_, _, ds, (ok_Stretch___init__ (Tb := TTl K) F18 T hP p5 p14), hb, hv⟩
  have p19 : PromO P w K mg base CX0 3 (propG "Stretch" "weight" K) [] (spF K (TTl K) (ul1 F_Stretch_weight)) := pm_PromO (ok_Stretch_weight (Tb := TTl K) F19 T p7 p8 p9) (F19.bindsN fun _ _ _ _ _ _ us hl => match us, hl with | [_], _ => rfl)
  have p20 : PromO P w K mg base CX0 2 (md "Stretch" "__eq__" K) [] (spF K (TTl K) (ul2 F_Stretch___eq__)) := pm_PromO (ok_Stretch___eq__ (Tb := TTl K) F20 T p10) (F20.bindsN fun _ _ _ _ _ _ us hl => match us, hl with | [_, _], _ => rfl)
  have p21 : PromO P w K mg base CX0 1 (propG "Change" "said" K) [] (spF K (TTl K) (ul1 F_Step_said_at_Change)) := pm_PromO (ok_Step_said_at_Change (Tb := TTl K) F21 T ) (F21.bindsN fun _ _ _ _ _ _ us hl => match us, hl with | [_], _ => rfl)
  have p22 : PromO P w K mg base CX0 1 (propG "Change" "done" K) [] (spF K (TTl K) (ul1 F_Step_done_at_Change)) := pm_PromO (ok_Step_done_at_Change (Tb := TTl K) F22 T ) (F22.bindsN fun _ _ _ _ _ _ us hl => match us, hl with | [_], _ => rfl)
  have p23 : PromO P w K mg base CX0 1 (propG "Change" "deep" K) [] (spF K (TTl K) (ul1 F_Step_deep_at_Change)) := pm_PromO (ok_Step_deep_at_Change (Tb := TTl K) F23 T ) (F23.bindsN fun _ _ _ _ _ _ us hl => match us, hl with | [_], _ => rfl)
  have p24 : PromO P w K mg base CX0 1 (propG "Stretch" "said" K) [] (spF K (TTl K) (ul1 F_Step_said_at_Stretch)) := pm_PromO (ok_Step_said_at_Stretch (Tb := TTl K) F24 T ) (F24.bindsN fun _ _ _ _ _ _ us hl => match us, hl with | [_], _ => rfl)
  have p25 : PromO P w K mg base CX0 1 (propG "Stretch" "done" K) [] (spF K (TTl K) (ul1 F_Step_done_at_Stretch)) := pm_PromO (ok_Step_done_at_Stretch (Tb := TTl K) F25 T ) (F25.bindsN fun _ _ _ _ _ _ us hl => match us, hl with | [_], _ => rfl)
  have p26 : PromO P w K mg base CX0 1 (propG "Stretch" "deep" K) [] (spF K (TTl K) (ul1 F_Step_deep_at_Stretch)) := pm_PromO (ok_Step_deep_at_Stretch (Tb := TTl K) F26 T ) (F26.bindsN fun _ _ _ _ _ _ us hl => match us, hl with | [_], _ => rfl)
  have bn27 : Binds K f27 ["self"] [] := F27.bindsN fun _ _ _ _ _ _ us hl => match us, hl with | [_], _ => rfl
  have p27 : PromO P w K mg base CX0 13 (propG "Block" "said" K) [] (spF K (TTl K) (ul1 (F_Block_said 5))) := pm_PromO (ok_Block_said (Tb := TTl K) F27 T bn27 p21 p24 5) bn27
  have bn28 : Binds K f28 ["self"] [] := F28.bindsN fun _ _ _ _ _ _ us hl => match us, hl with | [_], _ => rfl
  have p28 : PromO P w K mg base CX0 13 (propG "Block" "done" K) [] (spF K (TTl K) (ul1 (F_Block_done 5))) := pm_PromO (ok_Block_done (Tb := TTl K) F28 T bn28 p22 p25 5) bn28
  have bn29 : Binds K f29 ["self"] [] := F29.bindsN fun _ _ _ _ _ _ us hl => match us, hl with | [_], _ => rfl
  have p29 : PromO P w K mg base CX0 15 (propG "Block" "weight" K) [] (spF K (TTl K) (ul1 (F_Block_weight 5))) := pm_PromO (ok_Block_weight (Tb := TTl K) F29 T bn29 p16 p19 5) bn29
  have gm30 : ∀ {rB : D → Tr D} {kr : Nat}, PromO P w K mg base CX0 kr (propG "Block" "deep" K) [] (spF K (TTl K) (ul1 rB)) → PromO P w K mg base CX0 (kr + 3) (gd "deepest" K) [] (spF K (TTl K) (ul1 (F_deepest rB))) := fun G => pm_PromO (ok_deepest (Tb := TTl K) F30 T p23 p26 G) (F30.bindsN fun _ _ _ _ _ _ us hl => match us, hl with | [_], _ => rfl)
  have bn31 : Binds K f31 ["self"] [] := F31.bindsN fun _ _ _ _ _ _ us hl => match us, hl with | [_], _ => rfl
  have p31 : PromO P w K mg base CX0 21 (propG "Block" "deep" K) [] (spF K (TTl K) (ul1 (F_Block_deep 5))) := pm_PromO (ok_Block_deep (Tb := TTl K) F31 T bn31  gm30 5) bn31
  have p30 := gm30 p31
  have p32 : PromO P w K mg base (L2.CX P w) 3 (gd "need_steps" K) [] (spF K (TTl K) (ul1 F_need_steps)) := pm_PromO (ok_need_steps (Tb := TTl K) F32 T p1) (F32.bindsN fun _ _ _ _ _ _ us hl => match us, hl with | [_], _ => rfl)
  have p33 : PromO P w K mg base (L2.CX P w) 3 (gd "need_size" K) [] (spF K (TTl K) (ul4 F_need_size)) := pm_PromO (ok_need_size (Tb := TTl K) F33 T p0) (F33.bindsN fun _ _ _ _ _ _ us hl => match us, hl with | [_, _, _, _], _ => rfl)
  have p34 : PromO P w K mg base CX0 1 (md "Holder" "__init__" K) [] (spI K (TTl K) "Block" (fun fs => ul1 (F_Holder___init___at_Block fs))) := pm_PromO (ok_Holder___init___at_Block (Tb := TTl K) F34 T ) (F34.bindsN fun _ _ _ _ _ _ us hl => match us, hl with | [_, _], _ => rfl)
  have p35 : FnR P w K mg base (L2.CX P w) 23 (md "Block" "__init__" K) (starSp 2 (spI K (TTl K) "Block" (fun fs => ul2 (F_Block___init__ fs)))) := (ok_Block___init__ (Tb := TTl K) F35 T hP p5 p1 p32 p34 p33 p27 p28 p29 p31)
  have bn36 : Binds K f36 ["self", "other"] [] := F36.bindsN fun _ _ _ _ _ _ us hl => match us, hl with | [_, _], _ => rfl
  have p36 : PromO P w K mg base CX0 14 (md "Block" "__eq__" K) [] (spF K (TTl K) (ul2 (F_Block___eq__ 5))) := pm_PromO (ok_Block___eq__ (Tb := TTl K) F36 T bn36 p17 p20 5) bn36
  have p37 : PromO P w K mg base (L2.CX P w) 25 (clsG "Block" "of" K) [] (spK K (TTl K) "Block" (ul2 F_Block_of)) := pm_PromO (ok_Block_of (Tb := TTl K) F37 T p35) (F37.bindsN fun _ _ _ _ _ _ us hl => match us, hl with | [_, _, _], _ => rfl)
  have p38 : PromO P w K mg base CX0 15 (propG "Program" "said" K) [] (spF K (TTl K) (ul1 F_Program_said)) := pm_PromO (ok_Program_said (Tb := TTl K) F38 T p21 p24 p27) (F38.bindsN fun _ _ _ _ _ _ us hl => match us, hl with | [_], _ => rfl)
  have p39 : PromO P w K mg base CX0 15 (propG "Program" "done" K) [] (spF K (TTl K) (ul1 F_Program_done)) := pm_PromO (ok_Program_done (Tb := TTl K) F39 T p22 p25 p28) (F39.bindsN fun _ _ _ _ _ _ us hl => match us, hl with | [_], _ => rfl)
  have p40 : PromO P w K mg base CX0 17 (propG "Program" "weight" K) [] (spF K (TTl K) (ul1 F_Program_weight)) := pm_PromO (ok_Program_weight (Tb := TTl K) F40 T p16 p19 p29) (F40.bindsN fun _ _ _ _ _ _ us hl => match us, hl with | [_], _ => rfl)
  have p41 : PromO P w K mg base CX0 25 (propG "Program" "deep" K) [] (spF K (TTl K) (ul1 F_Program_deep)) := pm_PromO (ok_Program_deep (Tb := TTl K) F41 T p30) (F41.bindsN fun _ _ _ _ _ _ us hl => match us, hl with | [_], _ => rfl)
  have p42 : PromO P w K mg base CX0 1 (md "Holder" "__init__" K) [] (spI K (TTl K) "Program" (fun fs => ul1 (F_Holder___init___at_Program fs))) := pm_PromO (ok_Holder___init___at_Program (Tb := TTl K) F42 T ) (F42.bindsN fun _ _ _ _ _ _ us hl => match us, hl with | [_, _], _ => rfl)
  have p43 : FnR P w K mg base (L2.CX P w) 27 (md "Program" "__init__" K) (starSp 1 (spI K (TTl K) "Program" (fun fs => ul1 (F_Program___init__ fs)))) := (ok_Program___init__ (Tb := TTl K) F43 T hP p32 p42 p33 p38 p39 p40 p41)
  have p44 : PromO P w K mg base CX0 2 (gd "_law_pick" K) [] (spF K (TTl K) (ul2 F__law_pick)) := pm_PromO (ok__law_pick (Tb := TTl K) F44 T p3) (F44.bindsN fun _ _ _ _ _ _ us hl => match us, hl with | [_, _], _ => rfl)
  have p45 : PromO P w K mg base CX0 3 (gd "_law_places" K) [] (spF K (TTl K) (ul1 F__law_places)) := pm_PromO (ok__law_places (Tb := TTl K) F45 T p44 p3) (F45.bindsN fun _ _ _ _ _ _ us hl => match us, hl with | [_], _ => rfl)
  have p46 : PromO P w K mg base CX0 3 (gd "_law_span" K) [] (spF K (TTl K) (ul1 F__law_span)) := pm_PromO (ok__law_span (Tb := TTl K) F46 T p44 p3) (F46.bindsN fun _ _ _ _ _ _ us hl => match us, hl with | [_], _ => rfl)
  have bn47 : Binds K f47 ["_law_part"] [] := F47.bindsN fun _ _ _ _ _ _ us hl => match us, hl with | [_], _ => rfl
  have p47 : PromO P w K mg base CX0 6 (gd "_law_weight" K) [] (spF K (TTl K) (ul1 (F__law_weight 5))) := pm_PromO (ok__law_weight (Tb := TTl K) F47 T bn47  5) bn47
  have bn48 : Binds K f48 ["_law_pen_here", "_law_deep_here"] [] := F48.bindsN fun _ _ _ _ _ _ us hl => match us, hl with | [_, _], _ => rfl
  have p48 : PromO P w K mg base CX0 12 (gd "_law_step" K) [] (spF K (TTl K) (ul2 (F__law_step 5))) := pm_PromO (ok__law_step (Tb := TTl K) F48 T bn48 p3 p44 p45 p46 p47 5) bn48
  have bn49 : Binds K f49 ["_law_part"] [] := F49.bindsN fun _ _ _ _ _ _ us hl => match us, hl with | [_], _ => rfl
  have p49 : PromO P w K mg base CX0 6 (gd "_law_said" K) [] (spF K (TTl K) (ul1 (F__law_said 5))) := pm_PromO (ok__law_said (Tb := TTl K) F49 T bn49  5) bn49
  have p50 : PromO P w K mg base CX0 13 (gd "_law_parts" K) [] (spF K (TTl K) (ul3 F__law_parts)) := pm_PromO (ok__law_parts (Tb := TTl K) F50 T p3 p48 p47 p49) (F50.bindsN fun _ _ _ _ _ _ us hl => match us, hl with | [_, _, _], _ => rfl)
  have bn51 : Binds K f51 ["_law_part"] [] := F51.bindsN fun _ _ _ _ _ _ us hl => match us, hl with | [_], _ => rfl
  have p51 : PromO P w K mg base CX0 31 (gd "_law_made" K) [] (spF K (TTl K) (ul1 (F__law_made 5))) := pm_PromO (ok__law_made (Tb := TTl K) F51 T bn51 p15 p18 p6 p37 5) bn51
  have p52 : HrdP K d__law_heard ["_law_ask"] := ⟨f52, F52, F52.bindsN fun _ _ _ _ _ _ us hl => match us, hl with | [_], _ => rfl⟩
  have bn53 : Binds K f53 ["_law_parts_here"] [] := F53.bindsN fun _ _ _ _ _ _ us hl => match us, hl with | [_], _ => rfl
  have p53 : PromO P w K mg base CX0 6 (gd "_law_deep" K) [] (spF K (TTl K) (ul1 (F__law_deep 5))) := pm_PromO (ok__law_deep (Tb := TTl K) F53 T bn53  5) bn53
  have p54 : Prom P w K mg base CX0 32 (gd "_law_kept_right" K) [] (spF K (TTl K) (ul1 F__law_kept_right)) := pm_Prom (ok__law_kept_right (Tb := TTl K) F54 T p50 p51 p44 p52 lm__law_kept_right p37 p53 pd15_0 p17 p20 p36) (F54.bindsN fun _ _ _ _ _ _ us hl => match us, hl with | [_], _ => rfl)
  have p55 : PromO P w K mg base CX0 29 (gd "_law_spoilt_right" K) [] (spF K (TTl K) (ul1 F__law_spoilt_right)) := pm_PromO (ok__law_spoilt_right (Tb := TTl K) F55 T pd15_0 pd18_0 pd6_0 pd15_1 p35 p3 p44 p43 p52 lm__law_spoilt_right p37) (F55.bindsN fun _ _ _ _ _ _ us hl => match us, hl with | [_], _ => rfl)
  have p56 : PromO P w K mg base CX0 29 (gd "_law_bounds_right" K) [] (spF K (TTl K) (ul1 F__law_bounds_right)) := pm_PromO (ok__law_bounds_right (Tb := TTl K) F56 T pd15_0 pd18_0 p6 p3 p44 p7 p35 p52 lm__law_bounds_right p37 p43 p17 p20 p36) (F56.bindsN fun _ _ _ _ _ _ us hl => match us, hl with | [_], _ => rfl)
  exact ok_law (Tb := TTl K) F57 T law_yes p2 p54 p55 p56
end Lw
open PySem PySem.W PySem.Calls PyProof.Rows
set_option maxRecDepth 100000 in
set_option maxHeartbeats 0 in
theorem PySem.Challenge.cw_everyhunt_k27_blocks_made_holds : PySem.Challenge.rw_everyhunt_k27_blocks_made.Holds := by
  w_on; o_law
  refine HandSHeadRun.head_any (r := OpenLaw.row PySem.Challenge.rw_everyhunt_k27_blocks_made) (q := view (OpenLaw.row PySem.Challenge.rw_everyhunt_k27_blocks_made).prog [81]) (H := Lw.hk) (ob := Lw.ob) (M := 30000) (loose := Lw.loose) (d := HandSHeadRun.topDef (OpenLaw.row PySem.Challenge.rw_everyhunt_k27_blocks_made).prog 81) (kwd := []) Lw.ob_eq
    (by kernel_rfl) (fun s => by kernel_rfl) Lw.run (by kernel_rfl) (by kernel_rfl) (by kernel_rfl) (by rfl) (by first | assumption | decide +kernel) (by decide +kernel) ⟨rfl, rfl, rfl, rfl, rfl, by decide +kernel⟩ ?hw ?hc
  case hw => w_witness2
  case hc =>
    refine Gh.walk_ofTsG (l := PySem.Challenge.rw_everyhunt_k27_blocks_made) (n := 63) (k := 33) (x := "_law_script") (CX := fun _ => L2.CX0) rfl (by decide) (by kernel_rfl) ⟨rfl, by decide, by decide⟩ ?F (fun _ _ _ _ _ z => z)
    intro w mg fa h Y G hmg0
    obtain ⟨K, KX, c⟩ := Y
    have hmg : mg ("law" : PySem.Str) = some (.ref fa) := by
      have e : (HandSHeadRun.topDef (OpenLaw.row PySem.Challenge.rw_everyhunt_k27_blocks_made).prog 81).name = ("law" : PySem.Str) := by kernel_rfl
      rw [← e]
      exact hmg0
    obtain ⟨fd, hb, hF⟩ := Lw.facts (P := (PySem.Challenge.rw_everyhunt_k27_blocks_made).prog) (w := w) KX G hmg c (c.s.t.fact 240 rfl) ⟨by kernel_rfl, by kernel_rfl⟩
    refine ⟨K, fd, Lw.tfs.map (He.cT K), Gp.spLaw K (Lw.TTl K), KX, fun p hp => ?_, fun p hp => ?_, fun p hp => ?_, hb, fun H a ns hl hT hS => ⟨a, ns, rfl, hS, hl, fun p hp => ?_, fun _ => rfl⟩, fun base h1 h2 h3 => hF base h1 h2 h3⟩
    · obtain ⟨d, hd, rfl⟩ := List.mem_map.mp hp
      exact c.s.empty d hd
    · obtain ⟨d, hd, rfl⟩ := List.mem_map.mp hp
      exact c.s.out d hd
    · obtain ⟨d, hd, rfl⟩ := List.mem_map.mp hp
      exact PySem.W.codeHd_of_K KX (c.s.hd d hd)
    · have e : ∀ p ∈ Lw.TTl K, ∃ d ∈ Lw.tfs.map (He.cT K), p.1 = d.2 := fun p hp => by
        have z : (Lw.TTl K).map (·.1) = (Lw.tfs.map (He.cT K)).map (·.2) := rfl
        have m : p.1 ∈ (Lw.tfs.map (He.cT K)).map (·.2) := by rw [← z]; exact List.mem_map.mpr ⟨p, hp, rfl⟩
        obtain ⟨d, hd, e⟩ := List.mem_map.mp m
        exact ⟨d, hd, e.symm⟩
      obtain ⟨d, hd, ed⟩ := e p hp
      exact LamX.TabS.nil (by rw [ed]; exact hT d hd)
#print axioms PySem.Challenge.cw_everyhunt_k27_blocks_made_holds
end
